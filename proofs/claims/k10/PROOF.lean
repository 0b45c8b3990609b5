import PyProof.Rows.All
import Wide.All
import OpenK.AllK
import Wide.FinOn
import HandS.ForMost
import HandS.ForExc
import HandS.IsInst
import HandS.TupAny
import HandS.Deep
import HandS.Flow
import HandS.Zip
import HandS.Comp
import HandS.Walk
import HandS.TupLen
import HandS.Conv
import HandS.SortInts
import HandS.SortRule
import HandS.SetFor
import HandS.More
import HandS.Property
import HandS.NoneIn
import HandS.TupLe
import HandS.Ends
import HandS.DictComp
import HandS.Style
import HandS.ExcOwn
import HandS.ExcIs
import PyProof.ExcBaseAll.ValueError
import HandS.Iter
import KE.SortUse
import KE.DataCmp
import HandS.Strs
import PyProof.EqKinds
import HandS.ExcInit
import HandS.ExcField
import KE.KExcSuper
import KE.KSuper
import HandS.TryMany
import PySem.Challenge.RW_storelands_k10_whole_contents_drawn_toge
set_option Elab.async false
set_option linter.all false
set_option maxRecDepth 100000
set_option maxHeartbeats 2000000
namespace DL
open PySem PySem.Spec PyProof.Rows L2

/-- data: scalars, references (what may change), frozen tuples and lists -/
inductive D where
  | non | bl (b : Bool) | int (i : Int) | str (x : Str) | ref (a : Addr) | ty (n : String)
  | tup (l : List D) | lst (l : List D) | kt (l : List D) | ls (l : List D)
  | dk (ks : List Key) (l : List D) | dt (ks : List (List Key)) (l : List D)

/-- what may change -/
inductive MO where
  | lst (l : List D)
  | dK (kvs : List (Key × D))
  | dT (kvs : List (List Key × D))
  | ins (C : Addr) (fs : List (Str × D))

abbrev Mp := Addr → Option MO
def mset (M : Mp) (a : Addr) (o : MO) : Mp := fun b => if b = a then some o else M b
def mdel (M : Mp) (a : Addr) : Mp := fun b => if b = a then none else M b
theorem mne_of_none {M : Mp} {a b : Addr} {o : MO} (h : M a = some o) (h' : M b = none) : a ≠ b := by
  intro e; subst e; rw [h] at h'; cases h'
theorem mset_same {M : Mp} {a : Addr} {o : MO} : mset M a o a = some o := if_pos rfl
theorem mset_ne {M : Mp} {a b : Addr} {o : MO} (h : b ≠ a) : mset M a o b = M b := if_neg h
theorem mdel_same {M : Mp} {a : Addr} : mdel M a a = none := if_pos rfl
theorem mdel_ne {M : Mp} {a b : Addr} (h : b ≠ a) : mdel M a b = M b := if_neg h
theorem mset_mset {M : Mp} {a : Addr} {o u : MO} : mset (mset M a o) a u = mset M a u := by
  funext b; unfold mset; split <;> rfl

/-- what is frozen, what is somebody else's (it stays as it is), dicts that are frozen -/
structure FZ where
  f : Hp
  p : Hp
  d : Hp
abbrev Sm (F F1 : FZ) : Prop := Same F.f F1.f ∧ Same F.d F1.d
theorem Sm.rfl' {F : FZ} : Sm F F := ⟨Same.refl _, Same.refl _⟩
theorem Sm.trans' {F F1 F2 : FZ} (a : Sm F F1) (b : Sm F1 F2) : Sm F F2 := ⟨a.1.trans b.1, a.2.trans b.2⟩
structure FLe (F F1 : FZ) : Prop where
  s : Sm F F1
  e : F1.p = F.p
theorem FLe.refl (F : FZ) : FLe F F := ⟨Sm.rfl', rfl⟩
theorem FLe.trans {F F1 F2 : FZ} (a : FLe F F1) (b : FLe F1 F2) : FLe F F2 := ⟨a.s.trans' b.s, b.e.trans a.e⟩
/-- what stands on a base: its frozen things, and what was somebody else's -/
structure Bs (F0 F : FZ) : Prop where
  f : Sm F0 F
  p : Same F0.p F.p
theorem Bs.refl (F : FZ) : Bs F F := ⟨Sm.rfl', Same.refl _⟩
theorem Bs.tr {F0 F F1 : FZ} (a : Bs F0 F) (b : FLe F F1) : Bs F0 F1 := ⟨a.f.trans' b.s, by rw [b.e]; exact a.p⟩
def FZ.put (F : FZ) (a : Addr) (o : HO) : FZ := ⟨upd F.f a o, F.p, F.d⟩
/-- a tuple of the written part -/
def KTup (K : PySem.W.Frag) (a : Addr) (xs : List V) : Prop := ∃ (o : Obj) (its : Array Value) (n : Nat), K.lookup a = some o ∧ o.cls = .type "tuple" ∧ o.data = .seq its n ∧ its.size ≤ sizeLine ∧ Vals xs its.toList
mutual
inductive Rp (K : PySem.W.Frag) (F : FZ) : D → V → Prop
  | non : Rp K F .non .non
  | bl (b : Bool) : Rp K F (.bl b) (.bl b)
  | int (i : Int) : Rp K F (.int i) (.int i)
  | str (x : Str) : Rp K F (.str x) (.str x)
  | ref (a : Addr) : Rp K F (.ref a) (.ref a)
  | ty (n : String) : Rp K F (.ty n) (.ty n)
  | tup {a : Addr} {xs : List V} {ds : List D} : F.f a = some (.tup xs) → RpL K F ds xs → Rp K F (.tup ds) (.ref a)
  | kt {a : Addr} {xs : List V} {ds : List D} : KTup K a xs → RpL K F ds xs → Rp K F (.kt ds) (.ref a)
  | lst {a : Addr} {xs : List V} {ds : List D} : F.f a = some (.lst xs) → RpL K F ds xs → Rp K F (.lst ds) (.ref a)
  | ls {a : Addr} {xs : List V} {ds : List D} : SqL K F.f a xs → RpL K F ds xs → Rp K F (.ls ds) (.ref a)
  | dk {a : Addr} {ps : List (Key × V)} {ds : List D} : F.d a = some (.dK ps) → RpL K F ds (ps.map (·.2)) → Rp K F (.dk (ps.map (·.1)) ds) (.ref a)
  | dt {a : Addr} {ps : List (List Key × V)} {ds : List D} : F.d a = some (.dT ps) → RpL K F ds (ps.map (·.2)) → Rp K F (.dt (ps.map (·.1)) ds) (.ref a)
inductive RpL (K : PySem.W.Frag) (F : FZ) : List D → List V → Prop
  | nil : RpL K F [] []
  | cons {d : D} {v : V} {ds : List D} {xs : List V} : Rp K F d v → RpL K F ds xs → RpL K F (d :: ds) (v :: xs)
end

theorem sameSqT {K : PySem.W.Frag} {H H' : Hp} {a : Addr} {xs : List V} (e : Same H H') (h : SqT K H a xs) : SqT K H' a xs := by
  rcases h with (h | ⟨o, h⟩) | h
  · exact .inl (.inl (e _ _ h))
  · exact .inl (.inr ⟨o, e _ _ h⟩)
  · exact .inr h

mutual
theorem Rp.monoS {K : PySem.W.Frag} {F F' : FZ} (e : Sm F F') : ∀ {d : D} {v : V}, Rp K F d v → Rp K F' d v
  | _, _, .non => .non
  | _, _, .bl b => .bl b
  | _, _, .int i => .int i
  | _, _, .str x => .str x
  | _, _, .ref a => .ref a
  | _, _, .ty n => .ty n
  | _, _, .tup t r => .tup (e.1 _ _ t) (RpL.monoS e r)
  | _, _, .kt t r => .kt t (RpL.monoS e r)
  | _, _, .lst t r => .lst (e.1 _ _ t) (RpL.monoS e r)
  | _, _, .ls t r => .ls (e.1.seq t) (RpL.monoS e r)
  | _, _, .dk t r => .dk (e.2 _ _ t) (RpL.monoS e r)
  | _, _, .dt t r => .dt (e.2 _ _ t) (RpL.monoS e r)
theorem RpL.monoS {K : PySem.W.Frag} {F F' : FZ} (e : Sm F F') : ∀ {ds : List D} {xs : List V}, RpL K F ds xs → RpL K F' ds xs
  | _, _, .nil => .nil
  | _, _, .cons h t => .cons (Rp.monoS e h) (RpL.monoS e t)
end
section
variable {K : PySem.W.Frag} {F F' : FZ}
theorem Rp.mono (e : FLe F F') {d : D} {v : V} (r : Rp K F d v) : Rp K F' d v := r.monoS e.s
theorem RpL.mono (e : FLe F F') {ds : List D} {xs : List V} (r : RpL K F ds xs) : RpL K F' ds xs := r.monoS e.s
theorem RpL.length : ∀ {ds : List D} {xs : List V}, RpL K F ds xs → ds.length = xs.length
  | _, _, .nil => rfl
  | _, _, .cons _ t => by simp [RpL.length t]
theorem RpL.get : ∀ {ds : List D} {xs : List V} {i : Nat} {d : D}, RpL K F ds xs → ds[i]? = some d → ∃ v, xs[i]? = some v ∧ Rp K F d v
  | _, _, _, _, .nil, e => by simp at e
  | _, _, 0, _, .cons r _, e => by simp at e; subst e; exact ⟨_, rfl, r⟩
  | _, _, i + 1, d, .cons _ t, e => by
    obtain ⟨u, h1, h2⟩ := RpL.get (i := i) (d := d) t (by simpa using e)
    exact ⟨u, by simpa using h1, h2⟩
theorem RpL.getV : ∀ {ds : List D} {xs : List V} {i : Nat} {v : V}, RpL K F ds xs → xs[i]? = some v → ∃ d, ds[i]? = some d ∧ Rp K F d v
  | _, _, _, _, .nil, e => by simp at e
  | _, _, 0, _, .cons r _, e => by simp at e; subst e; exact ⟨_, rfl, r⟩
  | _, _, i + 1, v, .cons _ t, e => by
    obtain ⟨u, h1, h2⟩ := RpL.getV (i := i) (v := v) t (by simpa using e)
    exact ⟨u, by simpa using h1, h2⟩
theorem RpL.append : ∀ {ds es : List D} {xs ys : List V}, RpL K F ds xs → RpL K F es ys → RpL K F (ds ++ es) (xs ++ ys)
  | _, _, _, _, .nil, s => s
  | _, _, _, _, .cons r t, s => .cons r (RpL.append t s)
theorem RpL.take : ∀ {ds : List D} {xs : List V} (n : Nat), RpL K F ds xs → RpL K F (ds.take n) (xs.take n)
  | _, _, 0, _ => .nil
  | _, _, _ + 1, .nil => .nil
  | _, _, n + 1, .cons r t => .cons r (RpL.take n t)
theorem RpL.drop : ∀ {ds : List D} {xs : List V} (n : Nat), RpL K F ds xs → RpL K F (ds.drop n) (xs.drop n)
  | _, _, 0, r => r
  | _, _, _ + 1, .nil => .nil
  | _, _, n + 1, .cons _ t => RpL.drop n t
theorem RpL.set {d : D} {v : V} (r : Rp K F d v) : ∀ {ds : List D} {xs : List V} (i : Nat), RpL K F ds xs → RpL K F (ds.set i d) (xs.set i v)
  | _, _, _, .nil => .nil
  | _, _, 0, .cons _ t => .cons r t
  | _, _, i + 1, .cons q t => .cons q (RpL.set r i t)
theorem RpL.reverse : ∀ {ds : List D} {xs : List V}, RpL K F ds xs → RpL K F ds.reverse xs.reverse
  | _, _, .nil => .nil
  | _, _, .cons r t => by
    rw [List.reverse_cons, List.reverse_cons]
    exact RpL.append (RpL.reverse t) (.cons r .nil)
theorem RpL.eraseIdx : ∀ {ds : List D} {xs : List V} (i : Nat), RpL K F ds xs → RpL K F (ds.eraseIdx i) (xs.eraseIdx i)
  | _, _, _, .nil => .nil
  | _, _, 0, .cons _ t => t
  | _, _, i + 1, .cons r t => .cons r (RpL.eraseIdx i t)
theorem RpL.dropLast : ∀ {ds : List D} {xs : List V}, RpL K F ds xs → RpL K F ds.dropLast xs.dropLast
  | _, _, .nil => .nil
  | _, _, .cons _ .nil => .nil
  | _, _, .cons r (.cons q t) => .cons r (RpL.dropLast (.cons q t))
theorem RpL.insertIdx {d : D} {v : V} (r : Rp K F d v) : ∀ {ds : List D} {xs : List V} (i : Nat), RpL K F ds xs → RpL K F (ds.insertIdx i d) (xs.insertIdx i v)
  | _, _, 0, t => by simpa using RpL.cons r t
  | _, _, i + 1, .nil => .nil
  | _, _, i + 1, .cons q t => by simpa using RpL.cons q (RpL.insertIdx r i t)
theorem RpL.int : ∀ (ns : List Int) {xs : List V}, RpL K F (ns.map D.int) xs → xs = ns.map V.int
  | [], _, .nil => rfl
  | _ :: ns, _, .cons (.int _) t => by rw [RpL.int ns t]; rfl
theorem RpL.ofInt : ∀ (ns : List Int), RpL K F (ns.map D.int) (ns.map V.int)
  | [] => .nil
  | _ :: ns => .cons (.int _) (RpL.ofInt ns)
theorem RpL.bl : ∀ (ns : List Bool) {xs : List V}, RpL K F (ns.map D.bl) xs → xs = ns.map V.bl
  | [], _, .nil => rfl
  | _ :: ns, _, .cons (.bl _) t => by rw [RpL.bl ns t]; rfl
theorem RpL.str : ∀ (ns : List Str) {xs : List V}, RpL K F (ns.map D.str) xs → xs = ns.map V.str
  | [], _, .nil => rfl
  | _ :: ns, _, .cons (.str _) t => by rw [RpL.str ns t]; rfl
theorem RpL.ofStr : ∀ (ns : List Str), RpL K F (ns.map D.str) (ns.map V.str)
  | [] => .nil
  | _ :: ns => .cons (.str _) (RpL.ofStr ns)
theorem RpL.refs : ∀ (ns : List Addr) {xs : List V}, RpL K F (ns.map D.ref) xs → xs = ns.map V.ref
  | [], _, .nil => rfl
  | _ :: ns, _, .cons (.ref _) t => by rw [RpL.refs ns t]; rfl
end

abbrev KVR (K : PySem.W.Frag) (F : FZ) {κ : Type} : List (κ × D) → List (κ × V) → Prop := Paired fun p q => p.1 = q.1 ∧ Rp K F p.2 q.2
theorem KVR.monoS {K : PySem.W.Frag} {F F' : FZ} {κ : Type} (e : Sm F F') {l : List (κ × D)} {m : List (κ × V)} (h : KVR K F l m) : KVR K F' l m := Paired.mapP h fun _ _ q => ⟨q.1, q.2.monoS e⟩
theorem KVR.mono {K : PySem.W.Frag} {F F' : FZ} {κ : Type} (e : FLe F F') {l : List (κ × D)} {m : List (κ × V)} (h : KVR K F l m) : KVR K F' l m := h.monoS e.s

inductive MR (K : PySem.W.Frag) (F : FZ) : MO → HO → Prop
  | lst {ds : List D} {xs : List V} : RpL K F ds xs → xs.length ≤ sizeLine → MR K F (.lst ds) (.lst xs)
  | dK {kvs : List (Key × D)} {ps : List (Key × V)} : KVR K F kvs ps → ps.length ≤ sizeLine → MR K F (.dK kvs) (.dK ps)
  | dT {kvs : List (List Key × D)} {ps : List (List Key × V)} : KVR K F kvs ps → ps.length ≤ sizeLine → (∀ p ∈ ps, p.1.length ≤ sizeLine) → MR K F (.dT kvs) (.dT ps)
  | ins {C dx : Addr} {fs : List (Str × D)} {gs : List (Str × V)} : KVR K F fs gs → MR K F (.ins C fs) (.ins C dx gs)
theorem MR.monoS {K : PySem.W.Frag} {F F' : FZ} (e : Sm F F') {o : MO} {u : HO} : MR K F o u → MR K F' o u
  | .lst r z => .lst (r.monoS e) z
  | .dK r z => .dK (r.monoS e) z
  | .dT r z y => .dT (r.monoS e) z y
  | .ins r => .ins (r.monoS e)
theorem MR.mono {K : PySem.W.Frag} {F F' : FZ} (e : FLe F F') {o : MO} {u : HO} (r : MR K F o u) : MR K F' o u := r.monoS e.s

/-- what may be frozen -/
def FzO : HO → Prop
  | .lst xs => xs.length ≤ sizeLine
  | .tup xs => xs.length ≤ sizeLine
  | .frz _ (.lst xs) => xs.length ≤ sizeLine
  | _ => False

/-- a dict -/
def DcO : HO → Prop
  | .dK ps => ps.length ≤ sizeLine
  | .dT ps => ps.length ≤ sizeLine ∧ ∀ p ∈ ps, p.1.length ≤ sizeLine
  | _ => False
structure SR (K : PySem.W.Frag) (F : FZ) (M : Mp) (H : Hp) : Prop where
  fz : Same F.f H
  ok : ∀ a o, F.f a = some o → FzO o
  dj : ∀ a o, M a = some o → F.f a = none
  pz : Same F.p H
  pf : ∀ a o, F.p a = some o → F.f a = none ∧ M a = none ∧ (∀ xs, o ≠ .tup xs) ∧ ∀ u, F.d a = some u → ∃ od, o = .frz od u
  mu : ∀ a o, M a = some o → ∃ u, H a = some u ∧ MR K F o u
  dz : ∀ a u, F.d a = some u → Rd H a u
  df : ∀ a u, F.d a = some u → F.f a = none ∧ M a = none ∧ DcO u

abbrev G := List (Option D)
structure GR (K : PySem.W.Frag) (F : FZ) (γ : G) (σ : L2.St) : Prop where
  len : γ.length = σ.length
  at' : ∀ (i : Nat) (d : D), γ[i]? = some (some d) → ∃ v, σ[i]? = some (some v) ∧ Rp K F d v
theorem GR.monoS {K : PySem.W.Frag} {F F' : FZ} (e : Sm F F') {γ : G} {σ : L2.St} (h : GR K F γ σ) : GR K F' γ σ := ⟨h.len, fun i d q => let ⟨v, a, b⟩ := h.at' i d q; ⟨v, a, b.monoS e⟩⟩
theorem GR.mono {K : PySem.W.Frag} {F F' : FZ} (e : FLe F F') {γ : G} {σ : L2.St} (h : GR K F γ σ) : GR K F' γ σ := h.monoS e.s
theorem GR.set {K : PySem.W.Frag} {F : FZ} {γ : G} {σ : L2.St} {d : D} {v : V} (h : GR K F γ σ) (r : Rp K F d v) (i : Nat) : GR K F (γ.set i (some d)) (σ.set i (some v)) := by
  refine ⟨by simp [h.len], fun j e q => ?_⟩
  by_cases hj : i = j
  · subst hj
    by_cases hl : i < γ.length
    · rw [List.getElem?_set_self hl] at q
      cases q
      exact ⟨v, List.getElem?_set_self (h.len ▸ hl), r⟩
    · rw [List.getElem?_eq_none (by simpa using hl)] at q
      cases q
  · rw [List.getElem?_set_ne hj] at q ⊢
    exact h.at' j e q

section
variable {K : PySem.W.Frag} {F F' : FZ} {M : Mp} {H : Hp}
/-- an address that is not tracked is neither frozen nor changeable -/
theorem SR.freeF (s : SR K F M H) {p : Addr} (h : H p = none) : F.f p = none := s.fz.free h
theorem SR.freeD (s : SR K F M H) {p : Addr} (h : H p = none) : F.d p = none := by
  cases e : F.d p with
  | none => rfl
  | some u =>
    rcases s.dz p u e with z | ⟨o, z⟩ <;> rw [h] at z <;> cases z
theorem rd_upd {H : Hp} {a p : Addr} {u o : HO} (h : Rd H a u) (ne : a ≠ p) : Rd (upd H p o) a u := by
  rcases h with z | ⟨x, z⟩
  · exact .inl (by rw [upd_ne ne]; exact z)
  · exact .inr ⟨x, by rw [upd_ne ne]; exact z⟩
theorem SR.freeP (s : SR K F M H) {p : Addr} (h : H p = none) : F.p p = none := s.pz.free h
theorem SR.freeM (s : SR K F M H) {p : Addr} (h : H p = none) : M p = none := by
  cases e : M p with
  | none => rfl
  | some o =>
    obtain ⟨u, q, _⟩ := s.mu p o e
    rw [h] at q; cases q
theorem SR.notP (s : SR K F M H) {p : Addr} {o : MO} (h : M p = some o) : F.p p = none := by
  cases e : F.p p with
  | none => rfl
  | some u =>
    rw [(s.pf p u e).2.1] at h; cases h
theorem SR.notD (s : SR K F M H) {p : Addr} {o : MO} (h : M p = some o) : F.d p = none := by
  cases e : F.d p with
  | none => rfl
  | some u =>
    rw [(s.df p u e).2.1] at h; cases h
theorem same_upd {F : FZ} {p : Addr} {o : HO} (h : F.f p = none) : FLe F (F.put p o) := ⟨⟨fun b u e => by show upd F.f p o b = _; rw [upd_ne (ne_of_none e h)]; exact e, Same.refl _⟩, rfl⟩
theorem put_f {F : FZ} {p : Addr} {o : HO} : (F.put p o).f = upd F.f p o := rfl
theorem put_p {F : FZ} {p : Addr} {o : HO} : (F.put p o).p = F.p := rfl
/-- a new frozen thing -/
theorem SR.newF (s : SR K F M H) {p : Addr} {o : HO} (h : H p = none) (ok : FzO o) : SR K (F.put p o) M (upd H p o) := by
  have hF := s.freeF h
  have hM := s.freeM h
  have hP := s.freeP h
  have hD := s.freeD h
  refine ⟨fun b u e => ?_, fun b u e => ?_, fun b u e => ?_, fun b u e => ?_, fun b u e => ?_, fun b u e => ?_, fun b u e => rd_upd (s.dz b u e) (ne_of_none e hD), fun b u e => ⟨by rw [put_f, upd_ne (ne_of_none (show F.d b = some u from e) hD)]; exact (s.df b u e).1, (s.df b u e).2⟩⟩
  · rw [put_f] at e
    by_cases q : b = p
    · subst q; rw [upd_same] at e ⊢; exact e
    · rw [upd_ne q] at e ⊢; exact s.fz _ _ e
  · rw [put_f] at e
    by_cases q : b = p
    · subst q; rw [upd_same] at e; cases e; exact ok
    · rw [upd_ne q] at e; exact s.ok _ _ e
  · rw [put_f]
    have q : b ≠ p := fun z => by rw [z, hM] at e; cases e
    rw [upd_ne q]; exact s.dj _ _ e
  · rw [put_p] at e
    rw [upd_ne (ne_of_none e hP)]; exact s.pz _ _ e
  · rw [put_p] at e
    rw [put_f, upd_ne (ne_of_none e hP)]
    exact s.pf _ _ e
  · have q : b ≠ p := fun z => by rw [z, hM] at e; cases e
    obtain ⟨v, h1, h2⟩ := s.mu b u e
    exact ⟨v, by rw [upd_ne q]; exact h1, h2.mono (same_upd hF)⟩
/-- a new changeable thing, or one changed -/
theorem SR.put (s : SR K F M H) {p : Addr} {o : MO} {u : HO} (h : F.f p = none) (hp : F.p p = none) (hd : F.d p = none) (r : MR K F o u) : SR K F (mset M p o) (upd H p u) := by
  refine ⟨fun b x e => ?_, s.ok, fun b x e => ?_, fun b x e => ?_, fun b x e => ⟨(s.pf b x e).1, ?_, (s.pf b x e).2.2⟩, fun b x e => ?_, fun b x e => rd_upd (s.dz b x e) (ne_of_none e hd), fun b x e => ⟨(s.df b x e).1, by rw [mset_ne (ne_of_none e hd)]; exact (s.df b x e).2.1, (s.df b x e).2.2⟩⟩
  · rw [upd_ne (ne_of_none e h)]; exact s.fz _ _ e
  · by_cases q : b = p
    · subst q; exact h
    · rw [mset_ne q] at e; exact s.dj _ _ e
  · rw [upd_ne (ne_of_none e hp)]; exact s.pz _ _ e
  · rw [mset_ne (ne_of_none e hp)]; exact (s.pf b x e).2.1
  · by_cases q : b = p
    · subst q; rw [mset_same] at e; cases e; exact ⟨u, upd_same, r⟩
    · rw [mset_ne q] at e
      obtain ⟨v, h1, h2⟩ := s.mu b x e
      exact ⟨v, by rw [upd_ne q]; exact h1, h2⟩
theorem SR.putN (s : SR K F M H) {p : Addr} {o : MO} {u : HO} (h : H p = none) (r : MR K F o u) : SR K F (mset M p o) (upd H p u) := s.put (s.freeF h) (s.freeP h) (s.freeD h) r
theorem SR.putM (s : SR K F M H) {p : Addr} {o o' : MO} {u : HO} (h : M p = some o') (r : MR K F o u) : SR K F (mset M p o) (upd H p u) := s.put (s.dj p _ h) (s.notP h) (s.notD h) r
/-- nobody's thing is frozen -/
theorem SR.adopt (s : SR K F M H) {p : Addr} {o : HO} (hf : F.f p = none) (hp : F.p p = none) (hm : M p = none) (h : H p = some o) (ok : FzO o) : SR K (F.put p o) M H := by
  have hd : F.d p = none := by
    cases e : F.d p with
    | none => rfl
    | some u =>
      have dc := (s.df p u e).2.2
      have k1 : ∀ v : HO, DcO v → FzO v → False := fun v a b => by cases v <;> first | exact a | exact b
      have k2 : ∀ (x : Obj) (v : HO), DcO v → FzO (.frz x v) → False := fun x v a b => by cases v <;> first | exact a | exact b
      rcases s.dz p u e with z | ⟨x, z⟩
      · rw [h] at z; cases z
        exact (k1 _ dc ok).elim
      · rw [h] at z; cases z
        exact (k2 _ _ dc ok).elim
  refine ⟨fun b u e => ?_, fun b u e => ?_, fun b u e => ?_, fun b u e => s.pz b u e, fun b u e => ?_, fun b u e => ?_, s.dz, fun b u e => ⟨by rw [put_f, upd_ne (ne_of_none (show F.d b = some u from e) hd)]; exact (s.df b u e).1, (s.df b u e).2⟩⟩
  · rw [put_f] at e
    by_cases q : b = p
    · subst q; rw [upd_same] at e; cases e; exact h
    · rw [upd_ne q] at e; exact s.fz _ _ e
  · rw [put_f] at e
    by_cases q : b = p
    · subst q; rw [upd_same] at e; cases e; exact ok
    · rw [upd_ne q] at e; exact s.ok _ _ e
  · rw [put_f, upd_ne (mne_of_none e hm)]; exact s.dj _ _ e
  · have e' : F.p b = some u := e
    rw [put_f, upd_ne (ne_of_none e' hp)]
    exact s.pf _ _ e'
  · obtain ⟨v, h1, h2⟩ := s.mu b u e
    exact ⟨v, h1, h2.mono (same_upd hf)⟩
/-- a tuple that is tracked is frozen -/
theorem SR.adoptT (s : SR K F M H) {p : Addr} {xs : List V} (h : H p = some (.tup xs)) (ok : xs.length ≤ sizeLine) : ∃ F1, FLe F F1 ∧ SR K F1 M H ∧ F1.f p = some (.tup xs) := by
  have hm : M p = none := by
    cases e : M p with
    | none => rfl
    | some o =>
      obtain ⟨u, h1, h2⟩ := s.mu p o e
      rw [h] at h1; cases h1
      cases h2
  have hp : F.p p = none := by
    cases e : F.p p with
    | none => rfl
    | some o =>
      have h1 := s.pz p o e
      rw [h] at h1; cases h1
      exact absurd rfl ((s.pf p _ e).2.2.1 xs)
  cases e : F.f p with
  | some o =>
    have h1 := s.fz p o e
    rw [h] at h1; cases h1
    exact ⟨F, FLe.refl F, s, e⟩
  | none => exact ⟨F.put p (.tup xs), same_upd e, s.adopt e hp hm h ok, upd_same⟩
/-- hidden no more, and changed -/
theorem SR.unhide (s : SR K F M H) {q : Hp} {p : Addr} {o u : HO} (e : F.p = upd q p o) (hq : q p = none) (hu : ∀ od u', o = .frz od u' → u = u' := by exact fun _ _ z => nomatch z) : SR K ⟨F.f, q, F.d⟩ M (upd H p u) ∧ H p = some o ∧ F.f p = none ∧ M p = none := by
  have hp : F.p p = some o := by rw [e, upd_same]
  obtain ⟨hf, hm, _, hpd⟩ := s.pf p o hp
  refine ⟨⟨fun b x z => by rw [upd_ne (ne_of_none z hf)]; exact s.fz _ _ z, s.ok, s.dj, fun b x z => ?_, fun b x z => ?_, fun b x z => ?_, fun b x z => ?_, s.df⟩, s.pz _ _ hp, hf, hm⟩
  · have z' : q b = some x := z
    have ne := ne_of_none z' hq
    rw [upd_ne ne]
    exact s.pz b x (by rw [e, upd_ne ne]; exact z')
  · have z' : q b = some x := z
    have ne := ne_of_none z' hq
    exact s.pf b x (by rw [e, upd_ne ne]; exact z')
  · obtain ⟨v, h1, h2⟩ := s.mu b x z
    exact ⟨v, by rw [upd_ne (mne_of_none z hm)]; exact h1, MR.monoS (F := F) (F' := ⟨F.f, q, F.d⟩) Sm.rfl' h2⟩
  · have z' : F.d b = some x := z
    by_cases w : b = p
    · subst w
      obtain ⟨od, eo⟩ := hpd x z'
      rw [hu od x eo]
      exact .inl upd_same
    · exact rd_upd (s.dz b x z') w
/-- a thing is lent to nobody: it stays as it is -/
def FZ.hide (F : FZ) (a : Addr) (o : HO) : FZ := ⟨F.f, upd F.p a o, F.d⟩
/-- a new thing that is not ours -/
theorem SR.other (s : SR K F M H) {p : Addr} {o : HO} (h : H p = none) : SR K F M (upd H p o) :=
  ⟨fun b u e => by rw [upd_ne (ne_of_none e (s.freeF h))]; exact s.fz _ _ e, s.ok, s.dj, fun b u e => by rw [upd_ne (ne_of_none e (s.freeP h))]; exact s.pz _ _ e, s.pf, fun b u e => by
    obtain ⟨v, h1, h2⟩ := s.mu b u e
    exact ⟨v, by rw [upd_ne (mne_of_none e (s.freeM h))]; exact h1, h2⟩, fun b u e => rd_upd (s.dz b u e) (ne_of_none e (s.freeD h)), s.df⟩
theorem SR.noL (s : SR K F M H) {p : Addr} {xs : List V} (h : H p = some (.lst xs)) : ∀ u, F.d p = some u → ∃ od, HO.lst xs = .frz od u := fun u e => by
  have dc := (s.df p u e).2.2
  rcases s.dz p u e with z | ⟨x, z⟩
  · rw [h] at z; cases z; exact False.elim dc
  · rw [h] at z; cases z
theorem SR.noL0 (s : SR K F M H) {p : Addr} {xs : List V} (h : H p = some (.lst xs)) : F.d p = none := by
  cases e : F.d p with
  | none => rfl
  | some u =>
    obtain ⟨od, z⟩ := s.noL h u e
    cases z
theorem SR.hidD (s : SR K F M H) {p : Addr} {o : HO} (e : F.p p = some o) (ho : ∀ od u, o ≠ .frz od u) : F.d p = none := by
  cases e2 : F.d p with
  | none => rfl
  | some u =>
    obtain ⟨od, z⟩ := (s.pf p o e).2.2.2 u e2
    exact absurd z (ho od u)
/-- what a walk asks of the world: frozen things, and what is locked -/
structure Bj (F F1 : FZ) : Prop where
  f : Sm F F1
  p : ∀ a od u, F.p a = some (.frz od u) → F1.p a = some (.frz od u)
theorem FLe.bj {F F1 : FZ} (e : FLe F F1) : Bj F F1 := ⟨e.s, fun a od u h => by rw [e.e]; exact h⟩
theorem Bj.trans {F F1 F2 : FZ} (a : Bj F F1) (b : Bj F1 F2) : Bj F F2 := ⟨a.f.trans' b.f, fun x od u h => b.p x od u (a.p x od u h)⟩
theorem bj_hide {F1 F2 : FZ} {p : Addr} {o : HO} (e : FLe F1 F2) (h : F1.p p = none) : Bj F1 (F2.hide p o) := ⟨e.s, fun b od u hb => by show upd F2.p p o b = _; rw [upd_ne (ne_of_none hb h), e.e]; exact hb⟩
theorem bj_rehide {q : Hp} {F1 F2 : FZ} {p : Addr} {o o' : HO} (e : Sm F1 F2) (h1 : F1.p = upd q p o) (h2 : F2.p = q) (ho : ∀ od u, o ≠ .frz od u) : Bj F1 (F2.hide p o') := ⟨e, fun b od u hb => by
  rw [h1] at hb
  show upd F2.p p o' b = _
  by_cases w : b = p
  · subst w
    rw [upd_same] at hb
    cases hb
    exact absurd rfl (ho _ _)
  · rw [upd_ne w] at hb ⊢
    rw [h2]; exact hb⟩
theorem bj_rehide0 {q : Hp} {F1 F2 : FZ} {p : Addr} {o : HO} (e : Sm F1 F2) (h1 : F1.p = upd q p o) (h2 : F2.p = q) (ho : ∀ od u, o ≠ .frz od u) : Bj F1 F2 := ⟨e, fun b od u hb => by
  rw [h1] at hb
  by_cases w : b = p
  · subst w
    rw [upd_same] at hb
    cases hb
    exact absurd rfl (ho _ _)
  · rw [upd_ne w] at hb
    rw [h2]; exact hb⟩
def MLe (M' M : Mp) : Prop := ∀ a o, M' a = some o → M a = some o
theorem MLe.refl (M : Mp) : MLe M M := fun _ _ h => h
theorem MLe.none {M' M : Mp} (l : MLe M' M) {a : Addr} (h : M a = none) : M' a = none := by
  cases e : M' a with
  | none => rfl
  | some o => rw [l a o e] at h; cases h
theorem SR.less (s : SR K F M H) {M' : Mp} (h : MLe M' M) : SR K F M' H := ⟨s.fz, s.ok, fun a o e => s.dj a o (h a o e), s.pz, fun a o e => ⟨(s.pf a o e).1, h.none (s.pf a o e).2.1, (s.pf a o e).2.2⟩, fun a o e => s.mu a o (h a o e), s.dz, fun a u e => ⟨(s.df a u e).1, h.none (s.df a u e).2.1, (s.df a u e).2.2⟩⟩
/-- a list is frozen -/
theorem SR.freeze (s : SR K F M H) {p : Addr} {ds : List D} (h : M p = some (.lst ds)) : ∃ xs, SR K (F.put p (.lst xs)) (mdel M p) H ∧ FLe F (F.put p (.lst xs)) ∧ Rp K (F.put p (.lst xs)) (.lst ds) (.ref p) := by
  obtain ⟨u, h1, h2⟩ := s.mu p _ h
  have hF := s.dj p _ h
  have hP := s.notP h
  have hD := s.notD h
  cases h2 with
  | lst r z =>
    rename_i xs
    have e := same_upd (o := .lst xs) hF
    refine ⟨xs, ⟨fun b x q => ?_, fun b x q => ?_, fun b x q => ?_, fun b x q => s.pz b x q, fun b x q => ?_, fun b x q => ?_, s.dz, fun b x q => ⟨by rw [put_f, upd_ne (ne_of_none (show F.d b = some x from q) hD)]; exact (s.df b x q).1, by rw [mdel_ne (ne_of_none (show F.d b = some x from q) hD)]; exact (s.df b x q).2.1, (s.df b x q).2.2⟩⟩, e, .lst upd_same (r.mono e)⟩
    · rw [put_f] at q
      by_cases w : b = p
      · subst w; rw [upd_same] at q; cases q; exact h1
      · rw [upd_ne w] at q; exact s.fz _ _ q
    · rw [put_f] at q
      by_cases w : b = p
      · subst w; rw [upd_same] at q; cases q; exact z
      · rw [upd_ne w] at q; exact s.ok _ _ q
    · rw [put_f]
      by_cases w : b = p
      · subst w; rw [mdel_same] at q; cases q
      · rw [mdel_ne w] at q; rw [upd_ne w]; exact s.dj _ _ q
    · have q' : F.p b = some x := q
      rw [put_f, upd_ne (ne_of_none q' hP), mdel_ne (ne_of_none q' hP)]
      exact s.pf b x q'
    · by_cases w : b = p
      · subst w; rw [mdel_same] at q; cases q
      · rw [mdel_ne w] at q
        obtain ⟨v, a1, a2⟩ := s.mu b x q
        exact ⟨v, a1, a2.mono e⟩
theorem SR.hide (s : SR K F M H) {p : Addr} {o : HO} (hf : F.f p = none) (hm : M p = none) (h : H p = some o) (ht : ∀ xs, o ≠ .tup xs) (hd : ∀ u, F.d p = some u → ∃ od, o = .frz od u) : SR K (F.hide p o) M H := by
  refine ⟨s.fz, s.ok, s.dj, fun b x e => ?_, fun b x e => ?_, fun b x e => ?_, s.dz, s.df⟩
  · have e' : upd F.p p o b = some x := e
    by_cases q : b = p
    · subst q; rw [upd_same] at e'; cases e'; exact h
    · rw [upd_ne q] at e'; exact s.pz _ _ e'
  · have e' : upd F.p p o b = some x := e
    by_cases q : b = p
    · subst q; rw [upd_same] at e'; cases e'; exact ⟨hf, hm, ht, hd⟩
    · rw [upd_ne q] at e'; exact s.pf _ _ e'
  · obtain ⟨v, a1, a2⟩ := s.mu b x e
    exact ⟨v, a1, MR.monoS (F := F) (show Sm F (F.hide p o) from Sm.rfl' (F := F)) a2⟩
theorem SR.lenT (s : SR K F M H) {a : Addr} {xs : List V} (h : F.f a = some (.tup xs)) : xs.length ≤ sizeLine := s.ok _ _ h
theorem KTup.len {a : Addr} {xs : List V} (h : KTup K a xs) : xs.length ≤ sizeLine := by
  obtain ⟨o, its, n, _, _, _, hz, r⟩ := h
  have e := r.length
  simp only [Array.length_toList] at e
  omega
theorem SR.sqT (s : SR K F M H) {a : Addr} {xs : List V} (h : F.f a = some (.tup xs)) : SqT K H a xs := .inl (.inl (s.fz _ _ h))
theorem KTup.sqT {a : Addr} {xs : List V} (h : KTup K a xs) : SqT K H a xs := .inr h
theorem SR.lenL (s : SR K F M H) {a : Addr} {xs : List V} (h : SqL K F.f a xs) : xs.length ≤ sizeLine := by
  rcases h with (h | ⟨o, h⟩) | ⟨o, its, n, _, _, _, _, hz, r⟩
  · exact s.ok _ _ h
  · exact s.ok _ _ h
  · have e := r.length
    simp only [Array.length_toList] at e
    omega
end

/-! ### readings -/
abbrev DK := D → Mp → Prop
abbrev DTE := G → Mp → DK → Prop
abbrev DTT := G → Mp → (Bool → Mp → Prop) → Prop
abbrev DTA := G → Mp → (List D → Mp → Prop) → Prop
section
variable (K : PySem.W.Frag) (F0 : FZ)
def LE (t' : DTE) (t : TE) : Prop := ∀ (F : FZ) (γ : G) (M : Mp) (σ : L2.St) (H : Hp) (Q' : DK) (Q : VK), Bs F0 F → SR K F M H → GR K F γ σ → t' γ M Q' →
  (∀ F1 d v M1 H1, FLe F F1 → SR K F1 M1 H1 → Rp K F1 d v → Q' d M1 → Q v H1) → t σ H Q
def LT (t' : DTT) (t : TT) : Prop := ∀ (F : FZ) (γ : G) (M : Mp) (σ : L2.St) (H : Hp) (Q' : Bool → Mp → Prop) (Q : Bool → Hp → Prop), Bs F0 F → SR K F M H → GR K F γ σ → t' γ M Q' →
  (∀ F1 b M1 H1, FLe F F1 → SR K F1 M1 H1 → Q' b M1 → Q b H1) → t σ H Q
def LA (t' : DTA) (t : TA) : Prop := ∀ (F : FZ) (γ : G) (M : Mp) (σ : L2.St) (H : Hp) (Q' : List D → Mp → Prop) (Q : List V → Hp → Prop), Bs F0 F → SR K F M H → GR K F γ σ → t' γ M Q' →
  (∀ F1 ds vs M1 H1, FLe F F1 → SR K F1 M1 H1 → RpL K F1 ds vs → Q' ds M1 → Q vs H1) → t σ H Q
end
structure DE (X : Cx) (F0 : FZ) (e : Expr) (t : TE) (t' : DTE) : Prop where
  pe : PE X e t
  le : LE X.K F0 t' t
structure DT (X : Cx) (F0 : FZ) (e : Expr) (t : TT) (t' : DTT) : Prop where
  pt : PT X e t
  le : LT X.K F0 t' t
structure DW (X : Cx) (F0 : FZ) (e : Expr) (t : TT) (t' : DTT) : Prop where
  pw : PW X e t
  le : LT X.K F0 t' t
structure DA (X : Cx) (F0 : FZ) (es : List Expr) (t : TA) (t' : DTA) : Prop where
  pa : PA X es t
  le : LA X.K F0 t' t

/-! ### names, constants -/
def dVar (i : Nat) : DTE := fun γ M Q => match γ[i]? with
  | some (some d) => Q d M
  | _ => False
def dC (d : D) : DTE := fun _ M Q => Q d M
section
variable {X : Cx} {K : PySem.W.Frag} {F0 : FZ}
theorem le_var (i : Nat) : LE K F0 (dVar i) (tVar i) := by
  intro F γ M σ H Q' Q e0 s g h k
  unfold dVar at h
  split at h
  · rename_i d e
    obtain ⟨v, e1, r⟩ := g.at' i d e
    exact ⟨v, e1, k F d v M H (FLe.refl F) s r h⟩
  · exact h.elim
theorem de_var (i : Nat) {x : Str} {pos : Pos} (hN : X.N[i]? = some x := by rfl) (hv : Vis X.env.scope x := by first | exact Or.inl rfl | exact Or.inr (Or.inl rfl) | exact Or.inr (Or.inr rfl)) (hd : (x == ("__debug__" : Str)) = false := by decide)
    (hcd : (x == ("__classdict__" : Str)) = false := by decide) : DE X F0 (.Name x pos) (tVar i) (dVar i) := ⟨pe_var hN hv hd hcd, le_var i⟩
theorem le_c {d : D} {v : V} (h : ∀ F, Rp K F d v) : LE K F0 (dC d) (tC v) := fun F γ M σ H Q' Q e0 s g q k => k F d v M H (FLe.refl F) s (h F) q
theorem de_int {i j pos} : DE X F0 (.Constant (.int i) j pos) (tC (.int i)) (dC (.int i)) := ⟨pe_int, le_c fun _ => .int i⟩
theorem de_bl {b j pos} : DE X F0 (.Constant (.bool b) j pos) (tC (.bl b)) (dC (.bl b)) := ⟨pe_bl, le_c fun _ => .bl b⟩
theorem de_non {j pos} : DE X F0 (.Constant .none j pos) (tC .non) (dC .non) := ⟨pe_non, le_c fun _ => .non⟩
theorem de_str {x j pos} : DE X F0 (.Constant (.str x) j pos) (tC (.str x)) (dC (.str x)) := ⟨pe_str, le_c fun _ => .str x⟩
theorem de_globI {x : Str} {i : Int} {t : Tok} {pos : Pos} (hm : X.mg x = some (.int i t)) (hg : Gl X x := by rfl) (hd : (x == ("__debug__" : Str)) = false := by decide) : DE X F0 (.Name x pos) (tC (.int i)) (dC (.int i)) :=
  ⟨pe_glob hg hm ⟨t, rfl⟩ hd, le_c fun _ => .int i⟩
theorem de_globS {x : Str} {i : Str} {t : Tok} {pos : Pos} (hm : X.mg x = some (.str i t)) (hg : Gl X x := by rfl) (hd : (x == ("__debug__" : Str)) = false := by decide) : DE X F0 (.Name x pos) (tC (.str i)) (dC (.str i)) :=
  ⟨pe_glob hg hm ⟨t, rfl⟩ hd, le_c fun _ => .str i⟩

/-! ### operators -/
abbrev DR2 := D → D → Mp → DK → Prop
def L2r (K : PySem.W.Frag) (F0 : FZ) (r' : DR2) (r : R2) : Prop := ∀ (F : FZ) (M : Mp) (H : Hp) (d e : D) (x y : V) (Q' : DK) (Q : VK), Bs F0 F → SR K F M H → Rp K F d x → Rp K F e y → r' d e M Q' →
  (∀ F1 d v M1 H1, FLe F F1 → SR K F1 M1 H1 → Rp K F1 d v → Q' d M1 → Q v H1) → r x y H Q
def dOp (r : DR2) (ta tb : DTE) : DTE := fun γ M Q => ta γ M fun x M1 => tb γ M1 fun y M2 => r x y M2 Q
theorem le_op {r' : DR2} {r : R2} {ta' tb' : DTE} {ta tb : TE} (hr : L2r K F0 r' r) (ha : LE K F0 ta' ta) (hb : LE K F0 tb' tb) : LE K F0 (dOp r' ta' tb') (tOp r ta tb) := by
  intro F γ M σ H Q' Q e0 s g h k
  refine ha F γ M σ H _ _ e0 s g h fun F1 d v M1 H1 e1 s1 r1 q1 => ?_
  refine hb F1 γ M1 σ H1 _ _ (e0.tr e1) s1 (g.mono e1) q1 fun F2 d2 v2 M2 H2 e2 s2 r2 q2 => ?_
  exact hr F2 M2 H2 d d2 v v2 Q' Q ((e0.tr e1).tr e2) s2 (r1.mono e2) r2 q2 fun F3 d3 v3 M3 H3 e3 s3 r3 q3 => k F3 d3 v3 M3 H3 ((e1.trans e2).trans e3) s3 r3 q3
variable {a b : Expr} {ta tb : TE} {ta' tb' : DTE} {pos : Pos}
theorem de_op {op : Operator} {r : R2} {r' : DR2} (ho : OpR X (binaryOp op) r) (hr : L2r X.K F0 r' r) (ha : DE X F0 a ta ta') (hb : DE X F0 b tb tb') : DE X F0 (.BinOp a op b pos) (tOp r ta tb) (dOp r' ta' tb') :=
  ⟨pe_op ho ha.pe hb.pe, le_op hr ha.le hb.le⟩
theorem de_cmp {op : CmpOp} {r : R2} {r' : DR2} (ho : OpR X (compareOp op) r) (hr : L2r X.K F0 r' r) (ha : DE X F0 a ta ta') (hb : DE X F0 b tb tb') (hm : behindInMarks op b = false) : DE X F0 (.Compare a [op] [b] pos) (tOp r ta tb) (dOp r' ta' tb') :=
  ⟨pe_cmpR ho ha.pe hb.pe hm, le_op hr ha.le hb.le⟩
def dTest (t : DTE) : DTT := fun γ M Q => t γ M fun x M' => match x with
  | .bl k => Q k M'
  | _ => False
theorem le_test {t' : DTE} {t : TE} (h : LE K F0 t' t) : LT K F0 (dTest t') (tTest t) := by
  intro F γ M σ H Q' Q e0 s g q k
  refine h F γ M σ H _ _ e0 s g q fun F1 d v M1 H1 e1 s1 r1 q1 => ?_
  split at q1
  · cases r1
    exact ⟨_, rfl, k F1 _ M1 H1 e1 s1 q1⟩
  · exact q1.elim
theorem dt_cmp {op : CmpOp} {r : R2} {r' : DR2} (ho : OpR X (compareOp op) r) (hr : L2r X.K F0 r' r) (ha : DE X F0 a ta ta') (hb : DE X F0 b tb tb') (hm : behindInMarks op b = false) : DT X F0 (.Compare a [op] [b] pos) (tTest (tOp r ta tb)) (dTest (dOp r' ta' tb')) :=
  ⟨pt_cmpR ho ha.pe hb.pe hm, le_test (le_op hr ha.le hb.le)⟩
theorem dt_val {e : Expr} {t : TE} {t' : DTE} (h : DE X F0 e t t') (he : ∀ whole, isTrue e X.env whole = (do let v ← whole; standAt e.pos; holding [v] (truthy v)) := by intro _; rfl) : DT X F0 e (tTest t) (dTest t') :=
  ⟨pt_val h.pe he, le_test h.le⟩

/-- two ints -/
def dII (g : Int → Int → D) : DR2 := fun x y M Q => match x, y with
  | .int i, .int j => Q (g i j) M
  | _, _ => False
def dIC (C : Int → Int → Prop) (g : Int → Int → D) : DR2 := fun x y M Q => match x, y with
  | .int i, .int j => C i j ∧ Q (g i j) M
  | _, _ => False
theorem l2_II {g' : Int → Int → D} {g : Int → Int → V} (h : ∀ F i j, Rp K F (g' i j) (g i j)) : L2r K F0 (dII g') (rI0 g) := by
  intro F M H d e x y Q' Q e0 s r1 r2 q k
  unfold dII at q
  split at q
  · cases r1; cases r2
    exact ⟨_, _, rfl, rfl, k F _ _ M H (FLe.refl F) s (h F _ _) q⟩
  · exact q.elim
theorem l2_IC {C : Int → Int → Prop} {g' : Int → Int → D} {g : Int → Int → V} (h : ∀ F i j, Rp K F (g' i j) (g i j)) : L2r K F0 (dIC C g') (rI C g) := by
  intro F M H d e x y Q' Q e0 s r1 r2 q k
  unfold dIC at q
  split at q
  · cases r1; cases r2
    exact ⟨_, _, rfl, rfl, q.1, k F _ _ M H (FLe.refl F) s (h F _ _) q.2⟩
  · exact q.elim
theorem de_add (ha : DE X F0 a ta ta') (hb : DE X F0 b tb tb') : DE X F0 (.BinOp a .Add b pos) (tOp (rI0 fun i j => .int (i + j)) ta tb) (dOp (dII fun i j => .int (i + j)) ta' tb') := de_op op_add (l2_II fun _ _ _ => .int _) ha hb
theorem de_sub (ha : DE X F0 a ta ta') (hb : DE X F0 b tb tb') : DE X F0 (.BinOp a .Sub b pos) (tOp (rI0 fun i j => .int (i - j)) ta tb) (dOp (dII fun i j => .int (i - j)) ta' tb') := de_op op_sub (l2_II fun _ _ _ => .int _) ha hb
theorem de_mul (ha : DE X F0 a ta ta') (hb : DE X F0 b tb tb') : DE X F0 (.BinOp a .Mult b pos) (tOp (rI CMul fun i j => .int (i * j)) ta tb) (dOp (dIC CMul fun i j => .int (i * j)) ta' tb') := de_op op_mul (l2_IC fun _ _ _ => .int _) ha hb
theorem de_fdiv (ha : DE X F0 a ta ta') (hb : DE X F0 b tb tb') : DE X F0 (.BinOp a .FloorDiv b pos) (tOp (rI CDiv fun i j => .int (i / j)) ta tb) (dOp (dIC CDiv fun i j => .int (i / j)) ta' tb') := de_op op_fdiv (l2_IC fun _ _ _ => .int _) ha hb
theorem de_mod (ha : DE X F0 a ta ta') (hb : DE X F0 b tb tb') : DE X F0 (.BinOp a .Mod b pos) (tOp (rI (fun _ j => 0 < j) fun i j => .int (i % j)) ta tb) (dOp (dIC (fun _ j => 0 < j) fun i j => .int (i % j)) ta' tb') := de_op op_mod (l2_IC fun _ _ _ => .int _) ha hb
theorem de_pow (ha : DE X F0 a ta ta') (hb : DE X F0 b tb tb') : DE X F0 (.BinOp a .Pow b pos) (tOp (rI CPow fun i j => .int (i ^ j.toNat)) ta tb) (dOp (dIC CPow fun i j => .int (i ^ j.toNat)) ta' tb') := de_op op_pow (l2_IC fun _ _ _ => .int _) ha hb
end
end DL

set_option maxRecDepth 100000
set_option maxHeartbeats 2000000
namespace DL
open PySem PySem.Spec PyProof.Rows L2

section
variable {X : Cx} {K : PySem.W.Frag} {F0 : FZ} {a b e : Expr} {ta tb te : TE} {ta' tb' te' : DTE} {pos : Pos}
/-! ### comparisons of ints, chains -/
theorem de_lt (ha : DE X F0 a ta ta') (hb : DE X F0 b tb tb') : DE X F0 (.Compare a [.Lt] [b] pos) (tOp (rI0 fun i j => .bl (decide (i < j))) ta tb) (dOp (dII fun i j => .bl (decide (i < j))) ta' tb') := de_cmp op_lt (l2_II fun _ _ _ => .bl _) ha hb (nomark _)
theorem de_le (ha : DE X F0 a ta ta') (hb : DE X F0 b tb tb') : DE X F0 (.Compare a [.LtE] [b] pos) (tOp (rI0 fun i j => .bl (decide (i ≤ j))) ta tb) (dOp (dII fun i j => .bl (decide (i ≤ j))) ta' tb') := de_cmp op_le (l2_II fun _ _ _ => .bl _) ha hb (nomark _)
theorem de_gt (ha : DE X F0 a ta ta') (hb : DE X F0 b tb tb') : DE X F0 (.Compare a [.Gt] [b] pos) (tOp (rI0 fun i j => .bl (decide (j < i))) ta tb) (dOp (dII fun i j => .bl (decide (j < i))) ta' tb') := de_cmp op_gt (l2_II fun _ _ _ => .bl _) ha hb (nomark _)
theorem de_ge (ha : DE X F0 a ta ta') (hb : DE X F0 b tb tb') : DE X F0 (.Compare a [.GtE] [b] pos) (tOp (rI0 fun i j => .bl (decide (j ≤ i))) ta tb) (dOp (dII fun i j => .bl (decide (j ≤ i))) ta' tb') := de_cmp op_ge (l2_II fun _ _ _ => .bl _) ha hb (nomark _)
def dChain (r r' : DR2) (ta tb tc : DTE) : DTE := fun γ M Q => ta γ M fun x M1 => tb γ M1 fun y M2 => r x y M2 fun z M3 => match z with
  | .bl true => tc γ M3 fun w M4 => r' y w M4 Q
  | .bl false => Q (.bl false) M3
  | _ => False
end

/-! ### equality of data -/
mutual
def D.py : D → PyData
  | .non => .none
  | .bl b => .bool b
  | .int i => .int i
  | .str x => .str x
  | .tup l => .tuple (D.pyL l)
  | .lst l => .list (D.pyL l)
  | .kt l => .tuple (D.pyL l)
  | .ref _ => .none
  | .ty _ => .none
  | .ls _ => .none
  | .dk _ _ => .none
  | .dt _ _ => .none
def D.pyL : List D → List PyData
  | [] => []
  | d :: r => D.py d :: D.pyL r
end
mutual
/-- plain data, nested at most so deep -/
def D.ok : D → Nat → Bool
  | .non, _ => true
  | .bl _, _ => true
  | .int _, _ => true
  | .str x, _ => PyData.strOk x
  | .tup l, 0 => false
  | .tup l, n + 1 => D.okL l n
  | .lst l, 0 => false
  | .lst l, n + 1 => D.okL l n
  | .kt l, 0 => false
  | .kt l, n + 1 => D.okL l n
  | .ref _, _ => false
  | .ty _, _ => false
  | .ls _, _ => false
  | .dk _ _, _ => false
  | .dt _ _, _ => false
def D.okL : List D → Nat → Bool
  | [], _ => true
  | d :: r, n => D.ok d n && D.okL r n
end
theorem okL_iff {n : Nat} : ∀ {l : List D}, D.okL l n = true ↔ ∀ d ∈ l, D.ok d n = true
  | [] => by simp [D.okL]
  | d :: r => by simp [D.okL, okL_iff (l := r)]
mutual
theorem D.ok_lay : ∀ {d : D} {n : Nat}, d.ok n = true → d.py.canLay0 = true ∧ d.py.depth ≤ n
  | .non, _, _ => by simp [D.py, PyData.canLay0, PyData.depth]
  | .bl _, _, _ => by simp [D.py, PyData.canLay0, PyData.depth]
  | .int _, _, _ => by simp [D.py, PyData.canLay0, PyData.depth]
  | .str x, _, h => by
    have h' : PyData.strOk x = true := by simpa [D.ok] using h
    simp [D.py, PyData.canLay0, PyData.depth, h']
  | .tup l, 0, h => by simp [D.ok] at h
  | .tup l, n + 1, h => by
    have h' : D.okL l n = true := by simpa [D.ok] using h
    obtain ⟨a, b⟩ := D.okL_lay h'
    simp only [D.py, PyData.canLay0, PyData.depth]
    exact ⟨a, by omega⟩
  | .lst l, 0, h => by simp [D.ok] at h
  | .lst l, n + 1, h => by
    have h' : D.okL l n = true := by simpa [D.ok] using h
    obtain ⟨a, b⟩ := D.okL_lay h'
    simp only [D.py, PyData.canLay0, PyData.depth]
    exact ⟨a, by omega⟩
  | .kt l, 0, h => by simp [D.ok] at h
  | .kt l, n + 1, h => by
    have h' : D.okL l n = true := by simpa [D.ok] using h
    obtain ⟨a, b⟩ := D.okL_lay h'
    simp only [D.py, PyData.canLay0, PyData.depth]
    exact ⟨a, by omega⟩
  | .ref _, _, h => by simp [D.ok] at h
  | .ty _, _, h => by simp [D.ok] at h
  | .ls _, _, h => by simp [D.ok] at h
  | .dk _ _, _, h => by simp [D.ok] at h
  | .dt _ _, _, h => by simp [D.ok] at h
theorem D.okL_lay : ∀ {l : List D} {n : Nat}, D.okL l n = true → PyData.canLayAll0 (D.pyL l) = true ∧ PyData.depthAll (D.pyL l) ≤ n
  | [], _, _ => by simp [D.pyL, PyData.canLayAll0, PyData.depthAll]
  | d :: r, n, h => by
    simp only [D.okL, Bool.and_eq_true] at h
    obtain ⟨a, b⟩ := D.ok_lay h.1
    obtain ⟨a', b'⟩ := D.okL_lay h.2
    simp only [D.pyL, PyData.canLayAll0, PyData.depthAll, a, a', Bool.and_self, true_and]
    omega
end
theorem D.ok_shaped {d : D} (h : d.ok 60 = true) : SeqAt.shaped d.py = true := by
  obtain ⟨a, b⟩ := D.ok_lay h
  show (d.py.canLay0 && decide (d.py.depth ≤ 64)) = true
  rw [a, Bool.true_and]
  exact decide_eq_true (by omega)
mutual
theorem Rp.dp {K : PySem.W.Frag} {F : FZ} {H : Hp} (e : Same F.f H) : ∀ {d : D} {v : V} {n : Nat}, Rp K F d v → d.ok n = true → Dp K H v d.py
  | _, _, _, .non, _ => by simp only [D.py]; exact .non
  | _, _, _, .bl b, _ => by simp only [D.py]; exact .bl b
  | _, _, _, .int i, _ => by simp only [D.py]; exact .int i
  | _, _, _, .str x, _ => by simp only [D.py]; exact .str x
  | _, _, _, .ref a, h => by simp [D.ok] at h
  | _, _, _, .ty n, h => by simp [D.ok] at h
  | _, _, _, .ls _ _, h => by simp [D.ok] at h
  | _, _, _, .dk _ _, h => by simp [D.ok] at h
  | _, _, _, .dt _ _, h => by simp [D.ok] at h
  | _, _, 0, .tup t r, h => by simp [D.ok] at h
  | _, _, n + 1, .tup t r, h => by
    simp only [D.py]
    exact .tup (.inl (.inl (e _ _ t))) (RpL.dp e r (n := n) (by simpa [D.ok] using h))
  | _, _, 0, .kt t r, h => by simp [D.ok] at h
  | _, _, n + 1, .kt t r, h => by
    simp only [D.py]
    exact .tup (.inr t) (RpL.dp e r (n := n) (by simpa [D.ok] using h))
  | _, _, 0, .lst t r, h => by simp [D.ok] at h
  | _, _, n + 1, .lst t r, h => by
    simp only [D.py]
    exact .lst (SqL.of (e _ _ t)) (RpL.dp e r (n := n) (by simpa [D.ok] using h))
theorem RpL.dp {K : PySem.W.Frag} {F : FZ} {H : Hp} (e : Same F.f H) : ∀ {ds : List D} {xs : List V} {n : Nat}, RpL K F ds xs → D.okL ds n = true → DpAll K H xs (D.pyL ds)
  | _, _, _, .nil, _ => by simp only [D.pyL]; exact .nil
  | _, _, n, .cons h t, k => by
    simp only [D.okL, Bool.and_eq_true] at k
    simp only [D.pyL]
    exact .cons (Rp.dp e h k.1) (RpL.dp e t k.2)
end
/-- == of data -/
def D.eq (x y : D) : Bool := PyData.eqv x.py y.py
def D.eqL (x y : List D) : Bool := PyData.eqvAll (D.pyL x) (D.pyL y)
@[simp] theorem D.eq_int (i j : Int) : D.eq (.int i) (.int j) = (i == j) := by simp only [D.eq, D.py, PyData.eqv]
@[simp] theorem D.eq_str (i j : Str) : D.eq (.str i) (.str j) = (i == j) := by simp only [D.eq, D.py, PyData.eqv]
@[simp] theorem D.eq_tup (i j : List D) : D.eq (.tup i) (.tup j) = D.eqL i j := by simp only [D.eq, D.eqL, D.py, PyData.eqv]
@[simp] theorem D.eq_lst (i j : List D) : D.eq (.lst i) (.lst j) = D.eqL i j := by simp only [D.eq, D.eqL, D.py, PyData.eqv]
@[simp] theorem D.eqL_nil : D.eqL [] [] = true := by simp only [D.eqL, D.pyL, PyData.eqvAll]
@[simp] theorem D.eqL_cons (x y : D) (r s : List D) : D.eqL (x :: r) (y :: s) = (D.eq x y && D.eqL r s) := by simp only [D.eqL, D.eq, D.pyL, PyData.eqvAll]
@[simp] theorem D.eqL_nc (y : D) (s : List D) : D.eqL [] (y :: s) = false := by simp only [D.eqL, D.pyL, PyData.eqvAll]
@[simp] theorem D.eqL_cn (y : D) (s : List D) : D.eqL (y :: s) [] = false := by simp only [D.eqL, D.pyL, PyData.eqvAll]
@[simp] theorem D.eq_bl (i j : Bool) : D.eq (.bl i) (.bl j) = (i == j) := by simp only [D.eq, D.py, PyData.eqv]
@[simp] theorem D.eq_nn : D.eq .non .non = true := by simp only [D.eq, D.py, PyData.eqv]

section
variable {X : Cx} {K : PySem.W.Frag} {F0 : FZ} {a b e : Expr} {ta tb te : TE} {ta' tb' te' : DTE} {pos : Pos}
def dEq (neg : Bool) : DR2 := fun x y M Q => x.ok 60 = true ∧ y.ok 60 = true ∧ Q (.bl (if neg then !D.eq x y else D.eq x y)) M
theorem l2_eq : L2r K F0 (dEq false) (rEqD K) := by
  intro F M H d e x y Q' Q e0 s r1 r2 q k
  exact ⟨d.py, e.py, r1.dp s.fz q.1, r2.dp s.fz q.2.1, D.ok_shaped q.1, D.ok_shaped q.2.1, k F _ _ M H (FLe.refl F) s (.bl _) q.2.2⟩
theorem l2_ne : L2r K F0 (dEq true) (rNeD K) := by
  intro F M H d e x y Q' Q e0 s r1 r2 q k
  exact ⟨d.py, e.py, r1.dp s.fz q.1, r2.dp s.fz q.2.1, D.ok_shaped q.1, D.ok_shaped q.2.1, k F _ _ M H (FLe.refl F) s (.bl _) q.2.2⟩
theorem de_eq {n : Nat} (hr : Room n X.A) (ha : DE X F0 a ta ta') (hb : DE X F0 b tb tb') : DE X F0 (.Compare a [.Eq] [b] pos) (tOp (rEqD X.K) ta tb) (dOp (dEq false) ta' tb') := de_cmp (op_eqD hr.units) l2_eq ha hb (nomark _)
theorem de_ne {n : Nat} (hr : Room n X.A) (ha : DE X F0 a ta ta') (hb : DE X F0 b tb tb') : DE X F0 (.Compare a [.NotEq] [b] pos) (tOp (rNeD X.K) ta tb) (dOp (dEq true) ta' tb') := de_cmp (op_neD hr.units) l2_ne ha hb (nomark _)
/-- is None -/
def D.isNon : D → Bool
  | .non => true
  | _ => false
def dIsN (neg : Bool) : DR2 := fun x y M Q => match y with
  | .non => Q (.bl (if neg then !x.isNon else x.isNon)) M
  | _ => False
theorem isNon_of {F : FZ} {d : D} {v : V} (r : Rp K F d v) : d.isNon = decide (v = .non) := by cases r <;> simp [D.isNon]
theorem l2_isN : L2r K F0 (dIsN false) (fun x y H Q => y = .non ∧ Q (.bl (decide (x = .non))) H) := by
  intro F M H d e x y Q' Q e0 s r1 r2 q k
  unfold dIsN at q
  split at q
  · cases r2
    refine ⟨rfl, k F _ _ M H (FLe.refl F) s (.bl _) ?_⟩
    rw [← isNon_of r1]; exact q
  · exact q.elim
theorem l2_notN : L2r K F0 (dIsN true) (fun x y H Q => y = .non ∧ Q (.bl (!decide (x = .non))) H) := by
  intro F M H d e x y Q' Q e0 s r1 r2 q k
  unfold dIsN at q
  split at q
  · cases r2
    refine ⟨rfl, k F _ _ M H (FLe.refl F) s (.bl _) ?_⟩
    rw [← isNon_of r1]; exact q
  · exact q.elim
theorem de_isN (ha : DE X F0 a ta ta') (hb : DE X F0 b tb tb') : DE X F0 (.Compare a [.Is] [b] pos) (tOp (fun x y H Q => y = .non ∧ Q (.bl (decide (x = .non))) H) ta tb) (dOp (dIsN false) ta' tb') := de_cmp op_isN l2_isN ha hb (nomark _)
theorem de_notN (ha : DE X F0 a ta ta') (hb : DE X F0 b tb tb') : DE X F0 (.Compare a [.IsNot] [b] pos) (tOp (fun x y H Q => y = .non ∧ Q (.bl (!decide (x = .non))) H) ta tb) (dOp (dIsN true) ta' tb') := de_cmp op_notN l2_notN ha hb (nomark _)

/-! ### and, or, not, if .. else -/
def dAnd (t u : DTT) : DTT := fun γ M Q => t γ M fun c M1 => if c = true then u γ M1 Q else Q false M1
def dOr (t u : DTT) : DTT := fun γ M Q => t γ M fun c M1 => if c = true then Q true M1 else u γ M1 Q
def dNot (t : DTT) : DTT := fun γ M Q => t γ M fun c M1 => Q (!c) M1
variable {tA tB : TT} {tA' tB' : DTT} {rest : List Expr}
theorem dw_and1 (ha : DT X F0 a tA tA') : DW X F0 (.BoolOp .And [a] pos) tA tA' := ⟨pw_and1 ha.pt, ha.le⟩
theorem dw_or1 (ha : DT X F0 a tA tA') : DW X F0 (.BoolOp .Or [a] pos) tA tA' := ⟨pw_or1 ha.pt, ha.le⟩
theorem lt_and (ha : LT K F0 tA' tA) (hb : LT K F0 tB' tB) : LT K F0 (dAnd tA' tB') (tAnd tA tB) := by
  intro F γ M σ H Q' Q e0 s g h k
  refine ha F γ M σ H _ _ e0 s g h fun F1 c M1 H1 e1 s1 q1 => ?_
  cases c with
  | true => exact hb F1 γ M1 σ H1 _ _ (e0.tr e1) s1 (g.mono e1) q1 fun F2 d M2 H2 e2 s2 q2 => k F2 d M2 H2 (e1.trans e2) s2 q2
  | false => exact k F1 false M1 H1 e1 s1 q1
theorem lt_or (ha : LT K F0 tA' tA) (hb : LT K F0 tB' tB) : LT K F0 (dOr tA' tB') (tOr tA tB) := by
  intro F γ M σ H Q' Q e0 s g h k
  refine ha F γ M σ H _ _ e0 s g h fun F1 c M1 H1 e1 s1 q1 => ?_
  cases c with
  | true => exact k F1 true M1 H1 e1 s1 q1
  | false => exact hb F1 γ M1 σ H1 _ _ (e0.tr e1) s1 (g.mono e1) q1 fun F2 d M2 H2 e2 s2 q2 => k F2 d M2 H2 (e1.trans e2) s2 q2
theorem lt_not (ha : LT K F0 tA' tA) : LT K F0 (dNot tA') (tNot tA) := by
  intro F γ M σ H Q' Q e0 s g h k
  exact ha F γ M σ H _ _ e0 s g h fun F1 c M1 H1 e1 s1 q1 => k F1 (!c) M1 H1 e1 s1 q1
theorem dw_and (ha : DT X F0 a tA tA') (hb : DW X F0 (.BoolOp .And (b :: rest) pos) tB tB') : DW X F0 (.BoolOp .And (a :: b :: rest) pos) (tAnd tA tB) (dAnd tA' tB') := ⟨pw_and ha.pt hb.pw, lt_and ha.le hb.le⟩
theorem dw_or (ha : DT X F0 a tA tA') (hb : DW X F0 (.BoolOp .Or (b :: rest) pos) tB tB') : DW X F0 (.BoolOp .Or (a :: b :: rest) pos) (tOr tA tB) (dOr tA' tB') := ⟨pw_or ha.pt hb.pw, lt_or ha.le hb.le⟩
theorem DW.dt {t : TT} {t' : DTT} (h : DW X F0 e t t') : DT X F0 e t t' := ⟨h.pw.pt, h.le⟩
theorem dt_not (ha : DT X F0 a tA tA') : DT X F0 (.UnaryOp .Not a pos) (tNot tA) (dNot tA') := ⟨pt_not ha.pt, lt_not ha.le⟩
def dIfE (c : DTT) (ta tb : DTE) : DTE := fun γ M Q => c γ M fun b M1 => if b = true then ta γ M1 Q else tb γ M1 Q
theorem de_ifExp {c : Expr} (hc : DT X F0 c tA tA') (ha : DE X F0 a ta ta') (hb : DE X F0 b tb tb') : DE X F0 (.IfExp c a b pos) (tIf tA ta tb) (dIfE tA' ta' tb') := by
  refine ⟨pe_ifExp hc.pt ha.pe hb.pe, ?_⟩
  intro F γ M σ H Q' Q e0 s g h k
  refine hc.le F γ M σ H _ _ e0 s g h fun F1 c M1 H1 e1 s1 q1 => ?_
  cases c with
  | true => exact ha.le F1 γ M1 σ H1 _ _ (e0.tr e1) s1 (g.mono e1) q1 fun F2 d v M2 H2 e2 s2 r2 q2 => k F2 d v M2 H2 (e1.trans e2) s2 r2 q2
  | false => exact hb.le F1 γ M1 σ H1 _ _ (e0.tr e1) s1 (g.mono e1) q1 fun F2 d v M2 H2 e2 s2 r2 q2 => k F2 d v M2 H2 (e1.trans e2) s2 r2 q2
end
end DL

set_option maxRecDepth 100000
set_option maxHeartbeats 2000000
namespace DL
open PySem PySem.Spec PyProof.Rows L2

/-! ### statements -/
structure DEnds where
  nx : G → Mp → Prop
  rt : DK
  bk : G → Mp → Prop := fun _ _ => False
  ct : G → Mp → Prop := fun _ _ => False
abbrev DTS := DEnds → G → Mp → Prop
structure ER (K : PySem.W.Frag) (F : FZ) (D' : DEnds) (D : Ends) : Prop where
  nx : ∀ F1 γ M σ H, FLe F F1 → SR K F1 M H → GR K F1 γ σ → D'.nx γ M → D.nx σ H
  rt : ∀ F1 d v M H, FLe F F1 → SR K F1 M H → Rp K F1 d v → D'.rt d M → D.rt v H
  bk : ∀ F1 γ M σ H, FLe F F1 → SR K F1 M H → GR K F1 γ σ → D'.bk γ M → D.bk σ H
  ct : ∀ F1 γ M σ H, FLe F F1 → SR K F1 M H → GR K F1 γ σ → D'.ct γ M → D.ct σ H
theorem ER.mono {K : PySem.W.Frag} {F F1 : FZ} {D' : DEnds} {D : Ends} (h : ER K F D' D) (e : FLe F F1) : ER K F1 D' D :=
  ⟨fun F2 γ M σ H e2 => h.nx F2 γ M σ H (e.trans e2), fun F2 d v M H e2 => h.rt F2 d v M H (e.trans e2), fun F2 γ M σ H e2 => h.bk F2 γ M σ H (e.trans e2), fun F2 γ M σ H e2 => h.ct F2 γ M σ H (e.trans e2)⟩
def LS (K : PySem.W.Frag) (F0 : FZ) (t' : DTS) (t : TS) : Prop := ∀ (F : FZ) (γ : G) (M : Mp) (σ : L2.St) (H : Hp) (D' : DEnds) (D : Ends), Bs F0 F → SR K F M H → GR K F γ σ → t' D' γ M → ER K F D' D → t D σ H
structure DS (X : Cx) (F0 : FZ) (st : Stmt) (t : TS) (t' : DTS) : Prop where
  ps : PS X st t
  le : LS X.K F0 t' t
structure DB (X : Cx) (F0 : FZ) (st : List Stmt) (t : TS) (t' : DTS) : Prop where
  ps : PSs X st t
  le : LS X.K F0 t' t

section
variable {X : Cx} {K : PySem.W.Frag} {F0 : FZ} {st : Stmt} {rest : List Stmt} {t u : TS} {t' u' : DTS} {e : Expr} {te : TE} {te' : DTE} {pos : Pos}
def dNext : DTS := fun D γ M => D.nx γ M
def dSeq (t u : DTS) : DTS := fun D γ M => t { D with nx := u D } γ M
theorem db_nil : DB X F0 [] tNext dNext := ⟨pss_nil, fun F γ M σ H D' D e0 s g q er => er.nx F γ M σ H (FLe.refl F) s g q⟩
theorem ls_seq (h1 : LS K F0 t' t) (h2 : LS K F0 u' u) : LS K F0 (dSeq t' u') (tSeq t u) := by
  intro F γ M σ H D' D e0 s g q er
  refine h1 F γ M σ H { D' with nx := u' D' } { D with nx := u D } e0 s g q ⟨fun F1 γ1 M1 σ1 H1 e1 s1 g1 q1 => ?_, er.rt, er.bk, er.ct⟩
  exact h2 F1 γ1 M1 σ1 H1 D' D (e0.tr e1) s1 g1 q1 (er.mono e1)
theorem db_cons (h1 : DS X F0 st t t') (h2 : DB X F0 rest u u') : DB X F0 (st :: rest) (tSeq t u) (dSeq t' u') := ⟨pss_cons h1.ps h2.ps, ls_seq h1.le h2.le⟩
theorem db_one (h1 : DS X F0 st t t') : DB X F0 [st] t t' := ⟨pss_one h1.ps, h1.le⟩
def dBreak : DTS := fun D γ M => D.bk γ M
def dCont : DTS := fun D γ M => D.ct γ M
theorem ds_pass : DS X F0 (.Pass pos) tNext dNext := ⟨ps_pass, fun F γ M σ H D' D e0 s g q er => er.nx F γ M σ H (FLe.refl F) s g q⟩
theorem ds_break : DS X F0 (.Break pos) tBreak dBreak := ⟨ps_break, fun F γ M σ H D' D e0 s g q er => er.bk F γ M σ H (FLe.refl F) s g q⟩
theorem ds_continue : DS X F0 (.Continue pos) tCont dCont := ⟨ps_continue, fun F γ M σ H D' D e0 s g q er => er.ct F γ M σ H (FLe.refl F) s g q⟩
def dDrop (te : DTE) : DTS := fun D γ M => te γ M fun _ M1 => D.nx γ M1
theorem ds_expr (he : DE X F0 e te te') (hs : swapsWith e none pos.line X.env = pure false := by rfl) : DS X F0 (.Expr e pos) (tDrop te) (dDrop te') :=
  ⟨ps_expr he.pe hs, fun F γ M σ H D' D e0 s g q er => he.le F γ M σ H _ _ e0 s g q fun F1 d v M1 H1 e1 s1 r1 q1 => er.nx F1 γ M1 σ H1 e1 s1 (g.mono e1) q1⟩
def dRet (te : DTE) : DTS := fun D γ M => te γ M D.rt
theorem ds_ret (he : DE X F0 e te te') : DS X F0 (.Return (some e) pos) (tRet te) (dRet te') :=
  ⟨ps_ret he.pe, fun F γ M σ H D' D e0 s g q er => he.le F γ M σ H _ _ e0 s g q fun F1 d v M1 H1 e1 s1 r1 q1 => er.rt F1 d v M1 H1 e1 s1 r1 q1⟩
def dRetN : DTS := fun D _ M => D.rt .non M
theorem ds_retN : DS X F0 (.Return none pos) tRetN dRetN := ⟨ps_retN, fun F γ M σ H D' D e0 s g q er => er.rt F .non .non M H (FLe.refl F) s .non q⟩
def dIfS (c : DTT) (t u : DTS) : DTS := fun D γ M => c γ M fun b M1 => if b = true then t D γ M1 else u D γ M1
theorem ds_if {c : Expr} {a b : List Stmt} {tc : TT} {tc' : DTT} (hc : DT X F0 c tc tc') (ha : DB X F0 a t t') (hb : DB X F0 b u u') : DS X F0 (.If c a b pos) (tIfS tc t u) (dIfS tc' t' u') := by
  refine ⟨ps_if hc.pt ha.ps hb.ps, fun F γ M σ H D' D e0 s g q er => ?_⟩
  refine hc.le F γ M σ H _ _ e0 s g q fun F1 c M1 H1 e1 s1 q1 => ?_
  cases c with
  | true => exact ha.le F1 γ M1 σ H1 D' D (e0.tr e1) s1 (g.mono e1) q1 (er.mono e1)
  | false => exact hb.le F1 γ M1 σ H1 D' D (e0.tr e1) s1 (g.mono e1) q1 (er.mono e1)
def dNever : DTS := fun _ _ _ => False
theorem ds_never : DS X F0 st tNever dNever := ⟨ps_never, fun F γ M σ H D' D e0 s g q er => q.elim⟩
theorem db_never {sts : List Stmt} : DB X F0 sts tNever dNever := ⟨pss_never, fun F γ M σ H D' D e0 s g q er => q.elim⟩
theorem ds_doc {x j pos pos'} : DS X F0 (.Expr (.Constant (.str x) j pos) pos') tNext dNext := ⟨ps_doc, fun F γ M σ H D' D e0 s g q er => er.nx F γ M σ H (FLe.refl F) s g q⟩
/-- ghost: fewer changeable things are told -/
def dLess (t : DTS) : DTS := fun D γ M => ∃ M', MLe M' M ∧ t D γ M'
theorem db_less {sts : List Stmt} (h : DB X F0 sts t t') : DB X F0 sts t (dLess t') := ⟨h.ps, fun F γ M σ H D' D e0 s g q er => by
  obtain ⟨M', l, q⟩ := q
  exact h.le F γ M' σ H D' D e0 (s.less l) g q er⟩
/-- ghost: the list at a name is frozen -/
def dFrzS (i : Nat) (t : DTS) : DTS := fun D γ M => match γ[i]? with
  | some (some (.ref p)) => (match M p with
    | some (.lst ds) => t D (γ.set i (some (.lst ds))) (mdel M p)
    | _ => False)
  | _ => False
theorem GR.reset {F : FZ} {γ : G} {σ : L2.St} {d : D} {v : V} (h : GR K F γ σ) {i : Nat} (hv : σ[i]? = some (some v)) (r : Rp K F d v) : GR K F (γ.set i (some d)) σ := by
  refine ⟨by simp [h.len], fun j e q => ?_⟩
  by_cases hj : i = j
  · subst hj
    by_cases hl : i < γ.length
    · rw [List.getElem?_set_self hl] at q
      cases q
      exact ⟨v, hv, r⟩
    · rw [List.getElem?_eq_none (by simpa using hl)] at q
      cases q
  · rw [List.getElem?_set_ne hj] at q
    exact h.at' j e q
theorem db_frz {sts : List Stmt} (i : Nat) (h : DB X F0 sts t t') : DB X F0 sts t (dFrzS i t') := ⟨h.ps, fun F γ M σ H D' D e0 s g q er => by
  unfold dFrzS at q
  split at q
  · rename_i p e
    split at q
    · rename_i ds hm
      obtain ⟨xs, s1, e1, r1⟩ := s.freeze hm
      obtain ⟨v, hv, rv⟩ := g.at' i _ e
      cases rv
      exact h.le _ _ _ σ H D' D (e0.tr e1) s1 ((g.mono e1).reset hv r1) q (er.mono e1)
    · exact q.elim
  · exact q.elim⟩
/-- ghost: a list as a value is frozen -/
def dFrz (te : DTE) : DTE := fun γ M Q => te γ M fun d M1 => match d with
  | .ref p => (match M1 p with
    | some (.lst ds) => Q (.lst ds) (mdel M1 p)
    | _ => Q (.ref p) M1)
  | d => Q d M1
theorem de_frz (h : DE X F0 e te te') : DE X F0 e te (dFrz te') := ⟨h.pe, fun F γ M σ H Q' Q e0 s g q k => by
  refine h.le F γ M σ H _ _ e0 s g q fun F1 d v M1 H1 e1 s1 r1 q1 => ?_
  split at q1
  · rename_i p
    split at q1
    · rename_i ds hm
      obtain ⟨xs, s2, e2, r2⟩ := s1.freeze hm
      cases r1
      exact k _ _ _ _ H1 (e1.trans e2) s2 r2 q1
    · exact k _ _ _ _ H1 e1 s1 r1 q1
  · exact k _ _ _ _ H1 e1 s1 r1 q1⟩
end

/-! ### targets -/
abbrev DTG := D → G → Mp → (G → Mp → Prop) → Prop
abbrev DTGs := List D → G → Mp → (G → Mp → Prop) → Prop
def LG (K : PySem.W.Frag) (F0 : FZ) (g' : DTG) (g : TG) : Prop := ∀ (F : FZ) (γ : G) (M : Mp) (σ : L2.St) (H : Hp) (d : D) (v : V) (Q' : G → Mp → Prop) (Q : L2.St → Hp → Prop), Bs F0 F → SR K F M H → GR K F γ σ → Rp K F d v → g' d γ M Q' →
  (∀ F1 γ1 M1 σ1 H1, FLe F F1 → SR K F1 M1 H1 → GR K F1 γ1 σ1 → Q' γ1 M1 → Q σ1 H1) → g v σ H Q
def LGs (K : PySem.W.Frag) (F0 : FZ) (g' : DTGs) (g : TGs) : Prop := ∀ (F : FZ) (γ : G) (M : Mp) (σ : L2.St) (H : Hp) (d : List D) (v : List V) (Q' : G → Mp → Prop) (Q : L2.St → Hp → Prop), Bs F0 F → SR K F M H → GR K F γ σ → RpL K F d v → g' d γ M Q' →
  (∀ F1 γ1 M1 σ1 H1, FLe F F1 → SR K F1 M1 H1 → GR K F1 γ1 σ1 → Q' γ1 M1 → Q σ1 H1) → g v σ H Q
structure DG (X : Cx) (F0 : FZ) (tg : Expr) (t : TG) (t' : DTG) : Prop where
  pg : PG X tg t
  le : LG X.K F0 t' t
structure DGs (X : Cx) (F0 : FZ) (ts : List Expr) (t : TGs) (t' : DTGs) : Prop where
  pg : PGs X ts t
  le : LGs X.K F0 t' t
section
variable {X : Cx} {K : PySem.W.Frag} {F0 : FZ} {pos : Pos}
def hName (i : Nat) : DTG := fun d γ M Q => Q (γ.set i (some d)) M
theorem dg_name (i : Nat) {x : Str} (hN : X.N.Nodup) (hi : X.N[i]? = some x := by rfl) (hx : Loc X.env.scope x := by first | exact Or.inl rfl | exact Or.inr rfl) (hf : X.fn x = true ∨ X.env.scope.names.lookup x = some .local := by first | exact .inl rfl | exact .inr rfl | assumption) :
    DG X F0 (.Name x pos) (gName i) (hName i) :=
  ⟨pg_name hN hi hx hf, fun F γ M σ H d v Q' Q e0 s g r q k => k F _ M _ H (FLe.refl F) s (g.set r i) q⟩
def hNil : DTGs := fun ds γ M Q => match ds with
  | [] => Q γ M
  | _ => False
def hCons (t : DTG) (u : DTGs) : DTGs := fun ds γ M Q => match ds with
  | d :: r => t d γ M fun γ1 M1 => u r γ1 M1 Q
  | [] => False
theorem dgs_nil : DGs X F0 [] gNil hNil := ⟨pgs_nil, fun F γ M σ H d v Q' Q e0 s g r q k => by
  cases r with
  | nil => exact ⟨rfl, k F γ M σ H (FLe.refl F) s g q⟩
  | cons _ _ => exact False.elim q⟩
theorem dgs_cons {e : Expr} {es : List Expr} {t : TG} {t' : DTG} {u : TGs} {u' : DTGs} (h1 : DG X F0 e t t') (h2 : DGs X F0 es u u')
    (hs : (assignEach (e :: es) X.env).map (·.2) = assign e X.env :: (assignEach es X.env).map (·.2) := by rfl) : DGs X F0 (e :: es) (gCons t u) (hCons t' u') := ⟨pgs_cons h1.pg h2.pg hs, fun F γ M σ H d v Q' Q e0 s g r q k => by
  cases r with
  | nil => exact False.elim q
  | cons r1 r2 =>
    exact ⟨_, _, rfl, h1.le F γ M σ H _ _ _ _ e0 s g r1 q fun F1 γ1 M1 σ1 H1 e1 s1 g1 q1 => h2.le F1 γ1 M1 σ1 H1 _ _ _ _ (e0.tr e1) s1 g1 (r2.mono e1) q1 fun F2 γ2 M2 σ2 H2 e2 s2 g2 q2 => k F2 γ2 M2 σ2 H2 (e1.trans e2) s2 g2 q2⟩⟩
def hTup (n : Nat) (t : DTGs) : DTG := fun d γ M Q => match d with
  | .tup l => l.length = n ∧ t l γ M Q
  | _ => False
theorem dg_tup {es : List Expr} {k : Nat} {t : TGs} {t' : DTGs} {n : Nat} (hc : X.calm = true) (h : DGs X F0 es t t')
    (hn : (assignEach es X.env).length = n := by rfl) (hst : (assignEach es X.env).findIdx? (·.1) = none := by rfl) : DG X F0 (.Tuple es k pos) (gTup X.K n t) (hTup n t') := ⟨pg_tup hc h.pg hn hst, fun F γ M σ H d v Q' Q e0 s g r q kk => by
  unfold hTup at q
  split at q
  · cases r with
    | tup a b => exact ⟨_, _, rfl, s.sqT a, b.length ▸ q.1, h.le F γ M σ H _ _ _ _ e0 s g b q.2 kk⟩
  · exact q.elim⟩
/-- o[i] = v, by values -/
abbrev DTSet := D → D → D → Mp → (Mp → Prop) → Prop
def L3s (K : PySem.W.Frag) (F0 : FZ) (r' : DTSet) (r : TSet) : Prop := ∀ (F : FZ) (M : Mp) (H : Hp) (o i d : D) (x y v : V) (Q' : Mp → Prop) (Q : Hp → Prop), Bs F0 F → SR K F M H → Rp K F o x → Rp K F i y → Rp K F d v → r' o i d M Q' →
  (∀ F1 M1 H1, FLe F F1 → SR K F1 M1 H1 → Q' M1 → Q H1) → r x y v H Q
def hSub (to ti : DTE) (t : DTSet) : DTG := fun d γ M Q => to γ M fun o M1 => ti γ M1 fun i M2 => t o i d M2 fun M3 => Q γ M3
theorem dg_sub {o i : Expr} {to ti : TE} {to' ti' : DTE} {t : TSet} {t' : DTSet} (ho : DE X F0 o to to') (hi : DE X F0 i ti ti') (hs : PSet X t) (hl : L3s X.K F0 t' t)
    (ha : ∀ v, assign (.Subscript o i pos) X.env v = (do
      let ov ← holding [v] (eval o X.env)
      let iv ← holding [v, ov] (eval i X.env)
      standAt pos
      holding [v, ov, iv] (setItem ov iv v)
      release [v, ov, iv] []) := by intro _; rfl) : DG X F0 (.Subscript o i pos) (gSub to ti t) (hSub to' ti' t') := ⟨pg_sub ho.pe hi.pe hs ha, fun F γ M σ H d v Q' Q e0 s g r q k => by
  refine ho.le F γ M σ H _ _ e0 s g q fun F1 d1 v1 M1 H1 e1 s1 r1 q1 => ?_
  refine hi.le F1 γ M1 σ H1 _ _ (e0.tr e1) s1 (g.mono e1) q1 fun F2 d2 v2 M2 H2 e2 s2 r2 q2 => ?_
  exact hl F2 M2 H2 d1 d2 d v1 v2 v _ _ ((e0.tr e1).tr e2) s2 (r1.mono e2) r2 (r.mono (e1.trans e2)) q2 fun F3 M3 H3 e3 s3 q3 => k F3 γ M3 σ H3 ((e1.trans e2).trans e3) s3 (g.mono ((e1.trans e2).trans e3)) q3⟩
def dAsg (te : DTE) (g : DTG) : DTS := fun D γ M => te γ M fun x M1 => g x γ M1 D.nx
theorem ls_asg {te : TE} {te' : DTE} {g : TG} {g' : DTG} (he : LE K F0 te' te) (hg : LG K F0 g' g) : LS K F0 (dAsg te' g') (tAsg te g) := fun F γ M σ H D' D e0 s gr q er =>
  he F γ M σ H _ _ e0 s gr q fun F1 d v M1 H1 e1 s1 r1 q1 => hg F1 γ M1 σ H1 d v _ _ (e0.tr e1) s1 (gr.mono e1) r1 q1 fun F2 γ2 M2 σ2 H2 e2 s2 g2 q2 => er.nx F2 γ2 M2 σ2 H2 (e1.trans e2) s2 g2 q2
theorem ds_asg {tg e : Expr} {te : TE} {te' : DTE} {g : TG} {g' : DTG} (he : DE X F0 e te te') (hg : DG X F0 tg g g') (hs : swapsWithSole [tg] e pos.line X.env = pure false := by rfl) (hw : swappedStores [tg] e X.env = pure none := by rfl)
    (h1 : (assignEach [tg] X.env).map (·.2) = [assign tg X.env] := by rfl) : DS X F0 (.Assign [tg] e pos) (tAsg te g) (dAsg te' g') := ⟨ps_asg he.pe hg.pg hs hw h1, ls_asg he.le hg.le⟩
theorem ds_set (i : Nat) {x : Str} {e : Expr} {te : TE} {te' : DTE} {pos' : Pos} (hN : X.N.Nodup) (he : DE X F0 e te te') (hi : X.N[i]? = some x := by rfl) (hx : Loc X.env.scope x := by first | exact Or.inl rfl | exact Or.inr rfl)
    (hs : swapsWith e (some (.Name x pos')) pos.line X.env = pure false := by rfl) (hf : X.fn x = true ∨ X.env.scope.names.lookup x = some .local := by first | exact .inl rfl | exact .inr rfl | assumption) :
    DS X F0 (.Assign [.Name x pos'] e pos) (tAsg te (gName i)) (dAsg te' (hName i)) := ⟨ps_set hN hi hx he.pe hs hf, ls_asg he.le (dg_name (X := X) (F0 := F0) (pos := pos') i hN hi hx hf).le⟩
/-- a, b = x, y of plain locals -/
def dPar (i j : Nat) (ta : DTA) : DTS := fun D γ M => ta γ M fun vs M1 => match vs with
  | [v, w] => D.nx ((γ.set i (some v)).set j (some w)) M1
  | _ => False
/-- x op= e -/
abbrev DTIp := D → D → Mp → DK → Prop
def dAug (i : Nat) (te : DTE) (ti : DTIp) : DTS := fun D γ M => match γ[i]? with
  | some (some x) => te γ M fun y M1 => ti x y M1 fun z M2 => D.nx (γ.set i (some z)) M2
  | _ => False
def LIp (K : PySem.W.Frag) (F0 : FZ) (r' : DTIp) (r : TIp) : Prop := ∀ (F : FZ) (M : Mp) (H : Hp) (d e : D) (x y : V) (Q' : DK) (Q : VK), Bs F0 F → SR K F M H → Rp K F d x → Rp K F e y → r' d e M Q' →
  (∀ F1 d v M1 H1, FLe F F1 → SR K F1 M1 H1 → Rp K F1 d v → Q' d M1 → Q v H1) → r x y H Q
theorem ds_aug (i : Nat) {x : Str} {e : Expr} {te : TE} {te' : DTE} {op : Operator} {ti : TIp} {ti' : DTIp} {pos' : Pos} (hN : X.N.Nodup) (he : DE X F0 e te te') (ho : PIp X op ti) (hl : LIp X.K F0 ti' ti) (hi : X.N[i]? = some x := by rfl) (hx : Loc X.env.scope x := by first | exact Or.inl rfl | exact Or.inr rfl)
    (hf : X.fn x = true ∨ X.env.scope.names.lookup x = some .local := by first | exact .inl rfl | exact .inr rfl | assumption) :
    DS X F0 (.AugAssign (.Name x pos') op e pos) (tAug i te ti) (dAug i te' ti') := ⟨ps_aug hN hi hx he.pe ho hf, fun F γ M σ H D' D e0 s g q er => by
  unfold dAug at q
  split at q
  · rename_i d0 hd
    obtain ⟨v0, hv, r0⟩ := g.at' i d0 hd
    refine ⟨v0, hv, he.le F γ M σ H _ _ e0 s g q fun F1 d1 v1 M1 H1 e1 s1 r1 q1 => ?_⟩
    exact hl F1 M1 H1 d0 d1 v0 v1 _ _ (e0.tr e1) s1 (r0.mono e1) r1 q1 fun F2 d2 v2 M2 H2 e2 s2 r2 q2 => er.nx F2 _ M2 _ H2 (e1.trans e2) s2 ((g.mono (e1.trans e2)).set r2 i) q2
  · exact q.elim⟩
def dipI (f : Int → Int → Int) : DTIp := fun x y M Q => match x, y with
  | .int i, .int j => Q (.int (f i j)) M
  | _, _ => False
theorem lip_I (f : Int → Int → Int) : LIp K F0 (dipI f) (ipI f) := by
  intro F M H d e x y Q' Q e0 s r1 r2 q k
  unfold dipI at q
  split at q
  · cases r1; cases r2
    exact ⟨_, _, rfl, rfl, k F _ _ M H (FLe.refl F) s (.int _) q⟩
  · exact q.elim
end

/-! ### loops -/
section
variable {X : Cx} {K : PySem.W.Frag} {F0 : FZ} {pos : Pos}
def dWhile (c : DTT) (tb : DTS) : DTS := fun D γ M => ∃ W : Nat → G → Mp → Prop, (∃ m, W m γ M) ∧ ∀ m γ M, W m γ M →
  c γ M fun b M1 => if b = true then tb { D with nx := fun γ' M' => ∃ m', m' < m ∧ W m' γ' M', ct := fun γ' M' => ∃ m', m' < m ∧ W m' γ' M', bk := D.nx } γ M1 else D.nx γ M1
theorem ds_while {c : Expr} {body : List Stmt} {tc : TT} {tc' : DTT} {tb : TS} {tb' : DTS} (hp : PassesOwn (model X.prog X.w) X.A X.env X.xe) (hc : DT X F0 c tc tc') (hb : DB X F0 body tb tb') : DS X F0 (.While c body [] pos) (tWhile tc tb) (dWhile tc' tb') := by
  refine ⟨ps_while hp hc.pt hb.ps, fun F γ M σ H D' D e0 s g q er => ?_⟩
  obtain ⟨W, ⟨m0, w0⟩, turn⟩ := q
  refine ⟨fun m σ H => ∃ F1 γ M, FLe F F1 ∧ SR X.K F1 M H ∧ GR X.K F1 γ σ ∧ W m γ M, ⟨m0, F, γ, M, FLe.refl F, s, g, w0⟩, ?_⟩
  rintro m σ1 H1 ⟨F1, γ1, M1, e1, s1, g1, w1⟩
  refine hc.le F1 γ1 M1 σ1 H1 _ _ (e0.tr e1) s1 g1 (turn m γ1 M1 w1) fun F2 b M2 H2 e2 s2 q2 => ?_
  cases b with
  | false => exact er.nx F2 γ1 M2 σ1 H2 (e1.trans e2) s2 (g1.mono e2) q2
  | true =>
    refine ⟨fun σ' H' => ∃ m', m' < m ∧ ∃ F1 γ M, FLe F F1 ∧ SR X.K F1 M H' ∧ GR X.K F1 γ σ' ∧ W m' γ M, fun σ' H' h => h, ?_⟩
    refine hb.le F2 γ1 M2 σ1 H2 _ _ ((e0.tr e1).tr e2) s2 (g1.mono e2) q2 ⟨?_, fun F3 d v M3 H3 e3 => er.rt F3 d v M3 H3 ((e1.trans e2).trans e3), fun F3 γ3 M3 σ3 H3 e3 => er.nx F3 γ3 M3 σ3 H3 ((e1.trans e2).trans e3), ?_⟩
    · rintro F3 γ3 M3 σ3 H3 e3 s3 g3 ⟨m', hm, w3⟩
      exact ⟨m', hm, F3, γ3, M3, (e1.trans e2).trans e3, s3, g3, w3⟩
    · rintro F3 γ3 M3 σ3 H3 e3 s3 g3 ⟨m', hm, w3⟩
      exact ⟨m', hm, F3, γ3, M3, (e1.trans e2).trans e3, s3, g3, w3⟩

abbrev DTI := G → Mp → (List D → Mp → Prop) → Prop
/-- a walk over known items -/
def JR (K : PySem.W.Frag) (F : FZ) (items : List D) (J : It) : Prop := ∀ (i : Nat) (F1 : FZ) (M1 : Mp) (H1 : Hp), Bj F F1 → SR K F1 M1 H1 →
  (items.length ≤ i → J.stop i H1) ∧ ∀ d, items[i]? = some d → J.go i H1 ∧ ∀ x H2, J.yld i H1 x H2 → ∃ F2, FLe F1 F2 ∧ SR K F2 M1 H2 ∧ Rp K F2 d x
def LI (K : PySem.W.Frag) (F0 : FZ) (wi' : DTI) (wi : TI) : Prop := ∀ (F : FZ) (γ : G) (M : Mp) (σ : L2.St) (H : Hp) (R' : List D → Mp → Prop) (R : It → Hp → Prop), Bs F0 F → SR K F M H → GR K F γ σ → wi' γ M R' →
  (∀ F1 items J M1 H1, FLe F F1 → SR K F1 M1 H1 → JR K F1 items J → R' items M1 → R J H1) → wi σ H R
structure DI (X : Cx) (F0 : FZ) (tg iter : Expr) (wi : TI) (wi' : DTI) : Prop where
  pi : PI X tg iter wi
  le : LI X.K F0 wi' wi
theorem JR.mono {F F1 : FZ} {items : List D} {J : It} (h : JR K F items J) (e : FLe F F1) : JR K F1 items J := fun i F2 M H e2 s => h i F2 M H (e.bj.trans e2) s
def dForI (g : DTG) (tb : DTS) (D0 : DEnds) (γ : G) (items : List D) (M1 : Mp) : Prop := ∃ I : Nat → G → Mp → Prop, I 0 γ M1 ∧
  (∀ i d γ M, items[i]? = some d → I i γ M → g d γ M fun γ1 M1 => tb { D0 with nx := I (i + 1), ct := I (i + 1), bk := D0.nx } γ1 M1) ∧ ∀ γ M, I items.length γ M → D0.nx γ M
def dFor (wi : DTI) (g : DTG) (tb : DTS) : DTS := fun D0 γ M => wi γ M fun items M1 => dForI g tb D0 γ items M1
theorem ds_for {tg iter : Expr} {body : List Stmt} {wi : TI} {wi' : DTI} {g : TG} {g' : DTG} {tb : TS} {tb' : DTS} (hp : PassesOwn (model X.prog X.w) X.A X.env X.xe) (hc : X.calm = true) (hi : DI X F0 tg iter wi wi') (hg : DG X F0 tg g g') (hb : DB X F0 body tb tb')
    (hs : ∀ x, foldedSetIterable iter X.env x = pure x := by intro _; rfl) : DS X F0 (.For tg iter body [] pos) (tFor wi g tb) (dFor wi' g' tb') := by
  refine ⟨ps_for hp hc hi.pi hg.pg hb.ps hs, fun F γ M σ H D' D0 e0 s gr q er => ?_⟩
  refine hi.le F γ M σ H _ _ e0 s gr q fun F1 items J M1 H1 e1 s1 j1 q1 => ?_
  obtain ⟨I, h0, step, fin⟩ := q1
  refine ⟨fun i m σ H => m = items.length - i ∧ i ≤ items.length ∧ ∃ F2 γ2 M2, FLe F1 F2 ∧ SR X.K F2 M2 H ∧ GR X.K F2 γ2 σ ∧ I i γ2 M2, ⟨items.length, by simp, Nat.zero_le _, F1, γ, M1, FLe.refl F1, s1, gr.mono e1, h0⟩, ?_⟩
  rintro i m σ2 H2 ⟨rfl, hi', F2, γ2, M2, e2, s2, g2, q2⟩
  have j2 := j1 i F2 M2 H2 e2.bj s2
  by_cases hlt : i < items.length
  · have hd : items[i]? = some items[i] := List.getElem?_eq_getElem hlt
    obtain ⟨go, y⟩ := j2.2 _ hd
    refine .inr ⟨go, fun σ' H' => ∃ F2 γ2 M2, FLe F1 F2 ∧ SR X.K F2 M2 H' ∧ GR X.K F2 γ2 σ' ∧ I (i + 1) γ2 M2, fun σ' H' h => ⟨items.length - (i + 1), by omega, rfl, hlt, h⟩, fun x H3 yy => ?_⟩
    obtain ⟨F3, e3, s3, r3⟩ := y x H3 yy
    refine hg.le F3 γ2 M2 σ2 H3 _ x _ _ ((e0.tr e1).tr (e2.trans e3)) s3 (g2.mono e3) r3 (step i _ γ2 M2 hd q2) fun F4 γ4 M4 σ4 H4 e4 s4 g4 q4 => ?_
    refine hb.le F4 γ4 M4 σ4 H4 _ _ (((e0.tr e1).tr (e2.trans e3)).tr e4) s4 g4 q4 ⟨?_, fun F5 d v M5 H5 e5 => er.rt F5 d v M5 H5 ((e1.trans ((e2.trans e3).trans e4)).trans e5), fun F5 γ5 M5 σ5 H5 e5 => er.nx F5 γ5 M5 σ5 H5 ((e1.trans ((e2.trans e3).trans e4)).trans e5), ?_⟩
    · intro F5 γ5 M5 σ5 H5 e5 s5 g5 q5
      exact ⟨F5, γ5, M5, (((e2.trans e3).trans e4).trans e5), s5, g5, q5⟩
    · intro F5 γ5 M5 σ5 H5 e5 s5 g5 q5
      exact ⟨F5, γ5, M5, (((e2.trans e3).trans e4).trans e5), s5, g5, q5⟩
  · have e : i = items.length := by omega
    subst e
    exact .inl ⟨j2.1 (Nat.le_refl _), er.nx F2 γ2 M2 σ2 H2 (e1.trans e2) s2 g2 (fin γ2 M2 q2)⟩
/-- a loop over few known items, turn by turn -/
def dForGo (g : DTG) (tb : DTS) (D0 : DEnds) : List D → G → Mp → Prop
  | [], γ, M => D0.nx γ M
  | d :: r, γ, M => g d γ M fun γ1 M1 => tb { D0 with nx := dForGo g tb D0 r, ct := dForGo g tb D0 r, bk := D0.nx } γ1 M1
theorem dFor_rec {g : DTG} {tb : DTS} {D0 : DEnds} {γ : G} {M1 : Mp} {items : List D} (h : dForGo g tb D0 items γ M1) : ∃ I : Nat → G → Mp → Prop, I 0 γ M1 ∧
    (∀ i d γ M, items[i]? = some d → I i γ M → g d γ M fun γ1 M1 => tb { D0 with nx := I (i + 1), ct := I (i + 1), bk := D0.nx } γ1 M1) ∧ ∀ γ M, I items.length γ M → D0.nx γ M := by
  refine ⟨fun i => dForGo g tb D0 (items.drop i), by simpa using h, fun i d γ M hd q => ?_, fun γ M q => ?_⟩
  · have hlt : i < items.length := (List.getElem?_eq_some_iff.mp hd).1
    have hdr : items.drop i = items[i] :: items.drop (i + 1) := List.drop_eq_getElem_cons hlt
    have e : items[i] = d := by
      rw [List.getElem?_eq_getElem hlt] at hd
      exact Option.some.inj hd
    simp only at q
    rw [hdr, e] at q
    exact q
  · simp only [List.drop_length] at q
    exact q
end
end DL

set_option maxRecDepth 100000
set_option maxHeartbeats 2000000
namespace DL
open PySem PySem.Spec PyProof.Rows L2

/-! ### argument lists, displays -/
section
variable {X : Cx} {K : PySem.W.Frag} {F0 : FZ} {a b e : Expr} {es : List Expr} {ta tb te : TE} {ta' tb' te' : DTE} {t : TA} {t' : DTA} {pos : Pos}
def dNil : DTA := fun _ M Q => Q [] M
def dCons (ta : DTE) (tr : DTA) : DTA := fun γ M Q => ta γ M fun x M1 => tr γ M1 fun xs M2 => Q (x :: xs) M2
theorem da_nil : DA X F0 [] tNil dNil := ⟨pa_nil, fun F γ M σ H Q' Q e0 s g q k => k F [] [] M H (FLe.refl F) s .nil q⟩
theorem da_cons (ha : DE X F0 e te te') (hr : DA X F0 es t t') (hs : starEach (e :: es) X.env = (false, eval e X.env) :: starEach es X.env := by rfl) : DA X F0 (e :: es) (tCons te t) (dCons te' t') :=
  ⟨pa_cons ha.pe hr.pa hs, fun F γ M σ H Q' Q e0 s g q k => ha.le F γ M σ H _ _ e0 s g q fun F1 d v M1 H1 e1 s1 r1 q1 =>
    hr.le F1 γ M1 σ H1 _ _ (e0.tr e1) s1 (g.mono e1) q1 fun F2 ds vs M2 H2 e2 s2 r2 q2 => k F2 _ _ M2 H2 (e1.trans e2) s2 (.cons (r1.mono e2) r2) q2⟩
def dTup (t : DTA) : DTE := fun γ M Q => t γ M fun ds M1 => ds.length ≤ sizeLine ∧ Q (.tup ds) M1
def dLst (t : DTA) : DTE := fun γ M Q => t γ M fun ds M1 => ds.length ≤ sizeLine ∧ Q (.lst ds) M1
def dLstM (t : DTA) : DTE := fun γ M Q => t γ M fun ds M1 => ds.length ≤ sizeLine ∧ ∀ p, M1 p = none → Q (.ref p) (mset M1 p (.lst ds))
theorem de_tup {x1} (h : DA X F0 es t t') : DE X F0 (.Tuple es x1 pos) (tTup t) (dTup t') := ⟨pe_tup h.pa, fun F γ M σ H Q' Q e0 s g q k => by
  refine h.le F γ M σ H _ _ e0 s g q fun F1 ds vs M1 H1 e1 s1 r1 q1 => ?_
  have hl : vs.length ≤ sizeLine := r1.length ▸ q1.1
  refine ⟨hl, fun p hp => ?_⟩
  have e2 := same_upd (o := .tup vs) (s1.freeF hp)
  exact k _ _ _ _ _ (e1.trans e2) (s1.newF hp hl) (.tup upd_same (r1.mono e2)) q1.2⟩
theorem de_lst (h : DA X F0 es t t') : DE X F0 (.List es pos) (tLst t) (dLst t') := ⟨pe_lst h.pa, fun F γ M σ H Q' Q e0 s g q k => by
  refine h.le F γ M σ H _ _ e0 s g q fun F1 ds vs M1 H1 e1 s1 r1 q1 => ?_
  have hl : vs.length ≤ sizeLine := r1.length ▸ q1.1
  refine ⟨hl, fun p hp => ?_⟩
  have e2 := same_upd (o := .lst vs) (s1.freeF hp)
  exact k _ _ _ _ _ (e1.trans e2) (s1.newF hp hl) (.lst upd_same (r1.mono e2)) q1.2⟩
theorem de_lstM (h : DA X F0 es t t') : DE X F0 (.List es pos) (tLst t) (dLstM t') := ⟨pe_lst h.pa, fun F γ M σ H Q' Q e0 s g q k => by
  refine h.le F γ M σ H _ _ e0 s g q fun F1 ds vs M1 H1 e1 s1 r1 q1 => ?_
  have hl : vs.length ≤ sizeLine := r1.length ▸ q1.1
  refine ⟨hl, fun p hp => ?_⟩
  exact k F1 _ _ _ _ e1 (s1.putN hp (.lst r1 hl)) (.ref p) (q1.2 p (s1.freeM hp))⟩
/-- a, b = x, y of plain locals -/
theorem ds_par {i j : Nat} {x y : Str} {px py pt : Pos} {kt k2 pt2} (hc : X.calm = true) (hN : X.N.Nodup) (hi : X.N[i]? = some x) (hj : X.N[j]? = some y) (hij : i ≠ j)
    (hx : X.env.scope.names.lookup x = some .local) (hy : X.env.scope.names.lookup y = some .local) (ha : DA X F0 [a, b] t t')
    (hw : swappedStores [.Tuple [.Name x px, .Name y py] kt pt] (.Tuple [a, b] k2 pt2) X.env = pure (some [x, y]))
    (hs : swapsWithSole [.Tuple [.Name x px, .Name y py] kt pt] (.Tuple [a, b] k2 pt2) pos.line X.env = pure false := by rfl) :
    DS X F0 (.Assign [.Tuple [.Name x px, .Name y py] kt pt] (.Tuple [a, b] k2 pt2) pos) (tPar i j t) (dPar i j t') := ⟨ps_par hc hN hi hj hij hx hy ha.pa hw hs, fun F γ M σ H D' D0 e0 s g q er => by
  refine ha.le F γ M σ H _ _ e0 s g q fun F1 ds vs M1 H1 e1 s1 r1 q1 => ?_
  split at q1
  · cases r1 with
    | cons r1 r2 =>
      cases r2 with
      | cons r2 r3 =>
        cases r3
        exact ⟨_, _, rfl, er.nx F1 _ M1 _ H1 e1 s1 (((g.mono e1).set r1 i).set r2 j) q1⟩
  · exact q1.elim⟩
end

/-! ### dicts as told -/
section
variable {κ : Type} [DecidableEq κ]
def dval (kvs : List (κ × D)) (k : κ) : Option D := (kvs.find? fun kv => decide (kv.1 = k)).map (·.2)
def dput (kvs : List (κ × D)) (k : κ) (v : D) : List (κ × D) := if (dval kvs k).isSome = true then kvs.map fun kv => if kv.1 = k then (kv.1, v) else kv else kvs ++ [(k, v)]
end
def keyOf : D → Option Key
  | .int i => some (.inl i)
  | .str x => some (.inr x)
  | _ => none
def keysOf : List D → Option (List Key)
  | [] => some []
  | d :: r => match keyOf d, keysOf r with
    | some k, some ks => some (k :: ks)
    | _, _ => none
/-- the dict at p, asked for y -/
def dLook (M : Mp) (p : Addr) (y : D) : Option (Option D) := match M p with
  | some (.dK kvs) => (keyOf y).map fun k => dval kvs k
  | some (.dT kvs) => match y with
    | .tup l => (keysOf l).map fun k => dval kvs k
    | _ => none
  | _ => none
section
variable {K : PySem.W.Frag} {F : FZ} {M : Mp} {H : Hp}
theorem keyOf_rp {d : D} {v : V} {k : Key} (r : Rp K F d v) (h : keyOf d = some k) : v = kV k := by
  cases r <;> simp [keyOf] at h <;> subst h <;> rfl
theorem keysOf_rp : ∀ {ds : List D} {xs : List V} {ks : List Key}, RpL K F ds xs → keysOf ds = some ks → xs = ks.map kV
  | _, _, ks, .nil, h => by simp [keysOf] at h; subst h; rfl
  | _, _, ks, .cons r t, h => by
    simp only [keysOf] at h
    split at h
    · rename_i k ks' hk hks
      cases h
      rw [List.map_cons, keyOf_rp r hk, keysOf_rp t hks]
    · cases h
theorem kvr_find {κ : Type} [DecidableEq κ] {k : κ} : ∀ {l : List (κ × D)} {m : List (κ × V)}, KVR K F l m →
    (dval l k = none ∧ valV m k = none) ∨ ∃ d v, dval l k = some d ∧ valV m k = some v ∧ Rp K F d v
  | _, _, .nil => .inl ⟨rfl, rfl⟩
  | (k1, d) :: l, (k2, v) :: m, .cons r t => by
    obtain ⟨e, r⟩ := r
    simp only at e r
    subst e
    by_cases h : k1 = k
    · refine .inr ⟨d, v, ?_, ?_, r⟩ <;> simp [dval, valV, List.find?, h]
    · have e1 : dval ((k1, d) :: l) k = dval l k := by simp [dval, List.find?, h]
      have e2 : valV ((k1, v) :: m) k = valV m k := by simp [valV, List.find?, h]
      rw [e1, e2]
      exact kvr_find t
theorem kvr_append {κ : Type} : ∀ {l : List (κ × D)} {m : List (κ × V)} {l' : List (κ × D)} {m' : List (κ × V)}, KVR K F l m → KVR K F l' m' → KVR K F (l ++ l') (m ++ m')
  | _, _, _, _, .nil, s => s
  | _, _, _, _, .cons r t, s => .cons r (kvr_append t s)
theorem kvr_len {κ : Type} {l : List (κ × D)} {m : List (κ × V)} (h : KVR K F l m) : l.length = m.length := Paired.length h
theorem kvr_map {κ : Type} [DecidableEq κ] {k : κ} {d : D} {v : V} (r : Rp K F d v) : ∀ {l : List (κ × D)} {m : List (κ × V)}, KVR K F l m →
    KVR K F (l.map fun kv => if kv.1 = k then (kv.1, d) else kv) (m.map fun kv => if kv.1 = k then (kv.1, v) else kv)
  | _, _, .nil => .nil
  | (k1, d1) :: l, (k2, v1) :: m, .cons q t => by
    obtain ⟨e, q⟩ := q
    simp only at e q
    subst e
    rw [List.map_cons, List.map_cons]
    refine .cons ?_ (kvr_map r t)
    by_cases h : k1 = k
    · simp [h, r]
    · simp [h, q]
theorem putK_eq {κ : Type} [DecidableEq κ] (m : List (κ × V)) (k : κ) (v : V) : putK m k v = if (valV m k).isSome = true then m.map fun kv => if kv.1 = k then (kv.1, v) else kv else m ++ [(k, v)] := by
  unfold putK valV
  have e : (m.any fun kv => decide (kv.1 = k)) = ((m.find? fun kv => decide (kv.1 = k)).map (·.2)).isSome := by
    induction m with
    | nil => rfl
    | cons p r ih =>
      by_cases h : p.1 = k
      · simp [List.find?, h]
      · simp [List.find?, h] at ih ⊢
        exact ih
  rw [e]
theorem kvr_put {κ : Type} [DecidableEq κ] {k : κ} {d : D} {v : V} (r : Rp K F d v) {l : List (κ × D)} {m : List (κ × V)} (h : KVR K F l m) : KVR K F (dput l k d) (putK m k v) := by
  unfold dput
  rw [putK_eq]
  rcases kvr_find (k := k) h with ⟨e1, e2⟩ | ⟨d1, v1, e1, e2, _⟩
  · rw [e1, e2]
    exact kvr_append h (.cons ⟨rfl, r⟩ .nil)
  · rw [e1, e2]
    exact kvr_map r h
theorem dLook_get (s : SR K F M H) {p : Addr} {y : D} {v : V} {o : Option D} (r : Rp K F y v) (h : dLook M p y = some o) :
    ∃ o', DGet H p v o' ∧ ((o = none ∧ o' = none) ∨ ∃ d w, o = some d ∧ o' = some w ∧ Rp K F d w) := by
  unfold dLook at h
  split at h
  · rename_i kvs hm
    obtain ⟨k, hk, e⟩ := Option.map_eq_some_iff.mp h
    obtain ⟨u, h1, h2⟩ := s.mu p _ hm
    cases h2 with
    | dK r2 z =>
      refine ⟨_, (keyOf_rp r hk) ▸ DGet.k (k := k) h1, ?_⟩
      rcases kvr_find (k := k) r2 with ⟨e1, e2⟩ | ⟨d1, v1, e1, e2, r3⟩
      · exact .inl ⟨by rw [← e, e1], e2⟩
      · exact .inr ⟨d1, v1, by rw [← e, e1], e2, r3⟩
  · rename_i kvs hm
    split at h
    · rename_i l
      obtain ⟨k, hk, e⟩ := Option.map_eq_some_iff.mp h
      obtain ⟨u, h1, h2⟩ := s.mu p _ hm
      cases r with
      | tup ha rl =>
        have hx := keysOf_rp rl hk
        subst hx
        cases h2 with
        | dT r2 z _ =>
          refine ⟨_, DGet.t (k := k) h1 (s.fz _ _ ha), ?_⟩
          rcases kvr_find (k := k) r2 with ⟨e1, e2⟩ | ⟨d1, v1, e1, e2, r3⟩
          · exact .inl ⟨by rw [← e, e1], e2⟩
          · exact .inr ⟨d1, v1, by rw [← e, e1], e2, r3⟩
    · cases h
  · cases h
/-- a frozen dict, asked for y -/
def dkLook : D → D → Option (Option D)
  | .dk ks l, y => (keyOf y).map fun k => dval (ks.zip l) k
  | .dt ks l, .tup m => (keysOf m).map fun k => dval (ks.zip l) k
  | _, _ => none
theorem kvr_zip {κ : Type} : ∀ {ps : List (κ × V)} {l : List D}, RpL K F l (ps.map (·.2)) → KVR K F ((ps.map (·.1)).zip l) ps
  | [], _, .nil => .nil
  | (k, v) :: ps, d :: l, .cons r t => .cons ⟨rfl, r⟩ (kvr_zip t)
theorem dkLook_get (s : SR K F M H) {x y : D} {u v : V} {o : Option D} (rx : Rp K F x u) (r : Rp K F y v) (h : dkLook x y = some o) :
    ∃ p o', u = .ref p ∧ DGet H p v o' ∧ ((o = none ∧ o' = none) ∨ ∃ d w, o = some d ∧ o' = some w ∧ Rp K F d w) := by
  cases rx with
  | dk a b =>
    rename_i p ps l
    simp only [dkLook] at h
    obtain ⟨k, hk, e⟩ := Option.map_eq_some_iff.mp h
    refine ⟨p, valV ps k, rfl, .inl ⟨ps, k, s.dz _ _ a, keyOf_rp r hk, rfl⟩, ?_⟩
    rcases kvr_find (k := k) (kvr_zip b) with ⟨e1, e2⟩ | ⟨d1, v1, e1, e2, r3⟩
    · exact .inl ⟨by rw [← e, e1], e2⟩
    · exact .inr ⟨d1, v1, by rw [← e, e1], e2, r3⟩
  | dt a b =>
    rename_i p ps l
    cases y with
    | tup m =>
      simp only [dkLook] at h
      obtain ⟨k, hk, e⟩ := Option.map_eq_some_iff.mp h
      cases r with
      | tup ha rl =>
        have hx := keysOf_rp rl hk
        subst hx
        refine ⟨p, valV ps k, rfl, .inr ⟨ps, k, _, s.dz _ _ a, rfl, s.fz _ _ ha, rfl⟩, ?_⟩
        rcases kvr_find (k := k) (kvr_zip b) with ⟨e1, e2⟩ | ⟨d1, v1, e1, e2, r3⟩
        · exact .inl ⟨by rw [← e, e1], e2⟩
        · exact .inr ⟨d1, v1, by rw [← e, e1], e2, r3⟩
    | _ => simp [dkLook] at h
  | _ => simp [dkLook] at h
/-- what M says behind a store -/
def dStore (M : Mp) (p : Addr) (y d : D) : Option Mp := match M p with
  | some (.dK kvs) => (keyOf y).bind fun k => if kvs.length < sizeLine then some (mset M p (.dK (dput kvs k d))) else none
  | some (.dT kvs) => match y with
    | .tup l => (keysOf l).bind fun k => if kvs.length < sizeLine then some (mset M p (.dT (dput kvs k d))) else none
    | _ => none
  | some (.lst l) => match y with
    | .int i => (ixN l.length i).bind fun j => some (mset M p (.lst (l.set j d)))
    | _ => none
  | _ => none
theorem putK_len {κ : Type} [DecidableEq κ] (m : List (κ × V)) (k : κ) (v : V) (h : m.length < sizeLine) : (putK m k v).length ≤ sizeLine := by
  rw [putK_eq]
  split
  · rw [List.length_map]; omega
  · rw [List.length_append]; simp; omega
theorem putK_keys {m : List (List Key × V)} {k : List Key} {v : V} (h : ∀ p ∈ m, p.1.length ≤ sizeLine) (hk : k.length ≤ sizeLine) : ∀ p ∈ putK m k v, p.1.length ≤ sizeLine := by
  rw [putK_eq]
  split
  · intro p hp
    obtain ⟨q, h1, h2⟩ := List.mem_map.mp hp
    subst h2
    have := h q h1
    split <;> exact this
  · intro p hp
    rcases List.mem_append.mp hp with h1 | h1
    · exact h p h1
    · rw [List.mem_singleton] at h1
      subst h1
      exact hk
theorem dStore_put (s : SR K F M H) {p : Addr} {y d : D} {v w : V} {M' : Mp} (r : Rp K F y v) (rd : Rp K F d w) (h : dStore M p y d = some M') :
    (∃ H', DPut H p v w H' ∧ SR K F M' H') ∨ ∃ xs k j, v = .int k ∧ H p = some (.lst xs) ∧ ixN xs.length k = some j ∧ SR K F M' (upd H p (.lst (xs.set j w))) := by
  unfold dStore at h
  split at h
  · rename_i kvs hm
    obtain ⟨k, hk, e⟩ := Option.bind_eq_some_iff.mp h
    split at e
    · rename_i hl
      cases e
      obtain ⟨u, h1, h2⟩ := s.mu p _ hm
      cases h2 with
      | dK r2 z =>
        rename_i ps
        have hl2 : ps.length < sizeLine := kvr_len r2 ▸ hl
        exact .inl ⟨_, (keyOf_rp r hk) ▸ DPut.k (k := k) h1 hl2, s.putM hm (.dK (kvr_put rd r2) (putK_len _ _ _ hl2))⟩
    · cases e
  · rename_i kvs hm
    split at h
    · rename_i l
      obtain ⟨k, hk, e⟩ := Option.bind_eq_some_iff.mp h
      split at e
      · rename_i hl
        cases e
        obtain ⟨u, h1, h2⟩ := s.mu p _ hm
        cases r with
        | tup ha rl =>
          have hx := keysOf_rp rl hk
          subst hx
          cases h2 with
          | dT r2 z zz =>
            rename_i ps
            have hl2 : ps.length < sizeLine := kvr_len r2 ▸ hl
            exact .inl ⟨_, DPut.t (k := k) h1 (s.fz _ _ ha) hl2, s.putM hm (.dT (kvr_put rd r2) (putK_len _ _ _ hl2) (putK_keys zz (by have := s.lenT ha; rw [List.length_map] at this; exact this)))⟩
      · cases e
    · cases h
  · rename_i l hm
    split at h
    · rename_i i
      obtain ⟨j, hj, e⟩ := Option.bind_eq_some_iff.mp h
      cases e
      obtain ⟨u, h1, h2⟩ := s.mu p _ hm
      cases h2 with
      | lst r2 z =>
        cases r
        refine .inr ⟨_, i, j, rfl, h1, r2.length ▸ hj, s.putM hm (.lst (r2.set rd j) (by rw [List.length_set]; exact z))⟩
    · cases h
  · cases h
end

/-! ### x[y] -/
/-- an item by place -/
def dAt (x y : D) : Option D := match x, y with
  | .tup l, .int i => atI l i
  | .lst l, .int i => atI l i
  | .kt l, .int i => atI l i
  | .str z, .int i => if z.length ≤ sizeLine then (atI z.cps.toList i).map fun c => .str ⟨#[c]⟩ else none
  | _, _ => none
def dIxV (M : Mp) (x y : D) : Option D := match x with
  | .ref p => (match M p with
    | some (.lst l) => (match y with
      | .int i => atI l i
      | _ => none)
    | _ => (dLook M p y).bind id)
  | .dk ks l => (dkLook (.dk ks l) y).bind id
  | .dt ks l => (dkLook (.dt ks l) y).bind id
  | x => dAt x y
def dIx : DR2 := fun x y M Q => ∃ d, dIxV M x y = some d ∧ Q d M
section
variable {X : Cx} {K : PySem.W.Frag} {F0 : FZ} {a b e o i value : Expr} {ta tb te : TE} {ta' tb' te' : DTE} {pos : Pos}
theorem atI_rp {F : FZ} {ds : List D} {xs : List V} {i : Int} {d : D} (r : RpL K F ds xs) (h : atI ds i = some d) : ∃ v, atI xs i = some v ∧ Rp K F d v := by
  unfold atI at h ⊢
  rw [← r.length]
  obtain ⟨j, h1, h2⟩ := Option.bind_eq_some_iff.mp h
  obtain ⟨v, e, rv⟩ := r.get h2
  exact ⟨v, by rw [h1]; exact e, rv⟩
def rIxAny (K : PySem.W.Frag) : R2 := fun x y H Q => rIx K x y H Q ∨ ∃ a v, x = .ref a ∧ DGet H a y (some v) ∧ Q v H
theorem ix_dict (hu : X.A.units + 1 < cLine) : IxR X (fun x y H Q => ∃ a v, x = .ref a ∧ DGet H a y (some v) ∧ Q v H) := by
  intro value slice pins s σ H x y v u Q I rx ry h hs
  obtain ⟨a, w, rfl, g, q⟩ := h
  obtain rfl : v = Value.ref a := rx
  have hT := dict_typeIs I g
  have h2 : wpAny (model X.prog X.w) X.A (getItem (.ref a) u) (EP X pins σ Q) X.xe s := d_getItem hu I g ry fun w' s3 I3 rw' => ⟨w, H, I3, rw', q⟩
  unfold subscriptTail
  refine wpAny_bind ?_
  rw [getitemInPython_of_ne hT.not_modules]
  refine wpAny_bind (wpAny_specialOf hT PySem.F.slot_dict_getitem.lookup ?_)
  have fin : wpAny (model X.prog X.w) X.A (subscripted slice false (.ref a) u) (fun r s₃ => wpAny (model X.prog X.w) X.A (letTemporaryGo value (.ref a) r >>= fun _ => pure r) (EP X pins σ Q) X.xe s₃) X.xe s := by
    rw [hs]
    exact wpAny_operating (wpAny_mono h2 (fun r s₃ h₃ => wpAny_bind (wpAny_letTemporaryGo (wpAny_pure h₃))) fun _ _ x => x)
  first
    | exact wpAny_pure (wpAny_bind fin)
    | exact wpAny_bind (wpAny_pure (wpAny_bind fin))
    | exact wpAny_bind fin
theorem ix_any (hu : X.A.units + 1 < cLine) : IxR X (rIxAny X.K) := ix_seq.or (ix_dict hu)
theorem dAt_rp {F : FZ} {M : Mp} {H : Hp} {d e r : D} {x y : V} {Q : VK} (s : SR K F M H) (r1 : Rp K F d x) (r2 : Rp K F e y) (hd : dAt d e = some r) (k : ∀ v, Rp K F r v → Q v H) : rIx K x y H Q := by
  cases r1 with
  | tup a b =>
    cases r2 with
    | int i =>
      obtain ⟨v, h1, h2⟩ := atI_rp b (show atI _ i = some r from hd)
      exact .inr (.inl ⟨_, _, _, v, rfl, rfl, s.sqT a, h1, k v h2⟩)
    | _ => exact nomatch hd
  | kt a b =>
    cases r2 with
    | int i =>
      obtain ⟨v, h1, h2⟩ := atI_rp b (show atI _ i = some r from hd)
      exact .inr (.inl ⟨_, _, _, v, rfl, rfl, a.sqT, h1, k v h2⟩)
    | _ => exact nomatch hd
  | lst a b =>
    cases r2 with
    | int i =>
      obtain ⟨v, h1, h2⟩ := atI_rp b (show atI _ i = some r from hd)
      exact .inl ⟨_, _, _, v, rfl, rfl, (SqL.of (s.fz _ _ a)), h1, k v h2⟩
    | _ => exact nomatch hd
  | str z =>
    cases r2 with
    | int i =>
      have hd' : (if z.length ≤ sizeLine then (atI z.cps.toList i).map fun c => D.str ⟨#[c]⟩ else none) = some r := hd
      split at hd'
      · rename_i hz
        obtain ⟨c, h1, h2⟩ := Option.map_eq_some_iff.mp hd'
        subst h2
        exact .inr (.inr ⟨z, i, c, rfl, rfl, hz, h1, k _ (.str _)⟩)
      · cases hd'
    | _ => exact nomatch hd
  | _ => exact nomatch hd
theorem l2_ix : L2r K F0 dIx (rIxAny K) := by
  intro F M H d e x y Q' Q e0 s r1 r2 q k
  obtain ⟨r, hr, q⟩ := q
  have kk : ∀ v, Rp K F r v → Q v H := fun v rv => k F r v M H (FLe.refl F) s rv q
  unfold dIxV at hr
  split at hr
  · rename_i p
    cases r1
    split at hr
    · rename_i l hm
      split at hr
      · rename_i i
        cases r2
        obtain ⟨u, h1, h2⟩ := s.mu p _ hm
        cases h2 with
        | lst rl z =>
          obtain ⟨v, h3, h4⟩ := atI_rp rl hr
          exact .inl (.inl ⟨p, _, i, v, rfl, rfl, SqL.of h1, h3, kk v h4⟩)
      · cases hr
    · obtain ⟨o, h1, h2⟩ := Option.bind_eq_some_iff.mp hr
      have h2 : o = some r := h2
      subst h2
      obtain ⟨o', g, c⟩ := dLook_get s r2 h1
      rcases c with ⟨z, _⟩ | ⟨d1, w, z1, z2, rr⟩
      · cases z
      · cases z1
        subst z2
        exact .inr ⟨p, w, rfl, g, kk w rr⟩
  · obtain ⟨o, h1, h2⟩ := Option.bind_eq_some_iff.mp hr
    have h2 : o = some r := h2
    subst h2
    obtain ⟨p, o', rfl, g, c⟩ := dkLook_get s r1 r2 h1
    rcases c with ⟨z, _⟩ | ⟨d1, w, z1, z2, rr⟩
    · cases z
    · cases z1
      subst z2
      exact .inr ⟨p, w, rfl, g, kk w rr⟩
  · obtain ⟨o, h1, h2⟩ := Option.bind_eq_some_iff.mp hr
    have h2 : o = some r := h2
    subst h2
    obtain ⟨p, o', rfl, g, c⟩ := dkLook_get s r1 r2 h1
    rcases c with ⟨z, _⟩ | ⟨d1, w, z1, z2, rr⟩
    · cases z
    · cases z1
      subst z2
      exact .inr ⟨p, w, rfl, g, kk w rr⟩
  · exact .inl (dAt_rp s r1 r2 hr kk)
theorem de_ix {n : Nat} (hr : Room n X.A) (ha : DE X F0 a ta ta') (hb : DE X F0 b tb tb') (hs : PlainIx b := by exact fun _ _ => rfl) : DE X F0 (.Subscript a b pos) (tOp (rIxAny X.K) ta tb) (dOp dIx ta' tb') :=
  ⟨pe_ix (ix_any (hu_of hr)) ha.pe hb.pe hs, le_op l2_ix ha.le hb.le⟩

/-! ### x[y] = v -/
def dSet : DTSet := fun o i v M Q => match o with
  | .ref p => ∃ M', dStore M p i v = some M' ∧ Q M'
  | _ => False
def rSetAny : TSet := fun o i v H Q => rSetL o i v H Q ∨ ∃ a H', o = .ref a ∧ DPut H a i v H' ∧ Q H'
theorem set_any (hu : X.A.units + 1 < cLine) : PSet X rSetAny := by
  intro pins s σ H o i v ov iv u Q I ro ri rv h
  rcases h with h | ⟨a, H', rfl, g, q⟩
  · exact set_list pins s σ H o i v ov iv u Q I ro ri rv h
  · cases ro
    exact d_setItem hu I g ri rv fun s4 I4 => ⟨H', I4, q⟩
theorem l3_set : L3s K F0 dSet rSetAny := by
  intro F M H o i d x y v Q' Q e0 s ro ri rd q k
  unfold dSet at q
  split at q
  · rename_i p
    cases ro
    obtain ⟨M', h1, q⟩ := q
    rcases dStore_put s ri rd h1 with ⟨H', g, s'⟩ | ⟨xs, kk, j, rfl, h2, h3, s'⟩
    · exact .inr ⟨p, H', rfl, g, k F M' H' (FLe.refl F) s' q⟩
    · exact .inl ⟨p, xs, kk, j, rfl, rfl, h2, h3, k F M' _ (FLe.refl F) s' q⟩
  · exact q.elim
theorem dg_sub' {n : Nat} {to ti : TE} {to' ti' : DTE} (hr : Room n X.A) (ho : DE X F0 o to to') (hi : DE X F0 i ti ti')
    (ha : ∀ v, assign (.Subscript o i pos) X.env v = (do
      let ov ← holding [v] (eval o X.env)
      let iv ← holding [v, ov] (eval i X.env)
      standAt pos; holding [v, ov, iv] (setItem ov iv v); release [v, ov, iv] []) := by intro _; rfl) : DG X F0 (.Subscript o i pos) (gSub to ti rSetAny) (hSub to' ti' dSet) := dg_sub ho hi (set_any (hu_of hr)) l3_set ha
end
end DL

set_option maxRecDepth 100000
set_option maxHeartbeats 2000000
namespace DL
open PySem PySem.Spec PyProof.Rows L2

/-! ### defs -/
/-- an exception: its class, its fields (where it has its own dict) -/
abbrev DXK := Value → Option (List (Str × D)) → Mp → Prop
abbrev DSp := List D → Mp → DK → DXK → Prop
def DXK.no : DXK := fun _ _ _ => False
def XR (K : PySem.W.Frag) (F : FZ) (fs : Option (List (Str × D))) (d : Option Addr) (H : Hp) : Prop := match fs, d with
  | none, none => True
  | some l, some a => ∃ gs, H a = some (.xd gs) ∧ KVR K F l gs
  | _, _ => False
def lX (K : PySem.W.Frag) (F : FZ) (E : DXK) : XK := fun c d H => ∃ F1 M fs, FLe F F1 ∧ SR K F1 M H ∧ XR K F1 fs d H ∧ E c fs M
def liftSp (K : PySem.W.Frag) (sp : DSp) : Sp := fun vs H Q E => ∃ F ds M Q' E', SR K F M H ∧ RpL K F ds vs ∧ sp ds M Q' E' ∧
  (∀ F1 d v M1 H1, FLe F F1 → SR K F1 M1 H1 → Rp K F1 d v → Q' d M1 → Q v H1) ∧ ∀ c d H1, lX K F E' c d H1 → E c d H1
def dCall (sp : DSp) (E : DXK) (t : DTA) : DTE := fun γ M Q => t γ M fun ds M1 => sp ds M1 Q E
theorem pass0' {X : Cx} {E : XK} : Passes CX0 X E := fun _ _ _ _ _ _ _ h => h.elim
/-- a def as it is called -/
structure DCal (P : Program) (w : World) (K : PySem.W.Frag) (mg : Str → Option Value) (base : Heap) (CX : CXT) (k : Nat) (x : Str) (sp : DSp) : Prop where
  ex : ∃ f fd ps, FnOk P w K mg base CX k f fd ps (liftSp K sp) ∧ mg x = some (.ref f) ∧ PySem.W.keepIn K (.ref f) = true ∧ Binds K fd ps []
section
variable {P : Program} {w : World} {K : PySem.W.Frag} {mg : Str → Option Value} {base : Heap} {X : Cx} {F0 : FZ} {e : Expr} {es : List Expr} {t : TA} {t' : DTA} {p pos : Pos} {CX : CXT}
/-- what is raised, wherever -/
def lXa (K : PySem.W.Frag) (E : DXK) : XK := fun c d H => ∃ F, lX K F E c d H
structure GoesA (CX : CXT) (X : Cx) (E : DXK) : Prop where
  p : Passes CX X (lXa X.K E)
theorem goes0A {X : Cx} {E : DXK} : GoesA CX0 X E := ⟨pass0'⟩
theorem goesNA {X : Cx} : GoesA (L2.CX X.prog X.w) X DXK.no := ⟨fun _ _ _ _ _ _ _ h => by
  obtain ⟨_, _, _, _, _, _, _, _, _, _, _, _, z⟩ := h
  obtain ⟨_, _, _, _, _, _, _, z⟩ := z
  exact z.elim⟩
theorem le_callA {sp : DSp} {E : DXK} (ha : LA K F0 t' t) : LE K F0 (dCall sp E t') (tCall (liftSp K sp) [] (lXa K E) t) := by
  intro F γ M σ H Q' Q e0 s g q k
  refine ha F γ M σ H _ _ e0 s g q fun F1 ds vs M1 H1 e1 s1 r1 q1 => ?_
  rw [List.append_nil]
  exact ⟨F1, ds, M1, Q', E, s1, r1, q1, fun F2 d v M2 H2 e2 s2 r2 q2 => k F2 d v M2 H2 (e1.trans e2) s2 r2 q2, fun c d H1 h => ⟨F1, h⟩⟩
theorem de_call {k j : Nat} {x : Str} {sp : DSp} {E : DXK} (c : DCal X.prog X.w X.K X.mg X.base CX k x sp) (hr : Room j X.A) (hx : GoesA CX X E) (ha : DA X F0 (e :: es) t t') (hk : k ≤ j := by decide) (hg : Gl X x := by rfl)
    (hdb : (x == ("__debug__" : Str)) = false := by decide) (he : starEach (e :: es) X.env = (false, eval e X.env) :: starEach es X.env := by rfl) (hpl : (backTo pos (starEach es X.env)).any (·.1) = false := by rfl) :
    DE X F0 (.Call (.Name x p) (e :: es) [] pos) (tCall (liftSp X.K sp) [] (lXa X.K E) t) (dCall sp E t') := by
  obtain ⟨f, fd, ps, G, hm, hkp, hb⟩ := c.ex
  exact ⟨pe_call G (hr.mono hk) hg hm hkp hb .nil hx.p ha.pa hdb he hpl, le_callA ha.le⟩
theorem de_call0 {k j : Nat} {x : Str} {sp : DSp} {E : DXK} (c : DCal X.prog X.w X.K X.mg X.base CX k x sp) (hr : Room j X.A) (hx : GoesA CX X E) (hk : k ≤ j := by decide) (hg : Gl X x := by rfl)
    (hdb : (x == ("__debug__" : Str)) = false := by decide) : DE X F0 (.Call (.Name x p) [] [] pos) (tCall (liftSp X.K sp) [] (lXa X.K E) tNil) (dCall sp E dNil) := by
  obtain ⟨f, fd, ps, G, hm, hkp, hb⟩ := c.ex
  exact ⟨pe_call0 G (hr.mono hk) hg hm hkp hb .nil hx.p hdb, le_callA (da_nil (X := X) (F0 := F0)).le⟩
def fin (Q : DK) (d : D) (M1 : Mp) : Prop := ∃ M2, MLe M2 M1 ∧ Q d M2
def dstart (N : List Str) (ds : List D) : G := ds.map some ++ List.replicate (N.length - ds.length) none
theorem gr_start {F : FZ} {N : List Str} {ds : List D} {vs : List V} (r : RpL K F ds vs) : GR K F (dstart N ds) (L2.start N vs) := by
  have hl := r.length
  refine ⟨by simp [dstart, L2.start, hl], fun i d h => ?_⟩
  unfold dstart at h
  unfold L2.start
  by_cases hi : i < ds.length
  · rw [List.getElem?_append_left (by simpa using hi), List.getElem?_map] at h
    obtain ⟨d', h1, h2⟩ := Option.map_eq_some_iff.mp h
    cases h2
    obtain ⟨v, h3, h4⟩ := r.get h1
    exact ⟨v, by rw [List.getElem?_append_left (by simpa [← hl] using hi), List.getElem?_map, h3]; rfl, h4⟩
  · rw [List.getElem?_append_right (by simpa using hi)] at h
    rw [List.getElem?_replicate] at h
    split at h <;> cases h
/-- a def of the text as it stands behind the top -/
structure DFun (K : PySem.W.Frag) (mg : Str → Option Value) (x : Str) (st : Stmt) (ps : List Str) : Prop where
  ex : ∃ f fd, Fun K x x st f fd ∧ mg x = some (.ref f) ∧ Binds K fd ps []
theorem dok {x : Str} {st : Stmt} {N ps : List Str} {k : Nat} {sp : DSp} (F : DFun K mg x st ps) (S : FnScope N ps (defScope st)) (len : ∀ ds M Q E, sp ds M Q E → ds.length = ps.length)
    (hbody : ∀ (f : Addr) (cdv : Value) (A : Around) (outer : List Env) (s : Shared) (H : Hp) (E : XK) (F0 : FZ), Room k (A.deeper (envOfC x (defScope st) s.heap.objs.size f cdv)) →
      ∃ t t', DB (cxOf CX0 P w K mg base N x (defScope st) f cdv A outer s H E).nox F0 (defBody st) t t' ∧ ∀ ds M Q' E', sp ds M Q' E' → t' { nx := fun _ M1 => fin Q' .non M1, rt := fin Q' } (dstart N ds) M) : DCal P w K mg base CX0 (k + 1) x sp := by
  obtain ⟨f, fd, G, hm, hb⟩ := F.ex
  refine ⟨f, fd, ps, ?_, hm, G.kp, hb⟩
  refine G.ok S (fun vs H Q E h => ?_) (fun cdv A outer s H vs Q E hr h => ?_)
  · obtain ⟨F, ds, M, Q', E', _, r, q, _⟩ := h
    rw [← r.length]; exact len _ _ _ _ q
  · obtain ⟨F, ds, M, Q', E', s1, r, q, kq, _⟩ := h
    obtain ⟨t, t', d, h⟩ := hbody f cdv A outer s H E F hr
    refine ⟨t, d.ps, d.le F (dstart N ds) M (L2.start N vs) H { nx := fun _ M1 => fin Q' .non M1, rt := fin Q' } { nx := fun _ H' => Q .non H', rt := Q } (Bs.refl _) s1 (gr_start r) (h ds M Q' E' q) ⟨?_, ?_, fun _ _ _ _ _ _ _ _ z => z.elim, fun _ _ _ _ _ _ _ _ z => z.elim⟩⟩
    · rintro F1 γ1 M1 σ1 H1 e1 s1 g1 ⟨M2, l, q⟩
      exact kq F1 .non .non M2 H1 e1 (s1.less l) .non q
    · rintro F1 d1 v1 M1 H1 e1 s1 r1 ⟨M2, l, q⟩
      exact kq F1 d1 v1 M2 H1 e1 (s1.less l) r1 q
/-- .. one that may raise -/
theorem dokX {x : Str} {st : Stmt} {N ps : List Str} {k : Nat} {sp : DSp} (F : DFun K mg x st ps) (S : FnScope N ps (defScope st)) (len : ∀ ds M Q E, sp ds M Q E → ds.length = ps.length)
    (hbody : ∀ (f : Addr) (cdv : Value) (A : Around) (outer : List Env) (s : Shared) (H : Hp) (E : XK) (F0 : FZ) (E' : DXK), Room k (A.deeper (envOfC x (defScope st) s.heap.objs.size f cdv)) → (∀ c d H1, lX K F0 E' c d H1 → E c d H1) →
      ∃ t t', DB (cxOf (L2.CX P w) P w K mg base N x (defScope st) f cdv A outer s H E) F0 (defBody st) t t' ∧ ∀ ds M Q', sp ds M Q' E' → t' { nx := fun _ M1 => fin Q' .non M1, rt := fin Q' } (dstart N ds) M) : DCal P w K mg base (L2.CX P w) (k + 1) x sp := by
  obtain ⟨f, fd, G, hm, hb⟩ := F.ex
  refine ⟨f, fd, ps, ?_, hm, G.kp, hb⟩
  refine G.okX S (fun vs H Q E h => ?_) (fun cdv A outer s H vs Q E hr h => ?_)
  · obtain ⟨F, ds, M, Q', E', _, r, q, _⟩ := h
    rw [← r.length]; exact len _ _ _ _ q
  · obtain ⟨F, ds, M, Q', E', s1, r, q, kq, xq⟩ := h
    obtain ⟨t, t', d, h⟩ := hbody f cdv A outer s H E F E' hr xq
    refine ⟨t, d.ps, d.le F (dstart N ds) M (L2.start N vs) H { nx := fun _ M1 => fin Q' .non M1, rt := fin Q' } { nx := fun _ H' => Q .non H', rt := Q } (Bs.refl _) s1 (gr_start r) (h ds M Q' q) ⟨?_, ?_, fun _ _ _ _ _ _ _ _ z => z.elim, fun _ _ _ _ _ _ _ _ z => z.elim⟩⟩
    · rintro F1 γ1 M1 σ1 H1 e1 s1 g1 ⟨M2, l, q⟩
      exact kq F1 .non .non M2 H1 e1 (s1.less l) .non q
    · rintro F1 d1 v1 M1 H1 e1 s1 r1 ⟨M2, l, q⟩
      exact kq F1 d1 v1 M2 H1 e1 (s1.less l) r1 q
end

/-! ### list comprehensions -/
def dwipe (γ : G) : List Nat → G
  | [] => γ
  | v :: vs => (dwipe γ vs).set v none
/-- a target whose names are among those -/
def GW (vs : List Nat) (g : TG) : Prop := ∀ x σ H (Q : L2.St → Hp → Prop), g x σ H Q → g x σ H fun σ2 H2 => wipe σ2 vs = wipe σ vs ∧ Q σ2 H2
def GWs (vs : List Nat) (g : TGs) : Prop := ∀ xs σ H (Q : L2.St → Hp → Prop), g xs σ H Q → g xs σ H fun σ2 H2 => wipe σ2 vs = wipe σ vs ∧ Q σ2 H2
theorem wipe_set {i : Nat} {v : Option V} : ∀ {vs : List Nat} {σ : L2.St}, i ∈ vs → wipe (σ.set i v) vs = wipe σ vs
  | w :: vs, σ, h => by
    show (wipe (σ.set i v) vs).set w none = (wipe σ vs).set w none
    by_cases hi : i ∈ vs
    · rw [wipe_set hi]
    · have e : i = w := by
        rcases List.mem_cons.mp h with e | h
        · exact e
        · exact absurd h hi
      subst e
      have out : ∀ {us : List Nat} {σ : L2.St}, ¬ i ∈ us → wipe (σ.set i v) us = (wipe σ us).set i v := by
        intro us
        induction us with
        | nil => intro σ _; rfl
        | cons u us ih =>
          intro σ hu
          show (wipe (σ.set i v) us).set u none = ((wipe σ us).set u none).set i v
          rw [ih (fun z => hu (List.mem_cons_of_mem _ z)), List.set_comm _ _ (fun z => hu (by rw [z]; exact List.mem_cons_self))]
      rw [out hi, List.set_set]
theorem gw_name {vs : List Nat} {i : Nat} (h : i ∈ vs) : GW vs (gName i) := fun x σ H Q q => ⟨wipe_set h, q⟩
theorem gws_nil {vs : List Nat} : GWs vs gNil := fun xs σ H Q q => ⟨q.1, rfl, q.2⟩
theorem gws_cons {vs : List Nat} {t : TG} {u : TGs} (mt : ∀ x σ H (Q Q' : L2.St → Hp → Prop), (∀ σ H, Q σ H → Q' σ H) → t x σ H Q → t x σ H Q') (mu : ∀ x σ H (Q Q' : L2.St → Hp → Prop), (∀ σ H, Q σ H → Q' σ H) → u x σ H Q → u x σ H Q') (h1 : GW vs t) (h2 : GWs vs u) : GWs vs (gCons t u) := fun xs σ H Q q => by
  obtain ⟨v, r, e, q⟩ := q
  refine ⟨v, r, e, mt _ _ _ _ _ (fun σ2 H2 q2 => ?_) (h1 _ _ _ _ q)⟩
  exact mu _ _ _ _ _ (fun σ3 H3 q3 => ⟨q3.1.trans q2.1, q3.2⟩) (h2 _ _ _ _ q2.2)
theorem gm_name {i : Nat} : ∀ x σ H (Q Q' : L2.St → Hp → Prop), (∀ σ H, Q σ H → Q' σ H) → gName i x σ H Q → gName i x σ H Q' := fun x σ H Q Q' f q => f _ _ q
theorem gm_nil : ∀ x σ H (Q Q' : L2.St → Hp → Prop), (∀ σ H, Q σ H → Q' σ H) → gNil x σ H Q → gNil x σ H Q' := fun x σ H Q Q' f q => ⟨q.1, f _ _ q.2⟩
theorem gm_cons {t : TG} {u : TGs} (mt : ∀ x σ H (Q Q' : L2.St → Hp → Prop), (∀ σ H, Q σ H → Q' σ H) → t x σ H Q → t x σ H Q') (mu : ∀ x σ H (Q Q' : L2.St → Hp → Prop), (∀ σ H, Q σ H → Q' σ H) → u x σ H Q → u x σ H Q') :
    ∀ x σ H (Q Q' : L2.St → Hp → Prop), (∀ σ H, Q σ H → Q' σ H) → gCons t u x σ H Q → gCons t u x σ H Q' := fun x σ H Q Q' f ⟨v, r, e, q⟩ => ⟨v, r, e, mt _ _ _ _ _ (fun σ2 H2 q2 => mu _ _ _ _ _ f q2) q⟩
theorem gw_tup {K : PySem.W.Frag} {vs : List Nat} {n : Nat} {u : TGs} (h : GWs vs u) : GW vs (gTup K n u) := fun x σ H Q ⟨a, xs, e, ha, hl, q⟩ => ⟨a, xs, e, ha, hl, h _ _ _ _ q⟩
theorem gm_tup {K : PySem.W.Frag} {n : Nat} {u : TGs} (mu : ∀ x σ H (Q Q' : L2.St → Hp → Prop), (∀ σ H, Q σ H → Q' σ H) → u x σ H Q → u x σ H Q') :
    ∀ x σ H (Q Q' : L2.St → Hp → Prop), (∀ σ H, Q σ H → Q' σ H) → gTup K n u x σ H Q → gTup K n u x σ H Q' := fun x σ H Q Q' f ⟨a, xs, e, ha, hl, q⟩ => ⟨a, xs, e, ha, hl, mu _ _ _ _ _ f q⟩
theorem gr_wipe {K : PySem.W.Frag} {F : FZ} {γ : G} {σ : L2.St} (h : GR K F γ σ) : ∀ vs : List Nat, GR K F (dwipe γ vs) (wipe σ vs)
  | [] => h
  | v :: vs => by
    have ih := gr_wipe h vs
    refine ⟨by simp [dwipe, wipe, ih.len], fun i d q => ?_⟩
    have q' : ((dwipe γ vs).set v none)[i]? = some (some d) := q
    show ∃ w, ((wipe σ vs).set v none)[i]? = some (some w) ∧ Rp K F d w
    by_cases hj : v = i
    · subst hj
      by_cases hl : v < (dwipe γ vs).length
      · rw [List.getElem?_set_self hl] at q'; cases q'
      · rw [List.getElem?_eq_none (by simpa using hl)] at q'; cases q'
    · rw [List.getElem?_set_ne hj] at q' ⊢
      exact ih.at' i d q'
structure DTs (X : Cx) (F0 : FZ) (ifs : List Expr) (t : TT) (t' : DTT) : Prop where
  pt : PTs X ifs t
  le : LT X.K F0 t' t
def dYes : DTT := fun _ M Q => Q true M
section
variable {X : Cx} {K : PySem.W.Frag} {F0 : FZ}
theorem dts_nil : DTs X F0 [] tYes dYes := ⟨pts_nil, fun F γ M σ H Q' Q e0 s g q k => k F true M H (FLe.refl F) s q⟩
theorem dts_one {c : Expr} {t : TT} {t' : DTT} (h : DT X F0 c t t') : DTs X F0 [c] t t' := ⟨pts_one h.pt, h.le⟩
def dLcI (g : DTG) (tt : DTT) (te : DTE) (vs : List Nat) (γ : G) (items : List D) (M1 : Mp) (Q : DK) : Prop := ∃ I : Nat → List D → Mp → Prop, I 0 [] M1 ∧
  (∀ i d acc M, items[i]? = some d → I i acc M → g d (dwipe γ vs) M fun γ2 M2 => tt γ2 M2 fun b M3 => if b = true then te γ2 M3 fun y M4 => I (i + 1) (acc ++ [y]) M4 else I (i + 1) acc M3) ∧
  ∀ acc M, I items.length acc M → Q (.lst acc) M
def dLc (wi : DTI) (g : DTG) (tt : DTT) (te : DTE) (vs : List Nat) : DTE := fun γ M Q => wi γ M fun items M1 => items.length ≤ sizeLine ∧ dLcI g tt te vs γ items M1 Q
theorem wipe_wipe (σ : L2.St) (vs : List Nat) : wipe (wipe σ vs) vs = wipe σ vs := by
  have key : ∀ us : List Nat, (∀ i ∈ us, i ∈ vs) → wipe (wipe σ us) vs = wipe σ vs := by
    intro us
    induction us with
    | nil => intro _; rfl
    | cons u us ih =>
      intro h
      show wipe ((wipe σ us).set u none) vs = wipe σ vs
      rw [wipe_set (h u List.mem_cons_self), ih fun i hi => h i (List.mem_cons_of_mem _ hi)]
  exact key vs fun _ h => h
def LcW (K : PySem.W.Frag) (F1 : FZ) (L : Addr) (I : Nat → List D → Mp → Prop) (i : Nat) (H : Hp) : Prop := ∃ F2 M2 acc xs, FLe F1 F2 ∧ SR K F2 M2 H ∧ F2.f L = none ∧ M2 L = none ∧ H L = some (.lst xs) ∧ RpL K F2 acc xs ∧ acc.length ≤ i ∧ I i acc M2
theorem le_lc {wi : TI} {wi' : DTI} {g : TG} {g' : DTG} {tt : TT} {tt' : DTT} {te : TE} {te' : DTE} {vs : List Nat} (hi : LI K F0 wi' wi) (hg : LG K F0 g' g) (hw : GW vs g) (ht : LT K F0 tt' tt) (he : LE K F0 te' te) :
    LE K F0 (dLc wi' g' tt' te' vs) (tLc wi g tt te vs) := by
  intro F γ M σ H Q' Q e0 s gr q k
  refine hi F γ M σ H _ _ e0 s gr q fun F1 items J M1 H1 e1 s1 j1 q1 => ?_
  obtain ⟨hlen, I, h0, step, done⟩ := q1
  intro D hD
  have hDF := s1.freeF hD
  have hDM := s1.freeM hD
  have hDP := s1.freeP hD
  refine ⟨fun i m H => m = items.length - i ∧ i ≤ items.length ∧ LcW K F1 D I i H, ⟨items.length, by simp, Nat.zero_le _, ?_⟩, ?_⟩
  · refine ⟨F1, M1, [], [], FLe.refl _, s1.other hD, hDF, hDM, upd_same, .nil, Nat.le_refl _, h0⟩
  · rintro i m H2 ⟨rfl, hi2, F2, M2, acc, xs, e2, s2, dF, dM, hl, rl, al, i2⟩
    have dP : F2.p D = none := by rw [e2.e]; exact hDP
    by_cases hlt : i < items.length
    · have hd : items[i]? = some items[i] := List.getElem?_eq_getElem hlt
      have sh := s2.hide dF dM hl (fun _ z => by cases z) (s2.noL hl)
      obtain ⟨go, y⟩ := (j1 i (F2.hide D (.lst xs)) M2 H2 (bj_hide e2 hDP) sh).2 _ hd
      refine .inr ⟨go, LcW K F1 D I (i + 1), fun H' h => ⟨items.length - (i + 1), by omega, rfl, hlt, h⟩, fun x H3 yy => ?_⟩
      obtain ⟨F3, e3, s3, r3⟩ := y x H3 yy
      have b3 : Sm F2 F3 := e3.s
      have a3 : Bs F0 F3 := ⟨((e0.tr e1).tr e2).f.trans' b3, ((e0.tr e1).tr e2).p.trans (fun b o h => by rw [e3.e]; exact (upd_ne (ne_of_none h dP)).trans h)⟩
      have back : ∀ {F5 : FZ} {M5 : Mp} {H5 : Hp} (o : HO), FLe F3 F5 → SR K F5 M5 H5 → SR K ⟨F5.f, F2.p, F5.d⟩ M5 (upd H5 D o) ∧ H5 D = some (.lst xs) ∧ F5.f D = none ∧ M5 D = none := fun o e5 s5 =>
        s5.unhide (o := .lst xs) (by rw [e5.e, e3.e]; rfl) dP
      have step' := step i _ acc M2 hd i2
      have r0 : RpL K F3 acc xs := rl.monoS b3
      have lt1 : xs.length < sizeLine := by rw [← r0.length]; omega
      have main := hw x (wipe σ vs) H3 _ (hg F3 (dwipe γ vs) M2 (wipe σ vs) H3 _ x _ (fun σ2 H2 => tt σ2 H2 fun b H3 => if b = true then te σ2 H3 fun y H4 => ∃ acc, H4 D = some (.lst acc) ∧ acc.length < sizeLine ∧ LcW K F1 D I (i + 1) (upd H4 D (.lst (acc ++ [y]))) else LcW K F1 D I (i + 1) H3)
        a3 s3 (gr_wipe (gr.monoS ((e1.s.trans' e2.s).trans' b3)) vs) r3 step' fun F4 γ4 M4 σ4 H4 e4 s4 g4 q4 =>
        ht F4 γ4 M4 σ4 H4 _ _ (a3.tr e4) s4 g4 q4 fun F5 b M5 H5 e5 s5 q5 => by
          cases b with
          | false =>
            obtain ⟨z1, z2, z3, z4⟩ := back (.lst xs) (e4.trans e5) s5
            have eq : upd H5 D (.lst xs) = H5 := by
              funext b
              by_cases hb : b = D
              · subst hb; rw [upd_same, z2]
              · rw [upd_ne hb]
            rw [eq] at z1
            exact ⟨⟨F5.f, F2.p, F5.d⟩, M5, acc, xs, ⟨(e2.s.trans' b3).trans' (e4.trans e5).s, e2.e⟩, z1, z3, z4, z2, RpL.monoS (F := F3) (F' := ⟨F5.f, F2.p, F5.d⟩) (e4.trans e5).s r0, Nat.le_succ_of_le al, q5⟩
          | true =>
            refine he F5 γ4 M5 σ4 H5 _ _ ((a3.tr e4).tr e5) s5 (g4.mono e5) q5 fun F6 d v M6 H6 e6 s6 r6 q6 => ?_
            obtain ⟨z1, z2, z3, z4⟩ := back (.lst (xs ++ [v])) ((e4.trans e5).trans e6) s6
            refine ⟨xs, z2, lt1, ⟨F6.f, F2.p, F6.d⟩, M6, acc ++ [d], xs ++ [v], ⟨(e2.s.trans' b3).trans' ((e4.trans e5).trans e6).s, e2.e⟩, z1, z3, z4, upd_same, RpL.append (RpL.monoS (F := F3) (F' := ⟨F6.f, F2.p, F6.d⟩) ((e4.trans e5).trans e6).s r0) (.cons (Rp.monoS (F := F6) (F' := ⟨F6.f, F2.p, F6.d⟩) Sm.rfl' r6) .nil), ?_, q6⟩
            rw [List.length_append]
            simp
            omega)
      rw [wipe_wipe] at main
      exact main
    · have e : i = items.length := by omega
      subst e
      refine .inl ⟨((j1 items.length F2 M2 H2 e2.bj s2).1 (Nat.le_refl _)), ?_⟩
      have hz : xs.length ≤ sizeLine := by rw [← rl.length]; omega
      have e3 := same_upd (o := .lst xs) dF
      exact k (F2.put D (.lst xs)) (.lst acc) (.ref D) M2 H2 ((e1.trans e2).trans e3) (s2.adopt dF dP dM hl hz) (.lst upd_same (rl.mono e3)) (done acc M2 i2)
theorem de_lc {elt tg iter : Expr} {ifs : List Expr} {scope : Scope} {own : List (Str × Nat)} {pos : Pos} {wi : TI} {wi' : DTI} {g : TG} {g' : DTG} {tt : TT} {tt' : DTT} {te : TE} {te' : DTE} (hc : X.calm = true) (hN : X.N.Nodup) (hi : DI X F0 tg iter wi wi') (ok : BlkOk X.N X.env.scope scope own) (hw : GW (own.map (·.2)) g)
    (hg : ∀ (s : Shared) (H : Hp) (C : Addr) (cl : List (Str × Addr)) (fp : List Addr), DG (X.blk s H scope (compEnvC scope cl C X.env) fp) F0 tg g g') (ht : ∀ (s : Shared) (H : Hp) (C : Addr) (cl : List (Str × Addr)) (fp : List Addr), DTs (X.blk s H scope (compEnvC scope cl C X.env) fp) F0 ifs tt tt')
    (he : ∀ (s : Shared) (H : Hp) (C : Addr) (cl : List (Str × Addr)) (fp : List Addr), DE (X.blk s H scope (compEnvC scope cl C X.env) fp) F0 elt te te') (hs : ∀ x, foldedSetIterable iter X.env x = pure x := by intro _; rfl) (s0 : Shared) :
    DE X F0 (.ListComp elt [⟨tg, iter, ifs, 0⟩] scope pos) (tLc wi g tt te (own.map (·.2))) (dLc wi' g' tt' te' (own.map (·.2))) :=
  ⟨pe_lc hc hN hi.pi ok (fun s H C cl fp => (hg s H C cl fp).pg) (fun s H C cl fp => (ht s H C cl fp).pt) (fun s H C cl fp => (he s H C cl fp).pe) hs,
    le_lc hi.le (hg s0 (fun _ => none) 0 [] []).le hw (ht s0 (fun _ => none) 0 [] []).le (he s0 (fun _ => none) 0 [] []).le⟩
end
end DL

set_option maxRecDepth 100000
set_option maxHeartbeats 2000000
namespace DL
open PySem PySem.Spec PyProof.Rows L2

section
variable {X : Cx} {K : PySem.W.Frag} {F0 : FZ} {tg e e2 : Expr} {te : TE} {te' : DTE} {pos p : Pos}
theorem jr_of {F : FZ} {items : List D} {J : It} {G : Hp → Prop} {Y : Nat → Hp → V → Hp → Prop} (w : Walk J items.length G Y) (hg : ∀ F1 M1 H1, Bj F F1 → SR K F1 M1 H1 → G H1)
    (hst : ∀ i H, items.length ≤ i → G H → J.stop i H)
    (hy : ∀ i d F1 M1 H1 x H2, Bj F F1 → SR K F1 M1 H1 → items[i]? = some d → Y i H1 x H2 → ∃ F2, FLe F1 F2 ∧ SR K F2 M1 H2 ∧ Rp K F2 d x) : JR K F items J := fun i F1 M1 H1 e s =>
  ⟨fun h => hst i H1 h (hg F1 M1 H1 e s), fun d hd =>
    have hlt : i < items.length := (List.getElem?_eq_some_iff.mp hd).1
    ⟨w.goes i H1 hlt (hg F1 M1 H1 e s), fun x H2 y => hy i d F1 M1 H1 x H2 e s hd (w.yields i H1 x H2 hlt (hg F1 M1 H1 e s) y)⟩⟩
theorem jr_list {F : FZ} {a : Addr} {xs : List V} {ds : List D} (h : SqL K F.f a xs) (r : RpL K F ds xs) : JR K F ds (Itl K a) := by
  have hl := r.length
  refine jr_of (G := fun H => SqL K H a xs) (Y := YAt xs) (by rw [hl]; exact walk_list) (fun F1 M1 H1 e s => s.fz.seq (e.f.1.seq h)) (fun i H hi q => ⟨xs, q, by omega⟩) fun i d F1 M1 H1 x H2 e s hd y => ?_
  obtain ⟨e2, hx⟩ := y
  subst e2
  obtain ⟨v, h1, h2⟩ := r.get hd
  rw [hx] at h1; cases h1
  exact ⟨F1, FLe.refl _, s, Rp.monoS e.f h2⟩
theorem jr_tup {F : FZ} {a : Addr} {xs : List V} {ds : List D} (h : ∀ H, Same F.f H → SqT K H a xs) (r : RpL K F ds xs) : JR K F ds (Itt K a) := by
  have hl := r.length
  refine jr_of (G := fun H => SqT K H a xs) (Y := YAt xs) (by rw [hl]; exact walk_tup) (fun F1 M1 H1 e s => h _ (e.f.1.trans s.fz)) (fun i H hi q => ⟨xs, q, by omega⟩) fun i d F1 M1 H1 x H2 e s hd y => ?_
  obtain ⟨e2, hx⟩ := y
  subst e2
  obtain ⟨v, h1, h2⟩ := r.get hd
  rw [hx] at h1; cases h1
  exact ⟨F1, FLe.refl _, s, Rp.monoS e.f h2⟩
/-- a frozen list, a tuple, a text -/
def iSeq (K : PySem.W.Frag) (tl : TE) : TI := fun σ H R => tl σ H fun x H1 => (∃ a, x = .ref a ∧ (∃ xs, SqL K H1 a xs) ∧ R (Itl K a) H1) ∨ (∃ a, x = .ref a ∧ (∃ xs, SqT K H1 a xs) ∧ R (Itt K a) H1)
theorem pi_seq {l : Expr} {tl : TE} (hl : PE X l tl) : PI X tg l (iSeq X.K tl) := by
  refine ⟨fun pins s σ H R I h => ?_⟩
  refine thn (hl.run pins s σ H _ I h) fun v s1 ⟨x, H1, I1, r1, q1⟩ => ?_
  rcases q1 with ⟨a, e, ⟨xs, hq⟩, q⟩ | ⟨a, e, ⟨xs, hq⟩, q⟩
  · subst e
    cases r1
    obtain ⟨its, rv, p, hz⟩ := I1.list hq
    refine wpAny_pyIter_list p.isList ?_
    refine ⟨s1.heap.objs.size, [s1.heap.objs.size], _, _, H1, rfl, I1.kept (t' := s1.toks) fun b o e => Heap.get?_push_of_some _ e, turn_list a _, ⟨_, Heap.get?_push_size _ rfl, rfl, rfl⟩, fun b hb => ?_, q⟩
    have e : b = s1.heap.objs.size := by simpa using hb
    subst e
    exact I1.fpOk (Nat.le_refl _) (I1.hok.fresh (Nat.le_refl _))
  · subst e
    cases r1
    obtain ⟨its, rv, p, hz⟩ := I1.tuple hq
    refine wpAny_pyIter_tuple (show s1.heap.IsTuple a its.toArray from p) ?_
    refine ⟨s1.heap.objs.size, [s1.heap.objs.size], _, _, H1, rfl, I1.kept (t' := s1.toks) fun b o e => Heap.get?_push_of_some _ e, turn_tuple a _, ⟨_, Heap.get?_push_size _ rfl, rfl, rfl⟩, fun b hb => ?_, q⟩
    have e : b = s1.heap.objs.size := by simpa using hb
    subst e
    exact I1.fpOk (Nat.le_refl _) (I1.hok.fresh (Nat.le_refl _))
def jSeq (te : DTE) : DTI := fun γ M R => te γ M fun d M1 => match d with
  | .lst l => R l M1
  | .tup l => R l M1
  | .kt l => R l M1
  | _ => False
theorem di_seq (h : DE X F0 e te te') : DI X F0 tg e (iSeq X.K te) (jSeq te') := ⟨pi_seq h.pe, fun F γ M σ H R' R e0 s g q k => by
  refine h.le F γ M σ H _ _ e0 s g q fun F1 d v M1 H1 e1 s1 r1 q1 => ?_
  cases r1 with
  | lst a b => exact .inl ⟨_, rfl, ⟨_, (SqL.of (s1.fz _ _ a))⟩, k F1 _ _ M1 H1 e1 s1 (jr_list (SqL.of a) b) q1⟩
  | tup a b => exact .inr ⟨_, rfl, ⟨_, s1.sqT a⟩, k F1 _ _ M1 H1 e1 s1 (jr_tup (fun H e => .inl (.inl (e _ _ a))) b) q1⟩
  | kt a b => exact .inr ⟨_, rfl, ⟨_, a.sqT⟩, k F1 _ _ M1 H1 e1 s1 (jr_tup (fun H e => a.sqT) b) q1⟩
  | _ => exact False.elim q1⟩
/-- lo, lo + 1, .. -/
def rgD (lo : Int) (n : Nat) : List D := (List.range n).map fun i => .int (lo + (i : Nat))
theorem rgD_len {lo : Int} {n : Nat} : (rgD lo n).length = n := by simp [rgD]
theorem rgD_get {lo : Int} {n i : Nat} {d : D} (h : (rgD lo n)[i]? = some d) : i < n ∧ d = .int (lo + (i : Nat)) := by
  unfold rgD at h
  rw [List.getElem?_map] at h
  obtain ⟨j, h1, h2⟩ := Option.map_eq_some_iff.mp h
  have h3 := List.getElem?_eq_some_iff.mp h1
  obtain ⟨h4, h5⟩ := h3
  simp at h4 h5
  subst h5
  exact ⟨h4, h2.symm⟩
theorem jr_range {F : FZ} {lo : Int} {n : Nat} : JR K F (rgD lo n) (Itr lo n) := by
  refine jr_of (G := fun _ => True) (Y := YFn fun i => .int (lo + i)) (by rw [rgD_len]; exact walk_range) (fun _ _ _ _ _ => trivial) (fun i H hi _ => by rw [rgD_len] at hi; exact hi) fun i d F1 M1 H1 x H2 e s hd y => ?_
  obtain ⟨e2, hx⟩ := y
  subst e2 hx
  obtain ⟨_, e3⟩ := rgD_get hd
  subst e3
  exact ⟨F1, FLe.refl _, s, .int _⟩
def jRng1 (ta : DTA) : DTI := fun γ M R => ta γ M fun ds M1 => match ds with
  | [.int j] => (-(2 ^ 62) ≤ j ∧ j < 2 ^ 62) ∧ R (rgD 0 j.toNat) M1
  | _ => False
def jRng2 (ta : DTA) : DTI := fun γ M R => ta γ M fun ds M1 => match ds with
  | [.int i, .int j] => (-(2 ^ 62) ≤ i ∧ i < 2 ^ 62 ∧ -(2 ^ 62) ≤ j ∧ j < 2 ^ 62) ∧ R (rgD i (j - i).toNat) M1
  | _ => False
theorem di_range1 {a : Expr} {ta : TA} {ta' : DTA} (hm : X.mg "range" = none) (ha : DA X F0 [a] ta ta') (hg : Gl X "range" := by rfl) (hs : starEach [a] X.env = [(false, eval a X.env)] := by rfl) : DI X F0 tg (.Call (.Name "range" p) [a] [] pos) (iRng1 ta) (jRng1 ta') := ⟨pi_range1 hg hm ha.pa hs, fun F γ M σ H R' R e0 s g q k => by
  refine ha.le F γ M σ H _ _ e0 s g q fun F1 ds vs M1 H1 e1 s1 r1 q1 => ?_
  split at q1
  · cases r1 with
    | cons r1 r2 =>
      cases r2
      cases r1
      exact ⟨_, rfl, q1.1.1, q1.1.2, k F1 _ _ M1 H1 e1 s1 jr_range q1.2⟩
  · exact q1.elim⟩
theorem di_range2 {a b : Expr} {ta : TA} {ta' : DTA} (hm : X.mg "range" = none) (ha : DA X F0 [a, b] ta ta') (hg : Gl X "range" := by rfl) (hs : starEach [a, b] X.env = [(false, eval a X.env), (false, eval b X.env)] := by rfl) (hs2 : starEach [b] X.env = [(false, eval b X.env)] := by rfl) :
    DI X F0 tg (.Call (.Name "range" p) [a, b] [] pos) (iRng2 ta) (jRng2 ta') := ⟨pi_range2 hg hm ha.pa hs hs2, fun F γ M σ H R' R e0 s g q k => by
  refine ha.le F γ M σ H _ _ e0 s g q fun F1 ds vs M1 H1 e1 s1 r1 q1 => ?_
  split at q1
  · cases r1 with
    | cons r1 r2 =>
      cases r2 with
      | cons r2 r3 =>
        cases r3
        cases r1
        cases r2
        exact ⟨_, _, rfl, q1.1, k F1 _ _ M1 H1 e1 s1 jr_range q1.2⟩
  · exact q1.elim⟩
/-- a text, sign by sign -/
def signsD (z : Str) : List D := z.cps.toList.map fun c => .str ⟨#[c]⟩
def jStr (te : DTE) : DTI := fun γ M R => te γ M fun d M1 => match d with
  | .str z => R (signsD z) M1
  | _ => False
theorem di_str (h : DE X F0 e te te') : DI X F0 tg e (iStr te) (jStr te') := ⟨pi_str h.pe, fun F γ M σ H R' R e0 s g q k => by
  refine h.le F γ M σ H _ _ e0 s g q fun F1 d v M1 H1 e1 s1 r1 q1 => ?_
  cases r1 with
  | str z =>
    have hl : (signsD z).length = z.cps.size := by simp [signsD]
    refine ⟨z, rfl, k F1 _ _ M1 H1 e1 s1 ?_ q1⟩
    refine jr_of (G := fun _ => True) (by rw [hl]; exact walk_str) (fun _ _ _ _ _ => trivial) (fun i H hi _ => by rw [hl] at hi; exact hi) fun i d F1 M1 H1 x H2 e s hd y => ?_
    obtain ⟨e2, c, hc, hx⟩ := y
    subst e2 hx
    unfold signsD at hd
    rw [List.getElem?_map] at hd
    obtain ⟨j, h1, h2⟩ := Option.map_eq_some_iff.mp hd
    have : c = j := by
      rw [Array.getElem?_toList] at h1
      rw [hc] at h1
      exact Option.some.inj h1
    subst this h2
    exact ⟨F1, FLe.refl _, s, .str _⟩
  | _ => exact False.elim q1⟩
/-- zip of two -/
def zipD (l m : List D) : List D := (l.zip m).map fun q => .tup [q.1, q.2]
def seqOf : D → Option (Bool × List D)
  | .lst l => some (false, l)
  | .tup l => some (true, l)
  | .kt l => some (true, l)
  | _ => none
def jZip (ta : DTA) : DTI := fun γ M R => ta γ M fun ds M1 => match ds with
  | [a, b] => (match seqOf a, seqOf b with
    | some (u, l), some (v, m) => u = v ∧ R (zipD l m) M1
    | _, _ => False)
  | _ => False
theorem zip_new {F1 : FZ} {M1 : Mp} {H1 H2 : Hp} {x : V} {l m : List D} {xs ys : List V} {i : Nat} {d : D} (s : SR K F1 M1 H1) (rl : RpL K F1 l xs) (rm : RpL K F1 m ys) (hd : (zipD l m)[i]? = some d) (y : YPair (fun i => xs[i]?) (fun i => ys[i]?) i H1 x H2) : ∃ F2, FLe F1 F2 ∧ SR K F2 M1 H2 ∧ Rp K F2 d x := by
  obtain ⟨T, u, w, rfl, hT, rfl, h1, h2⟩ := y
  unfold zipD at hd
  rw [List.getElem?_map] at hd
  obtain ⟨q, hq, e⟩ := Option.map_eq_some_iff.mp hd
  subst e
  obtain ⟨hq1, hq2⟩ := List.getElem?_zip_eq_some.mp hq
  obtain ⟨u', a1, a2⟩ := rl.get hq1
  obtain ⟨w', b1, b2⟩ := rm.get hq2
  simp only at h1 h2
  rw [h1] at a1; cases a1
  rw [h2] at b1; cases b1
  have e := same_upd (o := .tup [u, w]) (s.freeF hT)
  exact ⟨_, e, s.newF hT (show 2 ≤ sizeLine by decide), .tup upd_same (.cons (a2.mono e) (.cons (b2.mono e) .nil))⟩
theorem zipD_len {l m : List D} : (zipD l m).length = min l.length m.length := by simp [zipD]
theorem seqOf_l {F : FZ} {d : D} {v : V} {l : List D} (r : Rp K F d v) (h : seqOf d = some (false, l)) : ∃ a xs, v = .ref a ∧ SqL K F.f a xs ∧ RpL K F l xs := by
  cases r <;> simp [seqOf] at h
  subst h
  exact ⟨_, _, rfl, SqL.of (by assumption), by assumption⟩
theorem seqOf_t {F : FZ} {d : D} {v : V} {l : List D} (r : Rp K F d v) (h : seqOf d = some (true, l)) : ∃ a xs, v = .ref a ∧ (∀ H, Same F.f H → SqT K H a xs) ∧ RpL K F l xs := by
  cases r with
  | tup a b => simp [seqOf] at h; subst h; exact ⟨_, _, rfl, fun H e => .inl (.inl (e _ _ a)), b⟩
  | kt a b => simp [seqOf] at h; subst h; exact ⟨_, _, rfl, fun H e => a.sqT, b⟩
  | _ => simp [seqOf] at h
theorem walk_zipT {a b : Addr} {xs ys : List V} {n : Nat} (hn : n = min xs.length ys.length) : Walk (RZ.ItzT K a b) n (fun H => SqT K H a xs ∧ SqT K H b ys) (YPair (fun i => xs[i]?) (fun i => ys[i]?)) := by
  subst hn
  refine ⟨fun i _ hi q => ?_, fun _ q => ⟨xs, ys, q.1, q.2, by omega⟩, fun i H v H' _ q y => ?_⟩
  · have h1 : i < xs.length := by omega
    have h2 : i < ys.length := by omega
    exact ⟨xs, ys, xs[i], ys[i], q.1, q.2, by simp [h1], by simp [h2]⟩
  · obtain ⟨T, x, z, h1, h2, h3, h4, h5⟩ := y
    exact ⟨T, x, z, h1, h2, h3, h4 xs q.1, h5 ys q.2⟩
theorem di_zip {ta : TA} {ta' : DTA} {tpos : Pos} {elts : List Expr} {kk : Nat} (hm : X.mg "zip" = none) (ha : DA X F0 [e, e2] ta ta') (hg : Gl X "zip" := by rfl)
    (hs : starEach [e, e2] X.env = (false, eval e X.env) :: starEach [e2] X.env := by rfl) (hpl : (backTo pos (starEach [e2] X.env)).any (·.1) = false := by rfl) :
    DI X F0 (.Tuple elts kk tpos) (.Call (.Name "zip" p) [e, e2] [] pos) (RZ.iZipA X.K ta) (jZip ta') := ⟨RZ.pi_zipA hg hm ha.pa hs hpl, fun F γ M σ H R' R e0 s g q k => by
  refine ha.le F γ M σ H _ _ e0 s g q fun F1 ds vs M1 H1 e1 s1 r1 q1 => ?_
  split at q1
  · rename_i a b
    split at q1
    · rename_i u l v m h1 h2
      obtain ⟨huv, q1⟩ := q1
      subst huv
      cases r1 with
      | cons r1 r2 =>
        cases r2 with
        | cons r2 r3 =>
          cases r3
          cases u with
          | false =>
            obtain ⟨p1, xs, rfl, a1, a2⟩ := seqOf_l r1 h1
            obtain ⟨p2, ys, rfl, b1, b2⟩ := seqOf_l r2 h2
            have hl := a2.length
            have hm := b2.length
            refine ⟨p1, p2, xs, ys, rfl, .inl ⟨s1.fz.seq a1, s1.fz.seq b1, k F1 _ _ M1 H1 e1 s1 ?_ q1⟩⟩
            refine jr_of (G := fun H => SqL X.K H p1 xs ∧ SqL X.K H p2 ys) (walk_zip (by rw [zipD_len]; omega)) (fun F1 M1 H1 e s => ⟨s.fz.seq (e.f.1.seq a1), s.fz.seq (e.f.1.seq b1)⟩) (fun i H hi q => ⟨xs, ys, q.1, q.2, by rw [zipD_len] at hi; omega⟩) fun i d F2 M2 H2 x H3 e s hd y => zip_new s (RpL.monoS e.f a2) (RpL.monoS e.f b2) hd y
          | true =>
            obtain ⟨p1, xs, rfl, a1, a2⟩ := seqOf_t r1 h1
            obtain ⟨p2, ys, rfl, b1, b2⟩ := seqOf_t r2 h2
            have hl := a2.length
            have hm := b2.length
            refine ⟨p1, p2, xs, ys, rfl, .inr ⟨a1 _ s1.fz, b1 _ s1.fz, k F1 _ _ M1 H1 e1 s1 ?_ q1⟩⟩
            refine jr_of (G := fun H => SqT X.K H p1 xs ∧ SqT X.K H p2 ys) (walk_zipT (by rw [zipD_len]; omega)) (fun F1 M1 H1 e s => ⟨a1 _ (e.f.1.trans s.fz), b1 _ (e.f.1.trans s.fz)⟩) (fun i H hi q => ⟨xs, ys, q.1, q.2, by rw [zipD_len] at hi; omega⟩) fun i d F2 M2 H2 x H3 e s hd y => zip_new s (RpL.monoS e.f a2) (RpL.monoS e.f b2) hd y
    · exact q1.elim
  · exact q1.elim⟩
end
end DL

set_option maxRecDepth 100000
set_option maxHeartbeats 2000000
namespace DL
open PySem PySem.Spec PyProof.Rows L2

/-! ### built-in functions -/
abbrev DRC := List D → Mp → DK → Prop
def LC (K : PySem.W.Frag) (F0 : FZ) (r' : DRC) (r : List V → Hp → VK → Prop) : Prop := ∀ (F : FZ) (M : Mp) (H : Hp) (ds : List D) (vs : List V) (Q' : DK) (Q : VK), Bs F0 F → SR K F M H → RpL K F ds vs → r' ds M Q' →
  (∀ F1 d v M1 H1, FLe F F1 → SR K F1 M1 H1 → Rp K F1 d v → Q' d M1 → Q v H1) → r vs H Q
def dCB (r : DRC) (t : DTA) : DTE := fun γ M Q => t γ M fun ds M1 => r ds M1 Q
section
variable {X : Cx} {K : PySem.W.Frag} {F0 : FZ} {e : Expr} {es : List Expr} {t : TA} {t' : DTA} {p pos : Pos} {r : List V → Hp → VK → Prop} {r' : DRC}
theorem le_cb (hl : LC K F0 r' r) (ha : LA K F0 t' t) : LE K F0 (dCB r' t') (tCB r t) := fun F γ M σ H Q' Q e0 s g q k =>
  ha F γ M σ H _ _ e0 s g q fun F1 ds vs M1 H1 e1 s1 r1 q1 => hl F1 M1 H1 ds vs _ _ (e0.tr e1) s1 r1 q1 fun F2 d v M2 H2 e2 s2 r2 q2 => k F2 d v M2 H2 (e1.trans e2) s2 r2 q2
theorem de_blt {x : Str} {id : String} (hc : CallR X (.builtin id) r) (hl : LC X.K F0 r' r) (hm : X.mg x = none) (ha : DA X F0 (e :: es) t t') (hv : bootBuiltins x = some (.builtin id) := by decide +kernel) (hg : Gl X x := by rfl) (hn : x ≠ "__name__" := by decide) (hdb : (x == ("__debug__" : Str)) = false := by decide)
    (he : starEach (e :: es) X.env = (false, eval e X.env) :: starEach es X.env := by rfl) (hpl : (backTo pos (starEach es X.env)).any (·.1) = false := by rfl) : DE X F0 (.Call (.Name x p) (e :: es) [] pos) (tCB r t) (dCB r' t') :=
  ⟨pe_callB hc hg hm hv ha.pa hn hdb he hpl, le_cb hl ha.le⟩
theorem de_bty {x : Str} {T : String} (hc : CallR X (.type T) r) (hl : LC X.K F0 r' r) (hm : X.mg x = none) (ha : DA X F0 (e :: es) t t') (hv : bootBuiltins x = some (.type T) := by decide +kernel) (hg : Gl X x := by rfl) (hn : x ≠ "__name__" := by decide) (hdb : (x == ("__debug__" : Str)) = false := by decide)
    (he : starEach (e :: es) X.env = (false, eval e X.env) :: starEach es X.env := by rfl) (hpl : (backTo pos (starEach es X.env)).any (·.1) = false := by rfl) : DE X F0 (.Call (.Name x p) (e :: es) [] pos) (tCB r t) (dCB r' t') :=
  ⟨pe_callTy hc hg hm hv ha.pa hn hdb he hpl, le_cb hl ha.le⟩
end

def keyD : Key → D
  | .inl i => .int i
  | .inr x => .str x
theorem keyD_rp {K : PySem.W.Frag} {F : FZ} : ∀ k : Key, Rp K F (keyD k) (kV k)
  | .inl i => .int i
  | .inr x => .str x
theorem keysD_rp {K : PySem.W.Frag} {F : FZ} : ∀ ks : List Key, RpL K F (ks.map keyD) (ks.map kV)
  | [] => .nil
  | k :: ks => .cons (keyD_rp k) (keysD_rp ks)
/-- how long a thing is -/
def lenV (M : Mp) : D → Option Nat
  | .lst l => some l.length
  | .tup l => some l.length
  | .kt l => some l.length
  | .str z => if z.length ≤ sizeLine then some z.length else none
  | .ref p => (match M p with
    | some (.lst l) => some l.length
    | some (.dK l) => some l.length
    | some (.dT l) => some l.length
    | _ => none)
  | .dk ks _ => some ks.length
  | _ => none
def dLen : DRC := fun ds M Q => match ds with
  | [d] => ∃ n : Nat, lenV M d = some n ∧ Q (.int n) M
  | _ => False
/-- the items of a list, a tuple, a dict -/
def itemsV (M : Mp) : D → Option (List D)
  | .lst l => some l
  | .tup l => some l
  | .kt l => some l
  | .ref p => (match M p with
    | some (.lst l) => some l
    | some (.dK l) => some (l.map fun kv => keyD kv.1)
    | some (.dT l) => some (l.map fun kv => .tup (kv.1.map keyD))
    | _ => none)
  | .dk ks _ => some (ks.map keyD)
  | .dt ks _ => some (ks.map fun k => .tup (k.map keyD))
  | _ => none
def dList : DRC := fun ds M Q => match ds with
  | [d] => ∃ l, itemsV M d = some l ∧ Q (.lst l) M
  | _ => False
def dListM : DRC := fun ds M Q => match ds with
  | [d] => ∃ l, itemsV M d = some l ∧ ∀ p, M p = none → Q (.ref p) (mset M p (.lst l))
  | _ => False
def dTuple : DRC := fun ds M Q => match ds with
  | [.lst l] => Q (.tup l) M
  | [.tup l] => Q (.tup l) M
  | [.kt l] => Q (.kt l) M
  | [.ref p] => (match M p with
    | some (.lst l) => Q (.tup l) M
    | _ => False)
  | _ => False
section
variable {X : Cx} {K : PySem.W.Frag} {F0 : FZ}
def rLenA (K : PySem.W.Frag) : List V → Hp → VK → Prop := fun xs H Q => (∃ p ys, xs = [.ref p] ∧ (SqL K H p ys ∨ SqT K H p ys) ∧ Q (.int ys.length) H) ∨ (∃ z, xs = [.str z] ∧ z.length ≤ sizeLine ∧ Q (.int z.length) H) ∨ (∃ a kvs, xs = [V.ref a] ∧ Rd H a (.dK kvs) ∧ Q (.int kvs.length) H) ∨ rLenT xs H Q
theorem call_lenA : CallR X (.builtin "len") (rLenA X.K) := by
  intro pins s σ H xs us Q I r h
  rcases h with h | h | h | h
  · exact call_len_seq pins s σ H xs us Q I r h
  · exact call_len_str pins s σ H xs us Q I r h
  · obtain ⟨a, kvs, rfl, ha, q⟩ := h
    obtain ⟨u, rfl, ru⟩ := vals1 r
    cases ru
    exact d_len I ha fun t s' I' => ⟨.int kvs.length, H, I', ⟨t, rfl⟩, q⟩
  · exact call_len_dT pins s σ H xs us Q I r h
theorem lc_len : LC K F0 dLen (rLenA K) := by
  intro F M H ds vs Q' Q e0 s r q k
  unfold dLen at q
  split at q
  · rename_i d
    obtain ⟨n, hn, q⟩ := q
    cases r with
    | cons r1 r2 =>
      cases r2
      have kk := k F (.int n) (.int n) M H (FLe.refl F) s (.int _) q
      cases r1 with
      | lst a b =>
        simp only [lenV, Option.some.injEq] at hn
        subst hn
        exact .inl ⟨_, _, rfl, .inl (SqL.of (s.fz _ _ a)), by rw [← b.length]; exact kk⟩
      | tup a b =>
        simp only [lenV, Option.some.injEq] at hn
        subst hn
        exact .inl ⟨_, _, rfl, .inr (s.sqT a), by rw [← b.length]; exact kk⟩
      | kt a b =>
        simp only [lenV, Option.some.injEq] at hn
        subst hn
        exact .inl ⟨_, _, rfl, .inr a.sqT, by rw [← b.length]; exact kk⟩
      | str z =>
        simp only [lenV] at hn
        split at hn
        · rename_i hz
          cases hn
          exact .inr (.inl ⟨z, rfl, hz, kk⟩)
        · cases hn
      | ref p =>
        simp only [lenV] at hn
        split at hn
        · rename_i l hm
          cases hn
          obtain ⟨u, h1, h2⟩ := s.mu p _ hm
          cases h2 with
          | lst b z => exact .inl ⟨_, _, rfl, .inl (SqL.of h1), by rw [← b.length]; exact kk⟩
        · rename_i l hm
          cases hn
          obtain ⟨u, h1, h2⟩ := s.mu p _ hm
          cases h2 with
          | dK b z => exact .inr (.inr (.inl ⟨_, _, rfl, .inl h1, by rw [← kvr_len b]; exact kk⟩))
        · rename_i l hm
          cases hn
          obtain ⟨u, h1, h2⟩ := s.mu p _ hm
          cases h2 with
          | dT b z _ => exact .inr (.inr (.inr ⟨_, _, rfl, h1, by rw [← kvr_len b]; exact kk⟩))
        · cases hn
      | dk a b =>
        simp only [lenV, Option.some.injEq] at hn
        subst hn
        rw [List.length_map] at kk
        exact .inr (.inr (.inl ⟨_, _, rfl, s.dz _ _ a, kk⟩))
      | _ => simp [lenV] at hn
  · exact q.elim
theorem de_len {e : Expr} {ta : TA} {ta' : DTA} {p pos : Pos} (hm : X.mg "len" = none) (ha : DA X F0 [e] ta ta') (hg : Gl X "len" := by rfl) (he : starEach (e :: []) X.env = (false, eval e X.env) :: starEach [] X.env := by rfl) : DE X F0 (.Call (.Name "len" p) [e] [] pos) (tCB (rLenA X.K) ta) (dCB dLen ta') :=
  de_blt call_lenA lc_len hm ha PySem.boot_len hg (by decide) (by decide) he

/-- list(d), locked or not -/
def rListR : List V → Hp → VK → Prop := fun xs H Q => ∃ p kvs, xs = [.ref p] ∧ Rd H p (.dK kvs) ∧ ∀ q, H q = none → Q (.ref q) (upd H q (.lst (kvs.map fun kv => kV kv.1)))
theorem call_listR {X : Cx} (hc : X.calm = true) : CallR X (.type "list") rListR := by
  intro pins s σ H xs us Q I r h
  obtain ⟨p, kvs, e, hk, q⟩ := h
  subst e
  obtain ⟨u, eu, rx⟩ := vals1 r
  subst eu
  obtain rfl : u = Value.ref p := rx
  obtain ⟨z, lo, vs, rk, hd⟩ := (show ObjOk X.prog X.w H s.heap p (.dK kvs) from hk.ok I.hok)
  obtain ⟨ep, hat⟩ := hd.dictAt
  have hl : kvs.length = vs.length := Paired.length rk
  refine PySem.W.kdl_call (PySem.W.kdl_dict (knd := mixKind X.prog X.w) (kvs := vs) (ep := ep) lo) (I.ok.hd hc) hat (by rw [← hl]; exact z) fun h' tk acc' c' hkeep hS hacc => ?_
  have ks : (kvs.map fun kv => kV kv.1) = (kvs.map (·.1)).map kV := by rw [List.map_map]; rfl
  refine ⟨.ref s.heap.objs.size, upd H s.heap.objs.size (.lst (kvs.map fun kv => kV kv.1)), I.laid hkeep (Nat.le_refl _) (show ObjOk X.prog X.w _ _ _ (.lst (kvs.map fun kv => kV kv.1)) from ⟨by rw [List.length_map]; exact z, acc'.toList, c', ?_, by rw [Array.toArray_toList]; exact hS⟩), rfl, q _ (I.hok.fresh (Nat.le_refl _))⟩
  have el : acc'.toList.length = acc'.size := by simp
  refine vals_of_at (by rw [List.length_map, el, hacc.1, hl]) fun j x w h1 h2 => ?_
  obtain ⟨k, y, hky, hi⟩ := hacc.2 j w (by rw [← Array.getElem?_toList]; exact h2)
  have e1 : (kvs.map (·.1))[j]? = some k := by rw [KV.keys rk, List.getElem?_map, hky]; rfl
  rw [ks, List.getElem?_map, e1] at h1
  cases h1
  exact keyIs_rel hi
def rListA (K : PySem.W.Frag) : List V → Hp → VK → Prop := fun xs H Q => (∃ p ys, xs = [.ref p] ∧ (SqL K H p ys ∨ SqT K H p ys) ∧ ∀ l, H l = none → Q (.ref l) (upd H l (.lst ys))) ∨ rListR xs H Q ∨ (∃ d kvs, xs = [V.ref d] ∧ Rd H d (.dT kvs) ∧ ∀ p bs, H p = none → IsKeys H kvs bs → Q (.ref p) (upd H p (.lst (bs.map V.ref))))
theorem call_listA (hc : X.calm = true) : CallR X (.type "list") (rListA X.K) := by
  intro pins s σ H xs us Q I r h
  rcases h with h | h | h
  · exact call_list_of pins s σ H xs us Q I r h
  · exact call_listR hc pins s σ H xs us Q I r h
  · exact call_list_dT hc pins s σ H xs us Q I r h
theorem adoptKeys {F : FZ} {M : Mp} {H : Hp} : ∀ {kvs : List (List Key × V)} {bs : List Addr}, SR K F M H → IsKeys H kvs bs → (∀ p ∈ kvs, p.1.length ≤ sizeLine) → ∃ F1, FLe F F1 ∧ SR K F1 M H ∧ RpL K F1 (kvs.map fun kv => .tup (kv.1.map keyD)) (bs.map V.ref)
  | _, _, s, .nil, _ => ⟨F, FLe.refl F, s, .nil⟩
  | kv :: kvs, b :: bs, s, .cons r t, h => by
    obtain ⟨F1, e1, s1, r1⟩ := adoptKeys s t fun p hp => h p (List.mem_cons_of_mem _ hp)
    obtain ⟨F2, e2, s2, r2⟩ := s1.adoptT r (by rw [List.length_map]; exact h kv List.mem_cons_self)
    exact ⟨F2, e1.trans e2, s2, .cons (.tup r2 (keysD_rp _)) (r1.mono e2)⟩
theorem items_rp {F : FZ} {M : Mp} {H : Hp} {d : D} {v : V} {l : List D} {Q : VK} (s : SR K F M H) (r : Rp K F d v) (h : itemsV M d = some l)
    (k : ∀ F1 ys p, FLe F F1 → SR K F1 M H → RpL K F1 l ys → ys.length ≤ sizeLine → H p = none → Q (.ref p) (upd H p (.lst ys))) : rListA K [v] H Q := by
  cases r with
  | lst a b =>
    simp only [itemsV, Option.some.injEq] at h
    subst h
    exact .inl ⟨_, _, rfl, .inl (SqL.of (s.fz _ _ a)), fun p hp => k F _ p (FLe.refl F) s b (s.lenL (SqL.of a)) hp⟩
  | tup a b =>
    simp only [itemsV, Option.some.injEq] at h
    subst h
    exact .inl ⟨_, _, rfl, .inr (s.sqT a), fun p hp => k F _ p (FLe.refl F) s b (s.lenT a) hp⟩
  | kt a b =>
    simp only [itemsV, Option.some.injEq] at h
    subst h
    exact .inl ⟨_, _, rfl, .inr a.sqT, fun p hp => k F _ p (FLe.refl F) s b a.len hp⟩
  | ref p =>
    simp only [itemsV] at h
    split at h
    · rename_i hm
      cases h
      obtain ⟨u, h1, h2⟩ := s.mu p _ hm
      cases h2 with
      | lst b z => exact .inl ⟨_, _, rfl, .inl (SqL.of h1), fun p hp => k F _ p (FLe.refl F) s b z hp⟩
    · rename_i hm
      cases h
      obtain ⟨u, h1, h2⟩ := s.mu p _ hm
      cases h2 with
      | dK b z =>
        refine .inr (.inl ⟨_, _, rfl, .inl h1, fun p hp => k F _ p (FLe.refl F) s ?_ (by rw [List.length_map]; exact z) hp⟩)
        have key : ∀ {m : List (Key × D)} {n : List (Key × V)}, KVR K F m n → RpL K F (m.map fun kv => keyD kv.1) (n.map fun kv => kV kv.1) := by
          intro m n r
          induction r with
          | nil => exact .nil
          | cons h t ih =>
            rename_i a b _ _
            rw [List.map_cons, List.map_cons, ← h.1]
            exact .cons (keyD_rp _) ih
        exact key b
    · rename_i hm
      cases h
      obtain ⟨u, h1, h2⟩ := s.mu p _ hm
      cases h2 with
      | dT b z zz =>
        rename_i kvs ps
        refine .inr (.inr ⟨_, _, rfl, .inl h1, fun p bs hp hk => ?_⟩)
        obtain ⟨F1, e1, s1, r1⟩ := adoptKeys s hk zz
        have hb : ps.length = bs.length := Paired.length hk
        have em : (kvs.map fun kv => D.tup (kv.1.map keyD)) = ps.map fun kv => D.tup (kv.1.map keyD) := by
          have key : ∀ {m : List (List Key × D)} {n : List (List Key × V)}, KVR K F m n → (m.map fun kv => D.tup (kv.1.map keyD)) = n.map fun kv => D.tup (kv.1.map keyD) := by
            intro m n r
            induction r with
            | nil => rfl
            | cons h t ih => rw [List.map_cons, List.map_cons, ih, h.1]
          exact key b
        exact k F1 _ p e1 s1 (by rw [em]; exact r1) (by rw [List.length_map]; omega) hp
    · cases h
  | dk a b =>
    rename_i q ps l
    simp only [itemsV, Option.some.injEq] at h
    subst h
    have z : ps.length ≤ sizeLine := (s.df _ _ a).2.2
    refine .inr (.inl ⟨_, _, rfl, s.dz _ _ a, fun p hp => k F _ p (FLe.refl F) s ?_ (by rw [List.length_map]; exact z) hp⟩)
    have e1 : (ps.map fun kv => kV kv.1) = (ps.map (·.1)).map kV := by rw [List.map_map]; rfl
    rw [e1]
    exact keysD_rp _
  | dt a b =>
    rename_i q ps l
    simp only [itemsV, Option.some.injEq] at h
    subst h
    obtain ⟨z, zz⟩ := (show DcO (.dT ps) from (s.df _ _ a).2.2)
    refine .inr (.inr ⟨_, _, rfl, s.dz _ _ a, fun p bs hp hk => ?_⟩)
    obtain ⟨F1, e1, s1, r1⟩ := adoptKeys s hk zz
    have hb : ps.length = bs.length := Paired.length hk
    exact k F1 _ p e1 s1 (by rw [List.map_map]; exact r1) (by rw [List.length_map]; omega) hp
  | _ => simp [itemsV] at h
theorem lc_list : LC K F0 dList (rListA K) := by
  intro F M H ds vs Q' Q e0 s r q k
  unfold dList at q
  split at q
  · obtain ⟨l, hl, q⟩ := q
    cases r with
    | cons r1 r2 =>
      cases r2
      refine items_rp s r1 hl fun F1 ys p e1 s1 ry hz hp => ?_
      have e2 := same_upd (o := .lst ys) (s1.freeF hp)
      exact k _ _ _ _ _ (e1.trans e2) (s1.newF hp hz) (.lst upd_same (ry.mono e2)) q
  · exact q.elim
theorem lc_listM : LC K F0 dListM (rListA K) := by
  intro F M H ds vs Q' Q e0 s r q k
  unfold dListM at q
  split at q
  · obtain ⟨l, hl, q⟩ := q
    cases r with
    | cons r1 r2 =>
      cases r2
      refine items_rp s r1 hl fun F1 ys p e1 s1 ry hz hp => ?_
      exact k F1 _ _ _ _ e1 (s1.putN hp (.lst ry hz)) (.ref p) (q p (s1.freeM hp))
  · exact q.elim
theorem lc_tuple : LC K F0 dTuple (fun xs H Q => ∃ p ys, xs = [.ref p] ∧ ((SqL K H p ys ∧ ∀ l, H l = none → Q (.ref l) (upd H l (.tup ys))) ∨ (SqT K H p ys ∧ Q (.ref p) H))) := by
  intro F M H ds vs Q' Q e0 s r q k
  have mk : ∀ {l : List D} {ys : List V}, RpL K F l ys → ys.length ≤ sizeLine → Q' (.tup l) M → ∀ p, H p = none → Q (.ref p) (upd H p (.tup ys)) := fun {l ys} ry hz q p hp => by
    have e2 := same_upd (o := .tup ys) (s.freeF hp)
    exact k _ _ _ _ _ e2 (s.newF hp hz) (.tup upd_same (ry.mono e2)) q
  unfold dTuple at q
  split at q
  · cases r with
    | cons r1 r2 =>
      cases r2
      cases r1 with
      | lst a b => exact ⟨_, _, rfl, .inl ⟨(SqL.of (s.fz _ _ a)), mk b (s.lenL (SqL.of a)) q⟩⟩
  · cases r with
    | cons r1 r2 =>
      cases r2
      cases r1 with
      | tup a b => exact ⟨_, _, rfl, .inr ⟨s.sqT a, k F _ _ M H (FLe.refl F) s (.tup a b) q⟩⟩
  · cases r with
    | cons r1 r2 =>
      cases r2
      cases r1 with
      | kt a b => exact ⟨_, _, rfl, .inr ⟨a.sqT, k F _ _ M H (FLe.refl F) s (.kt a b) q⟩⟩
  · cases r with
    | cons r1 r2 =>
      cases r2
      cases r1
      split at q
      · rename_i hm
        obtain ⟨u, h1, h2⟩ := s.mu _ _ hm
        cases h2 with
        | lst b z => exact ⟨_, _, rfl, .inl ⟨SqL.of h1, mk b z q⟩⟩
      · exact q.elim
  · exact q.elim
/-- min, max of two; abs, int -/
def dII2 (g : Int → Int → Int) : DRC := fun ds M Q => match ds with
  | [.int i, .int j] => Q (.int (g i j)) M
  | _ => False
theorem lc_min2 : LC K F0 (dII2 fun i j => if j < i then j else i) (fun xs H Q => ∃ i j, xs = [.int i, .int j] ∧ Q (.int (if j < i then j else i)) H) := by
  intro F M H ds vs Q' Q e0 s r q k
  unfold dII2 at q
  split at q
  · cases r with
    | cons r1 r2 =>
      cases r2 with
      | cons r2 r3 =>
        cases r3; cases r1; cases r2
        exact ⟨_, _, rfl, k F _ _ M H (FLe.refl F) s (.int _) q⟩
  · exact q.elim
theorem lc_max2 : LC K F0 (dII2 fun i j => if j > i then j else i) (fun xs H Q => ∃ i j, xs = [.int i, .int j] ∧ Q (.int (if j > i then j else i)) H) := by
  intro F M H ds vs Q' Q e0 s r q k
  unfold dII2 at q
  split at q
  · cases r with
    | cons r1 r2 =>
      cases r2 with
      | cons r2 r3 =>
        cases r3; cases r1; cases r2
        exact ⟨_, _, rfl, k F _ _ M H (FLe.refl F) s (.int _) q⟩
  · exact q.elim
def dAbs : DRC := fun ds M Q => match ds with
  | [.int i] => Q (.int (if i < 0 then -i else i)) M
  | _ => False
theorem lc_abs : LC K F0 dAbs (fun xs H Q => ∃ i, xs = [.int i] ∧ Q (.int (if i < 0 then -i else i)) H) := by
  intro F M H ds vs Q' Q e0 s r q k
  unfold dAbs at q
  split at q
  · cases r with
    | cons r1 r2 =>
      cases r2; cases r1
      exact ⟨_, rfl, k F _ _ M H (FLe.refl F) s (.int _) q⟩
  · exact q.elim
def dInt : DRC := fun ds M Q => match ds with
  | [.int i] => Q (.int i) M
  | [.bl b] => Q (.int (if b then 1 else 0)) M
  | _ => False
theorem lc_int : LC K F0 dInt (fun xs H Q => (∃ i, xs = [.int i] ∧ Q (.int i) H) ∨ ∃ k, xs = [.bl k] ∧ Q (.int (if k then 1 else 0)) H) := by
  intro F M H ds vs Q' Q e0 s r q k
  unfold dInt at q
  split at q
  · cases r with
    | cons r1 r2 =>
      cases r2; cases r1
      exact .inl ⟨_, rfl, k F _ _ M H (FLe.refl F) s (.int _) q⟩
  · cases r with
    | cons r1 r2 =>
      cases r2; cases r1
      exact .inr ⟨_, rfl, k F _ _ M H (FLe.refl F) s (.int _) q⟩
  · exact q.elim
/-- all, any of a list of flags -/
def dFlags (g : List Bool → Bool) : DRC := fun ds M Q => match ds with
  | [.lst l] => ∃ bs : List Bool, l = bs.map .bl ∧ Q (.bl (g bs)) M
  | _ => False
theorem lc_flags {g : List Bool → Bool} : LC K F0 (dFlags g) (fun vs H Q => ∃ (a : Addr) (bs : List Bool), vs = [V.ref a] ∧ SqL K H a (bs.map V.bl) ∧ Q (.bl (g bs)) H) := by
  intro F M H ds vs Q' Q e0 s r q k
  unfold dFlags at q
  split at q
  · obtain ⟨bs, hb, q⟩ := q
    subst hb
    cases r with
    | cons r1 r2 =>
      cases r2
      cases r1 with
      | lst a b =>
        have e := RpL.bl bs b
        subst e
        exact ⟨_, bs, rfl, (SqL.of (s.fz _ _ a)), k F _ _ M H (FLe.refl F) s (.bl _) q⟩
  · exact q.elim
/-- sorted, of ints -/
def dSortI : DRC := fun ds M Q => match ds with
  | [d] => ∃ ns : List Int, (d = .lst (ns.map .int) ∨ ∃ p, d = .ref p ∧ M p = some (.lst (ns.map .int))) ∧ ∀ ns' : List Int, ns'.Perm ns → ns'.Pairwise (· ≤ ·) → Q (.lst (ns'.map .int)) M
  | _ => False
theorem lc_sortI : LC K F0 dSortI (rSortedI K) := by
  intro F M H ds vs Q' Q e0 s r q k
  unfold dSortI at q
  split at q
  · obtain ⟨ns, hd, q⟩ := q
    have mk : ∀ (a : Addr), SqL K H a (ns.map V.int) → ns.length ≤ sizeLine → rSortedI K [.ref a] H Q := fun a ha hz => by
      refine ⟨a, ns, rfl, ha, fun ns' p h1 h2 hp => ?_⟩
      have e2 := same_upd (o := .lst (ns'.map V.int)) (s.freeF hp)
      exact k _ _ _ _ _ e2 (s.newF hp (by show (ns'.map V.int).length ≤ sizeLine; rw [List.length_map, h1.length_eq]; exact hz)) (.lst upd_same (RpL.ofInt ns')) (q ns' h1 h2)
    cases r with
    | cons r1 r2 =>
      cases r2
      rcases hd with rfl | ⟨p, rfl, hm⟩
      · cases r1 with
        | lst a b =>
          have e := RpL.int ns b
          subst e
          exact mk _ (SqL.of (s.fz _ _ a)) (by have := s.lenL (SqL.of a); rw [List.length_map] at this; exact this)
      · cases r1
        obtain ⟨u, h1, h2⟩ := s.mu p _ hm
        cases h2 with
        | lst b z =>
          have e := RpL.int ns b
          subst e
          exact mk p (SqL.of h1) (by rw [List.length_map] at z; exact z)
  · exact q.elim
end
end DL

set_option maxRecDepth 100000
set_option maxHeartbeats 2000000
namespace DL
open PySem PySem.Spec PyProof.Rows L2

/-! ### sorted, of pairs of ints -/
def prD (p : Int × Int) : D := .tup [.int p.1, .int p.2]
def dSortP : DRC := fun ds M Q => match ds with
  | [d] => ∃ ps : List (Int × Int), (d = .lst (ps.map prD) ∨ ∃ p, d = .ref p ∧ M p = some (.lst (ps.map prD))) ∧ ∀ qs : List (Int × Int), qs.Perm ps → SrtO.Srtd SrtO.lexB qs → Q (.lst (qs.map prD)) M
  | _ => False
/-- the two ints of a frozen pair -/
def prOf (F : Hp) (v : V) : Int × Int := match v with
  | .ref t => (match F t with
    | some (.tup [.int i, .int j]) => (i, j)
    | _ => (0, 0))
  | _ => (0, 0)
section
variable {X : Cx} {K : PySem.W.Frag} {F0 : FZ}
theorem prs_rp {F : FZ} : ∀ {ps : List (Int × Int)} {xs : List V}, RpL K F (ps.map prD) xs → ps = xs.map (prOf F.f) ∧ ∀ x ∈ xs, ∃ t, x = V.ref t ∧ F.f t = some (.tup [.int (prOf F.f x).1, .int (prOf F.f x).2])
  | [], _, .nil => ⟨rfl, fun x h => by cases h⟩
  | p :: ps, _, .cons r t => by
    obtain ⟨h1, h2⟩ := prs_rp t
    cases r with
    | tup a b =>
      rename_i t' ys
      cases b with
      | cons b1 b2 =>
        cases b2 with
        | cons b2 b3 =>
          cases b3
          cases b1
          cases b2
          have e : prOf F.f (.ref t') = (p.1, p.2) := by simp only [prOf, a]
          refine ⟨by rw [List.map_cons, e, ← h1], fun x hx => ?_⟩
          rcases List.mem_cons.mp hx with rfl | hx
          · exact ⟨t', rfl, by rw [e]; exact a⟩
          · exact h2 x hx
theorem rp_prs {F : FZ} : ∀ {xs : List V}, (∀ x ∈ xs, ∃ t, x = V.ref t ∧ F.f t = some (.tup [.int (prOf F.f x).1, .int (prOf F.f x).2])) → RpL K F ((xs.map (prOf F.f)).map prD) xs
  | [], _ => .nil
  | x :: xs, h => by
    obtain ⟨t, rfl, ht⟩ := h x List.mem_cons_self
    exact .cons (.tup ht (.cons (.int _) (.cons (.int _) .nil))) (rp_prs fun y hy => h y (List.mem_cons_of_mem _ hy))
theorem lc_sortP : LC K F0 dSortP (rSortedPO K) := by
  intro F M H ds vs Q' Q e0 s r q k
  unfold dSortP at q
  split at q
  · obtain ⟨ps, hd, q⟩ := q
    have mk : ∀ (a : Addr) (xs : List V), SqL K H a xs → xs.length ≤ sizeLine → RpL K F (ps.map prD) xs → rSortedPO K [.ref a] H Q := fun a xs ha hz rl => by
      obtain ⟨h1, h2⟩ := prs_rp rl
      refine ⟨a, xs, prOf F.f, rfl, ha, fun x hx => ?_, fun ys p hs hp hn => ?_⟩
      · obtain ⟨t, e1, e2⟩ := h2 x hx
        exact ⟨t, e1, s.fz _ _ e2⟩
      · have e2 := same_upd (o := .lst ys) (s.freeF hn)
        have hy : RpL K F ((ys.map (prOf F.f)).map prD) ys := rp_prs fun y hy => h2 y (hp.perm.mem_iff.mp hy)
        refine k _ _ _ _ _ e2 (s.newF hn (by show ys.length ≤ sizeLine; rw [hp.perm.length_eq]; exact hz)) (.lst upd_same (hy.mono e2)) (q _ (by rw [h1]; exact hp.perm.map _) (SrtO.srtd_map hs))
    cases r with
    | cons r1 r2 =>
      cases r2
      rcases hd with rfl | ⟨p, rfl, hm⟩
      · cases r1 with
        | lst a b => exact mk _ _ (SqL.of (s.fz _ _ a)) (s.lenL (SqL.of a)) b
      · cases r1
        obtain ⟨u, h1, h2⟩ := s.mu p _ hm
        cases h2 with
        | lst b z => exact mk p _ (SqL.of h1) z b
  · exact q.elim

/-! ### isinstance, built-in types -/
def tyN (M : Mp) : D → Option String
  | .non => some "NoneType"
  | .bl _ => some "bool"
  | .int _ => some "int"
  | .str _ => some "str"
  | .lst _ => some "list"
  | .tup _ => some "tuple"
  | .kt _ => some "tuple"
  | .ref p => (match M p with
    | some (.lst _) => some "list"
    | some (.dK _) => some "dict"
    | some (.dT _) => some "dict"
    | _ => none)
  | .ty _ => none
  | .ls _ => none
  | .dk _ _ => some "dict"
  | .dt _ _ => none
def isiT (T n : String) : Bool := T == n || (T == "bool" && n == "int")
theorem kitB_tab : ∀ T ∈ (["NoneType", "bool", "int", "str", "list", "tuple", "dict"] : List String), ∀ n ∈ (["NoneType", "bool", "int", "str", "list", "tuple", "dict"] : List String), kitB T n = some (isiT T n) := by decide +kernel
def isTab (n : String) : Bool := ["NoneType", "bool", "int", "str", "list", "tuple", "dict"].contains n
theorem isTab_mem {n : String} (h : isTab n = true) : n ∈ (["NoneType", "bool", "int", "str", "list", "tuple", "dict"] : List String) := by simpa [isTab] using h
theorem tyN_tab {M : Mp} {d : D} {T : String} (h : tyN M d = some T) : T ∈ (["NoneType", "bool", "int", "str", "list", "tuple", "dict"] : List String) := by
  unfold tyN at h
  split at h <;> (try (simp at h; done)) <;> first
    | (cases h; simp; done)
    | (split at h <;> first | (cases h; simp; done) | cases h)
theorem tyN_rp {F : FZ} {M : Mp} {H : Hp} {d : D} {v : V} {T : String} (s : SR K F M H) (r : Rp K F d v) (h : tyN M d = some T) : TyX K H v (.type T) := by
  cases r with
  | non => cases h; exact .base .non
  | bl b => cases h; exact .base (.bl b)
  | int i => cases h; exact .base (.int i)
  | str x => cases h; exact .base (.str x)
  | lst a b =>
    cases h
    exact .base (.lst (s.fz _ _ a))
  | tup a b => cases h; exact .base (.tup (s.fz _ _ a))
  | kt a b =>
    cases h
    obtain ⟨o, its, n, z, c, _⟩ := a
    exact .kTuple z c
  | ref p =>
    simp only [tyN] at h
    split at h
    · rename_i hm
      cases h
      obtain ⟨u, h1, h2⟩ := s.mu p _ hm
      cases h2
      exact .base (.lst h1)
    · rename_i hm
      cases h
      obtain ⟨u, h1, h2⟩ := s.mu p _ hm
      cases h2
      exact .base (.dK h1)
    · rename_i hm
      cases h
      obtain ⟨u, h1, h2⟩ := s.mu p _ hm
      cases h2
      exact .base (.dT h1)
    · cases h
  | ty n => cases h
  | ls a b => cases h
  | dk a b =>
    cases h
    rcases s.dz _ _ a with z | ⟨o, z⟩
    · exact .base (.dK z)
    · exact .fDict z
  | dt a b => cases h
def dIsi : DRC := fun ds M Q => match ds with
  | [x, .ty n] => isTab n = true ∧ ∃ T, tyN M x = some T ∧ Q (.bl (isiT T n)) M
  | _ => False
theorem lc_isi : LC K F0 dIsi (rIsi K) := by
  intro F M H ds vs Q' Q e0 s r q k
  unfold dIsi at q
  split at q
  · obtain ⟨hn, T, hT, q⟩ := q
    cases r with
    | cons r1 r2 =>
      cases r2 with
      | cons r2 r3 =>
        cases r3
        cases r2
        exact ⟨_, _, _, _, _, rfl, .ty _, tyN_rp s r1 hT, kit_ty (kitB_tab _ (tyN_tab hT) _ (isTab_mem hn)), k F _ _ M H (FLe.refl F) s (.bl _) q⟩
  · exact q.elim
def tysOf : List D → Option (List String)
  | [] => some []
  | .ty n :: r => (tysOf r).map fun l => n :: l
  | _ => none
def dIsiT : DRC := fun ds M Q => match ds with
  | [x, .tup l] => ∃ ns, tysOf l = some ns ∧ ns.all isTab = true ∧ ∃ T, tyN M x = some T ∧ Q (.bl (ns.any fun n => isiT T n)) M
  | _ => False
theorem tys_rp {F : FZ} : ∀ {l : List D} {xs : List V} {ns : List String}, RpL K F l xs → tysOf l = some ns → Paired ClsV xs (ns.map Value.type)
  | _, _, ns, .nil, h => by simp [tysOf] at h; subst h; exact .nil
  | _, _, ns, .cons r t, h => by
    cases r with
    | ty n =>
      simp only [tysOf] at h
      obtain ⟨m, h1, h2⟩ := Option.map_eq_some_iff.mp h
      subst h2
      exact .cons (.ty n) (tys_rp t h1)
    | _ => simp [tysOf] at h
theorem kit_any {T : String} (hT : T ∈ (["NoneType", "bool", "int", "str", "list", "tuple", "dict"] : List String)) : ∀ {ns : List String}, ns.all isTab = true → PySem.W.kitAny K (.type T) (ns.map Value.type) = some (ns.any fun n => isiT T n)
  | [], _ => rfl
  | n :: ns, h => by
    simp only [List.all_cons, Bool.and_eq_true] at h
    have ih := kit_any hT h.2
    rw [List.map_cons, List.any_cons]
    refine kitAny_cons (kit_ty (kitB_tab _ hT _ (isTab_mem h.1))) (fun e => ?_) (fun e => ?_)
    · rw [e, Bool.false_or]; exact ih
    · rw [e, Bool.true_or]
theorem lc_isiT : LC K F0 dIsiT (rIsiT K) := by
  intro F M H ds vs Q' Q e0 s r q k
  unfold dIsiT at q
  split at q
  · obtain ⟨ns, h1, h2, T, hT, q⟩ := q
    cases r with
    | cons r1 r2 =>
      cases r2 with
      | cons r2 r3 =>
        cases r3
        cases r2 with
        | tup a b => exact ⟨_, _, _, _, _, _, rfl, s.fz _ _ a, tys_rp b h1, tyN_rp s r1 hT, kit_any (tyN_tab hT) h2, k F _ _ M H (FLe.refl F) s (.bl _) q⟩
  · exact q.elim
theorem de_ty {x : Str} {n : String} {pos : Pos} (hm : X.mg x = none) (hv : bootBuiltins x = some (.type n) := by decide +kernel) (hg : Gl X x := by rfl) (hn : x ≠ "__name__" := by decide) (hd : (x == ("__debug__" : Str)) = false := by decide) : DE X F0 (.Name x pos) (tC (.ty n)) (dC (.ty n)) :=
  ⟨pe_bltn hg hm hv rfl hn hd, le_c fun _ => .ty n⟩
theorem de_isi {e e2 : Expr} {ta : TA} {ta' : DTA} {p pos : Pos} (hm : X.mg "isinstance" = none) (ha : DA X F0 [e, e2] ta ta') (hg : Gl X "isinstance" := by rfl) (he : starEach [e, e2] X.env = (false, eval e X.env) :: starEach [e2] X.env := by rfl) (hpl : (backTo pos (starEach [e2] X.env)).any (·.1) = false := by rfl) :
    DE X F0 (.Call (.Name "isinstance" p) [e, e2] [] pos) (tCB (rIsi X.K) ta) (dCB dIsi ta') := de_blt call_isi lc_isi hm ha (by decide +kernel) hg (by decide) (by decide) he hpl
theorem de_isiT {e e2 : Expr} {ta : TA} {ta' : DTA} {p pos : Pos} (hm : X.mg "isinstance" = none) (ha : DA X F0 [e, e2] ta ta') (hg : Gl X "isinstance" := by rfl) (he : starEach [e, e2] X.env = (false, eval e X.env) :: starEach [e2] X.env := by rfl) (hpl : (backTo pos (starEach [e2] X.env)).any (·.1) = false := by rfl) :
    DE X F0 (.Call (.Name "isinstance" p) [e, e2] [] pos) (tCB (rIsiT X.K) ta) (dCB dIsiT ta') := de_blt call_isiT lc_isiT hm ha (by decide +kernel) hg (by decide) (by decide) he hpl
end

/-! ### methods of built-in types -/
abbrev DRM := D → List D → Mp → DK → Prop
def LM (K : PySem.W.Frag) (F0 : FZ) (r' : DRM) (r : V → List V → Hp → VK → Prop) : Prop := ∀ (F : FZ) (M : Mp) (H : Hp) (o : D) (x : V) (ds : List D) (vs : List V) (Q' : DK) (Q : VK), Bs F0 F → SR K F M H → Rp K F o x → RpL K F ds vs → r' o ds M Q' →
  (∀ F1 d v M1 H1, FLe F F1 → SR K F1 M1 H1 → Rp K F1 d v → Q' d M1 → Q v H1) → r x vs H Q
def tyD (T : String) (M : Mp) : D → Prop
  | .lst _ => T = "list"
  | .str _ => T = "str"
  | .kt _ => T = "tuple"
  | .ref p => (match M p with
    | some (.lst _) => T = "list"
    | some (.dK _) => T = "dict"
    | some (.dT _) => T = "dict"
    | _ => False)
  | _ => False
def dBM0 (T : String) (r : DRM) (to : DTE) : DTE := fun γ M Q => to γ M fun x M1 => tyD T M1 x ∧ r x [] M1 Q
def dBM (T : String) (r : DRM) (to : DTE) (t : DTA) : DTE := fun γ M Q => to γ M fun x M1 => tyD T M1 x ∧ t γ M1 fun xs M2 => r x xs M2 Q
section
variable {X : Cx} {K : PySem.W.Frag} {F0 : FZ} {o e : Expr} {es : List Expr} {to : TE} {to' : DTE} {t : TA} {t' : DTA} {name : Str} {apos cpos : Pos} {T id : String} {r : V → List V → Hp → VK → Prop} {r' : DRM}
theorem tyD_rp {F : FZ} {M : Mp} {H : Hp} {d : D} {v : V} (s : SR K F M H) (r : Rp K F d v) (hk : T ≠ "tuple") (h : tyD T M d) : tyV K T v H := by
  cases r with
  | lst a b => exact .inl ⟨h, _, SqL.of (s.fz _ _ a)⟩
  | str z => exact h
  | kt a b => exact absurd h hk
  | ref p =>
    simp only [tyD] at h
    split at h
    · rename_i hm
      obtain ⟨u, h1, h2⟩ := s.mu p _ hm
      cases h2
      exact .inl ⟨h, _, SqL.of h1⟩
    · rename_i hm
      obtain ⟨u, h1, h2⟩ := s.mu p _ hm
      cases h2
      exact .inr (.inr (.inl ⟨h, .inl ⟨_, h1⟩⟩))
    · rename_i hm
      obtain ⟨u, h1, h2⟩ := s.mu p _ hm
      cases h2
      exact .inr (.inr (.inl ⟨h, .inr ⟨_, h1⟩⟩))
    · exact h.elim
  | _ => exact False.elim h
theorem de_bm0 (pa : PlainAttrs T) (slot : Slot T name id) (hty : typeOf (.builtin id) = pure (.type "method_descriptor")) (hm : MtR X id r) (hl : LM X.K F0 r' r) (ho : DE X F0 o to to') (hk : T ≠ "tuple" := by decide)
    (hbase : attributeBase o name X.env (eval o X.env) = eval o X.env := by rfl) (hline : (apos.endLine == cpos.line) = true := by rfl) : DE X F0 (.Call (.Attribute o name apos) [] [] cpos) (tBM0 X.K T r to) (dBM0 T r' to') :=
  ⟨pe_bm0 pa slot hty hm ho.pe hbase hline, fun F γ M σ H Q' Q e0 s g q k => ho.le F γ M σ H _ _ e0 s g q fun F1 d v M1 H1 e1 s1 r1 q1 =>
    ⟨tyD_rp s1 r1 hk q1.1, hl F1 M1 H1 d v [] [] _ _ (e0.tr e1) s1 r1 .nil q1.2 fun F2 d2 v2 M2 H2 e2 s2 r2 q2 => k F2 d2 v2 M2 H2 (e1.trans e2) s2 r2 q2⟩⟩
theorem de_bm (pa : PlainAttrs T) (slot : Slot T name id) (hty : typeOf (.builtin id) = pure (.type "method_descriptor")) (hm : MtR X id r) (hl : LM X.K F0 r' r) (ho : DE X F0 o to to') (ha : DA X F0 (e :: es) t t') (hk : T ≠ "tuple" := by decide)
    (hbase : attributeBase o name X.env (eval o X.env) = eval o X.env := by rfl)
    (hfew : ((backTo cpos (starEach (e :: es) X.env)).all (fun x => !x.1) && (backToKw cpos (keywordEach [] X.env)).all (fun x => x.1.isSome) && decide ((e :: es).length + ([] : List Keyword).length + (if ([] : List Keyword).isEmpty then 0 else 1) < 30)) = true := by rfl)
    (hline : (apos.endLine == cpos.line) = true := by rfl) (hs : starEach (e :: es) X.env = (false, eval e X.env) :: starEach es X.env := by rfl) (hplain : (backTo cpos (starEach es X.env)).any (·.1) = false := by rfl) :
    DE X F0 (.Call (.Attribute o name apos) (e :: es) [] cpos) (tBM X.K T r to t) (dBM T r' to' t') :=
  ⟨pe_bm pa slot hty hm ho.pe ha.pa hbase hfew hline hs hplain, fun F γ M σ H Q' Q e0 s g q k => ho.le F γ M σ H _ _ e0 s g q fun F1 d v M1 H1 e1 s1 r1 q1 =>
    ⟨tyD_rp s1 r1 hk q1.1, ha.le F1 γ M1 σ H1 _ _ (e0.tr e1) s1 (g.mono e1) q1.2 fun F2 ds vs M2 H2 e2 s2 r2 q2 => hl F2 M2 H2 d v ds vs _ _ ((e0.tr e1).tr e2) s2 (r1.mono e2) r2 q2 fun F3 d3 v3 M3 H3 e3 s3 r3 q3 => k F3 d3 v3 M3 H3 ((e1.trans e2).trans e3) s3 r3 q3⟩⟩
def dAppend : DRM := fun x ds M Q => match x, ds with
  | .ref p, [d] => (match M p with
    | some (.lst l) => l.length < sizeLine ∧ Q .non (mset M p (.lst (l ++ [d])))
    | _ => False)
  | _, _ => False
theorem lm_append : LM K F0 dAppend rAppend := by
  intro F M H o x ds vs Q' Q e0 s r rs q k
  unfold dAppend at q
  split at q
  · rename_i p d
    split at q
    · rename_i l hm
      obtain ⟨hl, q⟩ := q
      obtain ⟨u, h1, h2⟩ := s.mu p _ hm
      cases h2 with
      | lst b z =>
        cases r
        cases rs with
        | cons r1 r2 =>
          cases r2
          have hl2 := b.length ▸ hl
          exact ⟨p, _, _, rfl, rfl, h1, hl2, k F _ _ _ _ (FLe.refl F) (s.putM hm (.lst (b.append (.cons r1 .nil)) (by rw [List.length_append]; simp; omega))) .non q⟩
    · exact q.elim
  · exact q.elim
def dPop : DRM := fun x ds M Q => match x, ds with
  | .ref p, [] => (match M p with
    | some (.lst l) => ∃ d, l.getLast? = some d ∧ Q d (mset M p (.lst l.dropLast))
    | _ => False)
  | _, _ => False
theorem lm_pop : LM K F0 dPop rPop := by
  intro F M H o x ds vs Q' Q e0 s r rs q k
  unfold dPop at q
  split at q
  · rename_i p
    split at q
    · rename_i l hm
      obtain ⟨d, hd, q⟩ := q
      obtain ⟨u, h1, h2⟩ := s.mu p _ hm
      cases h2 with
      | lst b z =>
        rename_i xs
        cases r
        cases rs
        rw [List.getLast?_eq_getElem?] at hd
        obtain ⟨v, e1, e2⟩ := b.get hd
        rw [b.length] at e1
        exact ⟨p, _, v, rfl, rfl, h1, e1, k F _ _ _ _ (FLe.refl F) (s.putM hm (.lst b.dropLast (by rw [List.length_dropLast]; omega))) e2 q⟩
    · exact q.elim
  · exact q.elim
def dPopAt : DRM := fun x ds M Q => match x, ds with
  | .ref p, [.int i] => (match M p with
    | some (.lst l) => ∃ (j : Nat) (d : D), ixN l.length i = some j ∧ l[j]? = some d ∧ Q d (mset M p (.lst (l.eraseIdx j)))
    | _ => False)
  | _, _ => False
theorem lm_popAt : LM K F0 dPopAt rPopAt := by
  intro F M H o x ds vs Q' Q e0 s r rs q k
  unfold dPopAt at q
  split at q
  · rename_i p i
    split at q
    · rename_i l hm
      obtain ⟨j, d, hj, hd, q⟩ := q
      obtain ⟨u, h1, h2⟩ := s.mu p _ hm
      cases h2 with
      | lst b z =>
        rename_i xs
        cases r
        cases rs with
        | cons r1 r2 =>
          cases r2
          cases r1
          rw [b.length] at hj
          obtain ⟨g1, g2, g3, g4⟩ := ixN_seq hj
          obtain ⟨v, e1, e2⟩ := b.get hd
          have hn := line63
          have hz := sizeLine_eq
          refine ⟨p, xs, i, j, v, rfl, rfl, h1, by omega, by omega, g1, e1, k F _ _ _ _ (FLe.refl F) (s.putM hm (.lst (b.eraseIdx j) ?_)) e2 q⟩
          have := List.length_eraseIdx_le xs j
          omega
    · exact q.elim
  · exact q.elim
theorem de_append {ta : TA} {ta' : DTA} (ho : DE X F0 o to to') (ha : DA X F0 [e] ta ta') (hbase : attributeBase o "append" X.env (eval o X.env) = eval o X.env := by rfl)
    (hfew : ((backTo cpos (starEach [e] X.env)).all (fun x => !x.1) && (backToKw cpos (keywordEach [] X.env)).all (fun x => x.1.isSome) && decide ([e].length + ([] : List Keyword).length + (if ([] : List Keyword).isEmpty then 0 else 1) < 30)) = true := by rfl)
    (hline : (apos.endLine == cpos.line) = true := by rfl) (hs : starEach [e] X.env = (false, eval e X.env) :: starEach [] X.env := by rfl) : DE X F0 (.Call (.Attribute o "append" apos) [e] [] cpos) (tBM X.K "list" rAppend to ta) (dBM "list" dAppend to' ta') :=
  de_bm PySem.F.plainAttrs_list PySem.F.slot_list_append PySem.F.type_list_append mt_append lm_append ho ha (by decide) hbase hfew hline hs rfl
theorem de_pop (ho : DE X F0 o to to') (hbase : attributeBase o "pop" X.env (eval o X.env) = eval o X.env := by rfl) (hline : (apos.endLine == cpos.line) = true := by rfl) : DE X F0 (.Call (.Attribute o "pop" apos) [] [] cpos) (tBM0 X.K "list" rPop to) (dBM0 "list" dPop to') :=
  de_bm0 PySem.F.plainAttrs_list PySem.F.slot_list_pop PySem.F.type_list_pop mt_pop lm_pop ho (by decide) hbase hline
theorem de_popAt {ta : TA} {ta' : DTA} (ho : DE X F0 o to to') (ha : DA X F0 [e] ta ta') (hbase : attributeBase o "pop" X.env (eval o X.env) = eval o X.env := by rfl)
    (hfew : ((backTo cpos (starEach [e] X.env)).all (fun x => !x.1) && (backToKw cpos (keywordEach [] X.env)).all (fun x => x.1.isSome) && decide ([e].length + ([] : List Keyword).length + (if ([] : List Keyword).isEmpty then 0 else 1) < 30)) = true := by rfl)
    (hline : (apos.endLine == cpos.line) = true := by rfl) (hs : starEach [e] X.env = (false, eval e X.env) :: starEach [] X.env := by rfl) : DE X F0 (.Call (.Attribute o "pop" apos) [e] [] cpos) (tBM X.K "list" rPopAt to ta) (dBM "list" dPopAt to' ta') :=
  de_bm PySem.F.plainAttrs_list PySem.F.slot_list_pop PySem.F.type_list_pop mt_popAt lm_popAt ho ha (by decide) hbase hfew hline hs rfl
end
end DL

set_option maxRecDepth 100000
set_option maxHeartbeats 2000000
namespace DL
open PySem PySem.Spec PyProof.Rows L2

section
variable {X : Cx} {K : PySem.W.Frag} {F0 : FZ} {a b c e o : Expr} {es rest : List Expr} {ta tb tc te to : TE} {ta' tb' tc' te' to' : DTE} {pos : Pos}
/-! ### chains, and | or | not as values, truth -/
theorem le_chain {r r' : R2} {d d' : DR2} (hr : L2r K F0 d r) (hr' : L2r K F0 d' r') (ha : LE K F0 ta' ta) (hb : LE K F0 tb' tb) (hc : LE K F0 tc' tc) : LE K F0 (dChain d d' ta' tb' tc') (tChain r r' ta tb tc) := by
  intro F γ M σ H Q' Q e0 s g h k
  refine ha F γ M σ H _ _ e0 s g h fun F1 d1 v1 M1 H1 e1 s1 r1 q1 => ?_
  refine hb F1 γ M1 σ H1 _ _ (e0.tr e1) s1 (g.mono e1) q1 fun F2 d2 v2 M2 H2 e2 s2 r2 q2 => ?_
  refine hr F2 M2 H2 d1 d2 v1 v2 _ _ ((e0.tr e1).tr e2) s2 (r1.mono e2) r2 q2 fun F3 d3 v3 M3 H3 e3 s3 r3 q3 => ?_
  split at q3
  · cases r3
    refine ⟨true, rfl, ?_⟩
    refine hc F3 γ M3 σ H3 _ _ (((e0.tr e1).tr e2).tr e3) s3 (g.mono ((e1.trans e2).trans e3)) q3 fun F4 d4 v4 M4 H4 e4 s4 r4 q4 => ?_
    exact hr' F4 M4 H4 d2 d4 v2 v4 _ _ ((((e0.tr e1).tr e2).tr e3).tr e4) s4 (r2.mono (e3.trans e4)) r4 q4 fun F5 d5 v5 M5 H5 e5 s5 r5 q5 => k F5 d5 v5 M5 H5 ((((e1.trans e2).trans e3).trans e4).trans e5) s5 r5 q5
  · cases r3
    exact ⟨false, rfl, k F3 _ _ M3 H3 ((e1.trans e2).trans e3) s3 (.bl _) q3⟩
  · exact q3.elim
theorem de_chain {op op' : CmpOp} {r r' : R2} {d d' : DR2} (ho : OpR X (compareOp op) r) (hr : L2r X.K F0 d r) (ho' : OpR X (compareOp op') r') (hr' : L2r X.K F0 d' r') (ha : DE X F0 a ta ta') (hb : DE X F0 b tb tb') (hc : DE X F0 c tc tc')
    (hm : lastMarks [op, op'] [b, c] = false := by with_unfolding_all rfl) : DE X F0 (.Compare a [op, op'] [b, c] pos) (tChain r r' ta tb tc) (dChain d d' ta' tb' tc') :=
  ⟨pe_chain ho ho' ha.pe hb.pe hc.pe hm, le_chain hr hr' ha.le hb.le hc.le⟩
def dAndV (ta tb : DTE) : DTE := fun γ M Q => ta γ M fun x M1 => match x with
  | .bl c => if c = true then tb γ M1 Q else Q (.bl false) M1
  | _ => False
def dOrV (ta tb : DTE) : DTE := fun γ M Q => ta γ M fun x M1 => match x with
  | .bl c => if c = true then Q (.bl true) M1 else tb γ M1 Q
  | _ => False
def dNotV (ta : DTE) : DTE := fun γ M Q => ta γ M fun x M1 => match x with
  | .bl c => Q (.bl (!c)) M1
  | _ => False
theorem de_one {op : BoolOp} (h : DE X F0 a ta ta') : DE X F0 (.BoolOp op [a] pos) ta ta' := ⟨pe_one h.pe, h.le⟩
theorem de_and (ha : DE X F0 a ta ta') (hb : DE X F0 (.BoolOp .And (b :: rest) pos) tb tb') : DE X F0 (.BoolOp .And (a :: b :: rest) pos) (tAndV ta tb) (dAndV ta' tb') := ⟨pe_and ha.pe hb.pe, fun F γ M σ H Q' Q e0 s g h k => by
  refine ha.le F γ M σ H _ _ e0 s g h fun F1 d1 v1 M1 H1 e1 s1 r1 q1 => ?_
  split at q1
  · rename_i c
    cases r1
    refine ⟨c, rfl, ?_⟩
    cases c with
    | true => exact hb.le F1 γ M1 σ H1 _ _ (e0.tr e1) s1 (g.mono e1) q1 fun F2 d2 v2 M2 H2 e2 s2 r2 q2 => k F2 d2 v2 M2 H2 (e1.trans e2) s2 r2 q2
    | false => exact k F1 _ _ M1 H1 e1 s1 (.bl _) q1
  · exact q1.elim⟩
theorem de_or (ha : DE X F0 a ta ta') (hb : DE X F0 (.BoolOp .Or (b :: rest) pos) tb tb') : DE X F0 (.BoolOp .Or (a :: b :: rest) pos) (tOrV ta tb) (dOrV ta' tb') := ⟨pe_or ha.pe hb.pe, fun F γ M σ H Q' Q e0 s g h k => by
  refine ha.le F γ M σ H _ _ e0 s g h fun F1 d1 v1 M1 H1 e1 s1 r1 q1 => ?_
  split at q1
  · rename_i c
    cases r1
    refine ⟨c, rfl, ?_⟩
    cases c with
    | false => exact hb.le F1 γ M1 σ H1 _ _ (e0.tr e1) s1 (g.mono e1) q1 fun F2 d2 v2 M2 H2 e2 s2 r2 q2 => k F2 d2 v2 M2 H2 (e1.trans e2) s2 r2 q2
    | true => exact k F1 _ _ M1 H1 e1 s1 (.bl _) q1
  · exact q1.elim⟩
theorem de_not (ha : DE X F0 a ta ta') : DE X F0 (.UnaryOp .Not a pos) (tNotV ta) (dNotV ta') := ⟨pe_not ha.pe, fun F γ M σ H Q' Q e0 s g h k => by
  refine ha.le F γ M σ H _ _ e0 s g h fun F1 d1 v1 M1 H1 e1 s1 r1 q1 => ?_
  split at q1
  · cases r1
    exact ⟨_, rfl, k F1 _ _ M1 H1 e1 s1 (.bl _) q1⟩
  · exact q1.elim⟩
/-- unary minus -/
def dNeg (ta : DTE) : DTE := fun γ M Q => ta γ M fun x M1 => match x with
  | .int i => Q (.int (-i)) M1
  | _ => False
theorem de_neg (ha : DE X F0 a ta ta') : DE X F0 (.UnaryOp .USub a pos) (tUn (rU fun i => .int (-i)) ta) (dNeg ta') := ⟨pe_un un_neg ha.pe, fun F γ M σ H Q' Q e0 s g h k => by
  refine ha.le F γ M σ H _ _ e0 s g h fun F1 d1 v1 M1 H1 e1 s1 r1 q1 => ?_
  split at q1
  · cases r1
    exact ⟨_, rfl, k F1 _ _ M1 H1 e1 s1 (.int _) q1⟩
  · exact q1.elim⟩
/-- a value's truth -/
def truV (M : Mp) : D → Option Bool
  | .non => some false
  | .bl b => some b
  | .int i => some (i != 0)
  | .str z => if z.length ≤ sizeLine then some ((z.length : Int) != 0) else none
  | .lst l => some !l.isEmpty
  | .tup l => some !l.isEmpty
  | .kt l => some !l.isEmpty
  | .ref p => (match M p with
    | some (.lst l) => some !l.isEmpty
    | some (.dK l) => some !l.isEmpty
    | _ => none)
  | _ => none
def dTruth (t : DTE) : DTT := fun γ M Q => t γ M fun x M1 => ∃ k, truV M1 x = some k ∧ Q k M1
theorem isEmpty_rp {F : FZ} {l : List D} {xs : List V} (r : RpL K F l xs) : l.isEmpty = xs.isEmpty := by cases r <;> rfl
theorem dt_truth (ha : DE X F0 a ta ta') (he : ∀ whole, isTrue a X.env whole = (do let v ← whole; standAt a.pos; holding [v] (truthy v)) := by intro _; rfl) : DT X F0 a (fun σ H Q => ta σ H fun x H' => ∃ k, TruV X.K x H' k ∧ Q k H') (dTruth ta') := ⟨pt_truth ha.pe he, fun F γ M σ H Q' Q e0 s g h k => by
  refine ha.le F γ M σ H _ _ e0 s g h fun F1 d1 v1 M1 H1 e1 s1 r1 q1 => ?_
  obtain ⟨t, ht, q1⟩ := q1
  refine ⟨t, ?_, k F1 t M1 H1 e1 s1 q1⟩
  cases r1 with
  | non => cases ht; rfl
  | bl b => cases ht; rfl
  | int i => cases ht; rfl
  | str z =>
    simp only [truV] at ht
    split at ht
    · rename_i hz
      cases ht
      exact ⟨hz, rfl⟩
    · cases ht
  | lst a b => cases ht; exact .inl ⟨_, (SqL.of (s1.fz _ _ a)), by rw [isEmpty_rp b]⟩
  | tup a b => cases ht; exact .inr (.inl ⟨_, s1.sqT a, by rw [isEmpty_rp b]⟩)
  | kt a b => cases ht; exact .inr (.inl ⟨_, a.sqT, by rw [isEmpty_rp b]⟩)
  | ls a b => cases ht
  | ref p =>
    simp only [truV] at ht
    split at ht
    · rename_i hm
      cases ht
      obtain ⟨u, h1, h2⟩ := s1.mu p _ hm
      cases h2 with
      | lst b z => exact .inl ⟨_, SqL.of h1, by rw [isEmpty_rp b]⟩
    · rename_i hm
      cases ht
      obtain ⟨u, h1, h2⟩ := s1.mu p _ hm
      cases h2 with
      | dK b z => exact .inr (.inr ⟨_, h1, by cases b <;> rfl⟩)
    · cases ht
  | ty n => cases ht
  | dk a b => cases ht
  | dt a b => cases ht⟩

/-! ### in -/
/-- y in x -/
def inV' (M : Mp) (y : D) : D → Option Bool
  | .lst l => if y.ok 60 = true ∧ D.ok (.lst l) 60 = true then some (l.any fun z => D.eq z y) else none
  | .tup l => if y.ok 60 = true ∧ D.ok (.tup l) 60 = true then some (l.any fun z => D.eq z y) else none
  | .kt l => if y.ok 60 = true ∧ D.ok (.kt l) 60 = true then some (l.any fun z => D.eq z y) else none
  | .str z => (match y with
    | .str x => some (!(Builtin.Str.occurrences z x 0 z.length 1).isEmpty)
    | _ => none)
  | .ref p => (match M p with
    | some (.lst l) => if y.ok 60 = true ∧ D.ok (.lst l) 60 = true then some (l.any fun z => D.eq z y) else none
    | _ => (dLook M p y).map (·.isSome))
  | .dk ks l => (dkLook (.dk ks l) y).map (·.isSome)
  | .dt ks l => (dkLook (.dt ks l) y).map (·.isSome)
  | _ => none
def dIn (neg : Bool) : DR2 := fun y x M Q => ∃ k, inV' M y x = some k ∧ Q (.bl (if neg then !k else k)) M
def rInTD (K : PySem.W.Frag) : R2 := fun x y H Q => ∃ d ds, Dp K H x d ∧ Dp K H y (.tuple ds) ∧ SeqAt.shaped d = true ∧ SeqAt.shaped (.tuple ds) = true ∧ Q (.bl (ds.any fun z => PyData.eqv z d)) H
def rNotInTD (K : PySem.W.Frag) : R2 := fun x y H Q => ∃ d ds, Dp K H x d ∧ Dp K H y (.tuple ds) ∧ SeqAt.shaped d = true ∧ SeqAt.shaped (.tuple ds) = true ∧ Q (.bl (!ds.any fun z => PyData.eqv z d)) H
theorem op_inTD (hu : X.A.units + 65 < cLine) : OpR X (compareOp .In) (rInTD X.K) := by
  intro pins s σ H x y v u Q I rx ry h
  obtain ⟨d, ds, hd, he, sd, se, q⟩ := h
  obtain ⟨as, r1⟩ := Dp.reads I d x v hd rx
  obtain ⟨bs, r2⟩ := Dp.reads I (.tuple ds) y u he ry
  exact SeqAt.in_tuple_reads r2 r1 (by have := SeqAt.canLay_of_shaped se; simpa [PyData.canLay0] using this) (SeqAt.canLay_of_shaped sd) (room_in_shaped sd hu) ⟨.bl _, H, I, rfl, q⟩
theorem op_notInTD (hu : X.A.units + 65 < cLine) : OpR X (compareOp .NotIn) (rNotInTD X.K) := by
  intro pins s σ H x y v u Q I rx ry h
  obtain ⟨d, ds, hd, he, sd, se, q⟩ := h
  obtain ⟨as, r1⟩ := Dp.reads I d x v hd rx
  obtain ⟨bs, r2⟩ := Dp.reads I (.tuple ds) y u he ry
  exact SeqAt.notIn_tuple_reads r2 r1 (by have := SeqAt.canLay_of_shaped se; simpa [PyData.canLay0] using this) (SeqAt.canLay_of_shaped sd) (room_in_shaped sd hu) ⟨.bl _, H, I, rfl, q⟩
def rDIn (neg : Bool) : R2 := fun y x H Q => ∃ a o, x = .ref a ∧ DGet H a y o ∧ Q (.bl (if neg then !o.isSome else o.isSome)) H
theorem op_inDict (hu : X.A.units + 1 < cLine) : OpR X (compareOp .In) (rDIn false) := by
  intro pins s σ H y x iv u Q I ry rx h
  obtain ⟨a, ov, rfl, g, q⟩ := h
  obtain rfl : u = Value.ref a := rx
  exact d_in hu I g ry fun s3 I3 => ⟨.bl ov.isSome, H, I3, rfl, q⟩
theorem op_notInDict (hu : X.A.units + 1 < cLine) : OpR X (compareOp .NotIn) (rDIn true) := by
  intro pins s σ H y x iv u Q I ry rx h
  obtain ⟨a, ov, rfl, g, q⟩ := h
  obtain rfl : u = Value.ref a := rx
  exact d_notIn hu I g ry fun s3 I3 => ⟨.bl (!ov.isSome), H, I3, rfl, q⟩
def rInA (K : PySem.W.Frag) : R2 := fun x y H Q => rInD K x y H Q ∨ rInTD K x y H Q ∨ (∃ i j, x = .str i ∧ y = .str j ∧ Q (.bl (!(Builtin.Str.occurrences j i 0 j.length 1).isEmpty)) H) ∨ rDIn false x y H Q
def rNotInA (K : PySem.W.Frag) : R2 := fun x y H Q => rNotInD K x y H Q ∨ rNotInTD K x y H Q ∨ (∃ i j, x = .str i ∧ y = .str j ∧ Q (.bl (!(!(Builtin.Str.occurrences j i 0 j.length 1).isEmpty))) H) ∨ rDIn true x y H Q
theorem op_inA {n : Nat} (hr : Room n X.A) : OpR X (compareOp .In) (rInA X.K) := (op_inD (by have := hr.un; omega)).or ((op_inTD (by have := hr.un; omega)).or (op_in_str.or (op_inDict (hu_of hr))))
theorem op_notInA {n : Nat} (hr : Room n X.A) : OpR X (compareOp .NotIn) (rNotInA X.K) := (op_notInD (by have := hr.un; omega)).or ((op_notInTD (by have := hr.un; omega)).or (op_notin_str.or (op_notInDict (hu_of hr))))
theorem any_py (y : D) : ∀ l : List D, ((D.pyL l).any fun z => PyData.eqv z y.py) = l.any fun z => D.eq z y
  | [] => rfl
  | d :: l => by simp only [D.pyL, List.any_cons, any_py y l, D.eq]
theorem inV_cases {F : FZ} {M : Mp} {H : Hp} {y x : D} {v u : V} {k : Bool} (s : SR K F M H) (r1 : Rp K F y v) (r2 : Rp K F x u) (h : inV' M y x = some k) :
    (∃ d ds, Dp K H v d ∧ Dp K H u (.list ds) ∧ SeqAt.shaped d = true ∧ SeqAt.shaped (.list ds) = true ∧ k = ds.any fun z => PyData.eqv z d) ∨ (∃ d ds, Dp K H v d ∧ Dp K H u (.tuple ds) ∧ SeqAt.shaped d = true ∧ SeqAt.shaped (.tuple ds) = true ∧ k = ds.any fun z => PyData.eqv z d) ∨
      (∃ i j, v = .str i ∧ u = .str j ∧ k = (!(Builtin.Str.occurrences j i 0 j.length 1).isEmpty)) ∨ ∃ a o, u = .ref a ∧ DGet H a v o ∧ k = o.isSome := by
  cases r2 with
  | lst a b =>
    simp only [inV'] at h
    split at h
    · rename_i hok
      cases h
      have hp := Rp.dp (K := K) s.fz (.lst a b) hok.2
      simp only [D.py] at hp
      have sh := D.ok_shaped hok.2
      simp only [D.py] at sh
      exact .inl ⟨_, _, r1.dp s.fz hok.1, hp, D.ok_shaped hok.1, sh, by rw [any_py]⟩
    · cases h
  | tup a b =>
    simp only [inV'] at h
    split at h
    · rename_i hok
      cases h
      have hp := Rp.dp (K := K) s.fz (.tup a b) hok.2
      simp only [D.py] at hp
      have sh := D.ok_shaped hok.2
      simp only [D.py] at sh
      exact .inr (.inl ⟨_, _, r1.dp s.fz hok.1, hp, D.ok_shaped hok.1, sh, by rw [any_py]⟩)
    · cases h
  | kt a b =>
    simp only [inV'] at h
    split at h
    · rename_i hok
      cases h
      have hp := Rp.dp (K := K) s.fz (.kt a b) hok.2
      simp only [D.py] at hp
      have sh := D.ok_shaped hok.2
      simp only [D.py] at sh
      exact .inr (.inl ⟨_, _, r1.dp s.fz hok.1, hp, D.ok_shaped hok.1, sh, by rw [any_py]⟩)
    · cases h
  | str z =>
    simp only [inV'] at h
    split at h
    · cases r1
      cases h
      exact .inr (.inr (.inl ⟨_, _, rfl, rfl, rfl⟩))
    · cases h
  | ref p =>
    simp only [inV'] at h
    split at h
    · rename_i l hm
      split at h
      · rename_i hok
        cases h
        obtain ⟨w, h1, h2⟩ := s.mu p _ hm
        cases h2 with
        | lst b z =>
          have hp : Dp K H (.ref p) (D.lst l).py := by
            have hl : D.okL l 59 = true := by have := hok.2; simpa [D.ok] using this
            simp only [D.py]
            exact .lst (SqL.of h1) (RpL.dp s.fz b hl)
          simp only [D.py] at hp
          have sh := D.ok_shaped hok.2
          simp only [D.py] at sh
          exact .inl ⟨_, _, r1.dp s.fz hok.1, hp, D.ok_shaped hok.1, sh, by rw [any_py]⟩
      · cases h
    · obtain ⟨o, h1, h2⟩ := Option.map_eq_some_iff.mp h
      obtain ⟨o', g, c⟩ := dLook_get s r1 h1
      refine .inr (.inr (.inr ⟨p, o', rfl, g, ?_⟩))
      rcases c with ⟨z1, z2⟩ | ⟨d1, w, z1, z2, _⟩ <;> subst z1 z2 <;> exact h2.symm
  | dk a b =>
    simp only [inV'] at h
    obtain ⟨o, h1, h2⟩ := Option.map_eq_some_iff.mp h
    obtain ⟨p, o', ep, g, c⟩ := dkLook_get s (.dk a b) r1 h1
    refine .inr (.inr (.inr ⟨p, o', ep, g, ?_⟩))
    rcases c with ⟨z1, z2⟩ | ⟨d1, w, z1, z2, _⟩ <;> subst z1 z2 <;> exact h2.symm
  | dt a b =>
    simp only [inV'] at h
    obtain ⟨o, h1, h2⟩ := Option.map_eq_some_iff.mp h
    obtain ⟨p, o', ep, g, c⟩ := dkLook_get s (.dt a b) r1 h1
    refine .inr (.inr (.inr ⟨p, o', ep, g, ?_⟩))
    rcases c with ⟨z1, z2⟩ | ⟨d1, w, z1, z2, _⟩ <;> subst z1 z2 <;> exact h2.symm
  | _ => simp [inV'] at h
theorem l2_in : L2r K F0 (dIn false) (rInA K) := by
  intro F M H d e x y Q' Q e0 s r1 r2 q k
  obtain ⟨b, hb, q⟩ := q
  have kk := k F _ _ M H (FLe.refl F) s (.bl _) q
  rcases inV_cases s r1 r2 hb with ⟨d1, ds, h1, h2, h3, h4, h5⟩ | ⟨d1, ds, h1, h2, h3, h4, h5⟩ | ⟨i, j, h1, h2, h3⟩ | ⟨p, o, h1, h2, h3⟩
  · subst h5; exact .inl ⟨d1, ds, h1, h2, h3, h4, kk⟩
  · subst h5; exact .inr (.inl ⟨d1, ds, h1, h2, h3, h4, kk⟩)
  · subst h3; exact .inr (.inr (.inl ⟨i, j, h1, h2, kk⟩))
  · subst h3; exact .inr (.inr (.inr ⟨p, o, h1, h2, kk⟩))
theorem l2_notIn : L2r K F0 (dIn true) (rNotInA K) := by
  intro F M H d e x y Q' Q e0 s r1 r2 q k
  obtain ⟨b, hb, q⟩ := q
  have kk := k F _ _ M H (FLe.refl F) s (.bl _) q
  rcases inV_cases s r1 r2 hb with ⟨d1, ds, h1, h2, h3, h4, h5⟩ | ⟨d1, ds, h1, h2, h3, h4, h5⟩ | ⟨i, j, h1, h2, h3⟩ | ⟨p, o, h1, h2, h3⟩
  · subst h5; exact .inl ⟨d1, ds, h1, h2, h3, h4, kk⟩
  · subst h5; exact .inr (.inl ⟨d1, ds, h1, h2, h3, h4, kk⟩)
  · subst h3; exact .inr (.inr (.inl ⟨i, j, h1, h2, kk⟩))
  · subst h3; exact .inr (.inr (.inr ⟨p, o, h1, h2, kk⟩))
theorem de_in {n : Nat} (hr : Room n X.A) (ha : DE X F0 a ta ta') (hb : DE X F0 b tb tb') (hm : behindInMarks .In b = false := by rfl) : DE X F0 (.Compare a [.In] [b] pos) (tOp (rInA X.K) ta tb) (dOp (dIn false) ta' tb') := de_cmp (op_inA hr) l2_in ha hb hm
theorem de_notIn {n : Nat} (hr : Room n X.A) (ha : DE X F0 a ta ta') (hb : DE X F0 b tb tb') (hm : behindInMarks .NotIn b = false := by rfl) : DE X F0 (.Compare a [.NotIn] [b] pos) (tOp (rNotInA X.K) ta tb) (dOp (dIn true) ta' tb') := de_cmp (op_notInA hr) l2_notIn ha hb hm

/-! ### + of lists, tuples, texts; slices -/
def dCat : DR2 := fun x y M Q => match x, y with
  | .int i, .int j => Q (.int (i + j)) M
  | .str i, .str j => i.length + j.length ≤ sizeLine ∧ Q (.str (i ++ j)) M
  | .tup l, .tup m => l.length + m.length ≤ sizeLine ∧ Q (.tup (l ++ m)) M
  | _, _ => False
theorem rpl_app {F : FZ} {l m : List D} {xs ys : List V} (a : RpL K F l xs) (b : RpL K F m ys) : RpL K F (l ++ m) (xs ++ ys) := a.append b
def rCatX (K : PySem.W.Frag) : R2 := fun x y H Q => rI0 (fun i j => .int (i + j)) x y H Q ∨ (∃ i j, x = .str i ∧ y = .str j ∧ i.length + j.length ≤ sizeLine ∧ Q (.str (i ++ j)) H) ∨ rCatA K x y H Q
theorem op_catX : OpR X (binaryOp .Add) (rCatX X.K) := op_add.or (op_add_str.or op_catA)
theorem l2_cat : L2r K F0 dCat (rCatX K) := by
  intro F M H d e x y Q' Q e0 s r1 r2 q k
  unfold dCat at q
  split at q
  · cases r1; cases r2
    exact .inl ⟨_, _, rfl, rfl, k F _ _ M H (FLe.refl F) s (.int _) q⟩
  · cases r1; cases r2
    exact .inr (.inl ⟨_, _, rfl, rfl, q.1, k F _ _ M H (FLe.refl F) s (.str _) q.2⟩)
  · obtain ⟨hz, q⟩ := q
    cases r1 with
    | tup a1 b1 =>
      cases r2 with
      | tup a2 b2 =>
        rename_i xs _ ys
        have hz2 := hz
        rw [b1.length, b2.length] at hz2
        refine .inr (.inr ⟨_, _, _, _, rfl, rfl, s.sqT a1, s.sqT a2, hz2, fun e => ?_, fun h1 e => ?_, fun h1 h2 p hp => ?_⟩)
        · subst e
          cases b1
          exact k F _ _ M H (FLe.refl F) s (.tup a2 b2) q
        · subst e
          cases b2
          rw [List.append_nil] at q
          exact k F _ _ M H (FLe.refl F) s (.tup a1 b1) q
        · have e2 := same_upd (o := .tup (xs ++ ys)) (s.freeF hp)
          exact k _ _ _ _ _ e2 (s.newF hp (by show (xs ++ ys).length ≤ sizeLine; rw [List.length_append]; exact hz2)) (.tup upd_same ((b1.append b2).mono e2)) q
  · exact q.elim
theorem de_cat (ha : DE X F0 a ta ta') (hb : DE X F0 b tb tb') : DE X F0 (.BinOp a .Add b pos) (tOp (rCatX X.K) ta tb) (dOp dCat ta' tb') := de_op op_catX l2_cat ha hb
/-- the items of xs[lo:hi] -/
def cutD {α : Type} (xs : List α) (lo hi : Option Int) : List α := (xs.drop (HT.sIx xs.length 0 lo)).take (HT.sIx xs.length xs.length hi - HT.sIx xs.length 0 lo)
abbrev DTO := G → Mp → (Option Int → Mp → Prop) → Prop
def LO (K : PySem.W.Frag) (F0 : FZ) (t' : DTO) (t : TO) : Prop := ∀ (F : FZ) (γ : G) (M : Mp) (σ : L2.St) (H : Hp) (Q' : Option Int → Mp → Prop) (Q : Option Int → Hp → Prop), Bs F0 F → SR K F M H → GR K F γ σ → t' γ M Q' →
  (∀ F1 o M1 H1, FLe F F1 → SR K F1 M1 H1 → Q' o M1 → Q o H1) → t σ H Q
structure DO (X : Cx) (F0 : FZ) (e : Option Expr) (t : TO) (t' : DTO) : Prop where
  po : PO X e t
  le : LO X.K F0 t' t
def dNoPart : DTO := fun _ M Q => Q none M
def dPart (t : DTE) : DTO := fun γ M Q => t γ M fun x M1 => match x with
  | .int i => Q (some i) M1
  | _ => False
theorem do_none : DO X F0 none tNoPart dNoPart := ⟨po_none, fun F γ M σ H Q' Q e0 s g q k => k F none M H (FLe.refl F) s q⟩
theorem do_some (h : DE X F0 e te te') : DO X F0 (some e) (tPart te) (dPart te') := ⟨po_some h.pe, fun F γ M σ H Q' Q e0 s g q k => by
  refine h.le F γ M σ H _ _ e0 s g q fun F1 d1 v1 M1 H1 e1 s1 r1 q1 => ?_
  split at q1
  · cases r1
    exact ⟨_, rfl, k F1 _ M1 H1 e1 s1 q1⟩
  · exact q1.elim⟩
def dSl (te : DTE) (tl th : DTO) : DTE := fun γ M Q => te γ M fun x M1 => tl γ M1 fun l M2 => th γ M2 fun u M3 => match x with
  | .tup xs => Q (.tup (cutD xs l u)) M3
  | .lst xs => Q (.lst (cutD xs l u)) M3
  | .ls xs => Q (.lst (cutD xs l u)) M3
  | .ref p => (match M3 p with
    | some (.lst xs) => Q (.lst (cutD xs l u)) M3
    | _ => False)
  | _ => False
def dSlM (te : DTE) (tl th : DTO) : DTE := fun γ M Q => te γ M fun x M1 => tl γ M1 fun l M2 => th γ M2 fun u M3 => match x with
  | .lst xs => ∀ p, M3 p = none → Q (.ref p) (mset M3 p (.lst (cutD xs l u)))
  | .ls xs => ∀ p, M3 p = none → Q (.ref p) (mset M3 p (.lst (cutD xs l u)))
  | .ref p => (match M3 p with
    | some (.lst xs) => ∀ p, M3 p = none → Q (.ref p) (mset M3 p (.lst (cutD xs l u)))
    | _ => False)
  | _ => False
theorem cut_rp {F : FZ} {l : List D} {xs : List V} (r : RpL K F l xs) (lo hi : Option Int) : RpL K F (cutD l lo hi) (cutV xs lo hi) := by
  unfold cutD cutV
  rw [r.length]
  exact (r.drop _).take _
def rSlX' (K : PySem.W.Frag) : V → Option Int → Option Int → Hp → VK → Prop := fun x lo hi H Q => rSlA K x lo hi H Q ∨ rSlL K x lo hi H Q
theorem sl_X : SlR X (rSlX' X.K) := sl_tupA.or sl_list
theorem cutV_whole {xs : List V} {lo hi : Option Int} (h : HT.sIx xs.length 0 lo = 0 ∧ HT.sIx xs.length xs.length hi = xs.length) : cutV xs lo hi = xs := by
  unfold cutV
  rw [h.1, h.2]
  simp
theorem de_slice {lo hi : Option Expr} {tl th : TO} {tl' th' : DTO} {p2 : Pos} (he : DE X F0 e te te') (hl : DO X F0 lo tl tl') (hu : DO X F0 hi th th') : DE X F0 (.Subscript e (.Slice lo hi none p2) pos) (tSl (rSlX' X.K) te tl th) (dSl te' tl' th') := ⟨pe_slice sl_X he.pe hl.po hu.po, fun F γ M σ H Q' Q e0 s g q k => by
  refine he.le F γ M σ H _ _ e0 s g q fun F1 d1 v1 M1 H1 e1 s1 r1 q1 => ?_
  refine hl.le F1 γ M1 σ H1 _ _ (e0.tr e1) s1 (g.mono e1) q1 fun F2 l M2 H2 e2 s2 q2 => ?_
  refine hu.le F2 γ M2 σ H2 _ _ ((e0.tr e1).tr e2) s2 (g.mono (e1.trans e2)) q2 fun F3 u M3 H3 e3 s3 q3 => ?_
  have r3 := r1.mono (e2.trans e3)
  have ee := (e1.trans e2).trans e3
  split at q3
  · cases r3 with
    | tup a b =>
      rename_i xs
      refine .inl ⟨_, xs, rfl, s3.sqT a, fun w => ?_, fun w p hp => ?_⟩
      · have hc := cut_rp b l u
        rw [cutV_whole w] at hc
        exact k F3 _ _ M3 H3 ee s3 (.tup a hc) q3
      · have e4 := same_upd (o := .tup (cutV xs l u)) (s3.freeF hp)
        exact k _ _ _ _ _ (ee.trans e4) (s3.newF hp (Nat.le_trans (cutV_length xs l u) (s3.lenT a))) (.tup upd_same ((cut_rp b l u).mono e4)) q3
  · cases r3 with
    | lst a b =>
      rename_i xs
      refine .inr ⟨_, xs, rfl, (SqL.of (s3.fz _ _ a)), fun p hp => ?_⟩
      have e4 := same_upd (o := .lst (cutV xs l u)) (s3.freeF hp)
      exact k _ _ _ _ _ (ee.trans e4) (s3.newF hp (Nat.le_trans (cutV_length xs l u) (s3.lenL (SqL.of a)))) (.lst upd_same ((cut_rp b l u).mono e4)) q3
  · cases r3 with
    | ls a b =>
      rename_i xs
      refine .inr ⟨_, xs, rfl, s3.fz.seq a, fun p hp => ?_⟩
      have e4 := same_upd (o := .lst (cutV xs l u)) (s3.freeF hp)
      exact k _ _ _ _ _ (ee.trans e4) (s3.newF hp (Nat.le_trans (cutV_length xs l u) (s3.lenL a))) (.lst upd_same ((cut_rp b l u).mono e4)) q3
  · cases r3
    split at q3
    · rename_i hm
      obtain ⟨w, h1, h2⟩ := s3.mu _ _ hm
      cases h2 with
      | lst b z =>
        rename_i xs
        refine .inr ⟨_, xs, rfl, SqL.of h1, fun p hp => ?_⟩
        have e4 := same_upd (o := .lst (cutV xs l u)) (s3.freeF hp)
        exact k _ _ _ _ _ (ee.trans e4) (s3.newF hp (Nat.le_trans (cutV_length xs l u) z)) (.lst upd_same ((cut_rp b l u).mono e4)) q3
    · exact q3.elim
  · exact q3.elim⟩
theorem de_sliceM {lo hi : Option Expr} {tl th : TO} {tl' th' : DTO} {p2 : Pos} (he : DE X F0 e te te') (hl : DO X F0 lo tl tl') (hu : DO X F0 hi th th') : DE X F0 (.Subscript e (.Slice lo hi none p2) pos) (tSl (rSlX' X.K) te tl th) (dSlM te' tl' th') := ⟨pe_slice sl_X he.pe hl.po hu.po, fun F γ M σ H Q' Q e0 s g q k => by
  refine he.le F γ M σ H _ _ e0 s g q fun F1 d1 v1 M1 H1 e1 s1 r1 q1 => ?_
  refine hl.le F1 γ M1 σ H1 _ _ (e0.tr e1) s1 (g.mono e1) q1 fun F2 l M2 H2 e2 s2 q2 => ?_
  refine hu.le F2 γ M2 σ H2 _ _ ((e0.tr e1).tr e2) s2 (g.mono (e1.trans e2)) q2 fun F3 u M3 H3 e3 s3 q3 => ?_
  have r3 := r1.mono (e2.trans e3)
  have ee := (e1.trans e2).trans e3
  split at q3
  · cases r3 with
    | lst a b =>
      rename_i xs
      exact .inr ⟨_, xs, rfl, (SqL.of (s3.fz _ _ a)), fun p hp => k F3 _ _ _ _ ee (s3.putN hp (.lst (cut_rp b l u) (Nat.le_trans (cutV_length xs l u) (s3.lenL (SqL.of a))))) (.ref p) (q3 p (s3.freeM hp))⟩
  · cases r3 with
    | ls a b =>
      rename_i xs
      exact .inr ⟨_, xs, rfl, s3.fz.seq a, fun p hp => k F3 _ _ _ _ ee (s3.putN hp (.lst (cut_rp b l u) (Nat.le_trans (cutV_length xs l u) (s3.lenL a)))) (.ref p) (q3 p (s3.freeM hp))⟩
  · cases r3
    split at q3
    · rename_i hm
      obtain ⟨w, h1, h2⟩ := s3.mu _ _ hm
      cases h2 with
      | lst b z =>
        rename_i xs
        exact .inr ⟨_, xs, rfl, SqL.of h1, fun p hp => k F3 _ _ _ _ ee (s3.putN hp (.lst (cut_rp b l u) (Nat.le_trans (cutV_length xs l u) z))) (.ref p) (q3 p (s3.freeM hp))⟩
    · exact q3.elim
  · exact q3.elim⟩

/-! ### new dicts -/
def dNewK : DTE := fun _ M Q => ∀ p, M p = none → Q (.ref p) (mset M p (.dK []))
def dNewT : DTE := fun _ M Q => ∀ p, M p = none → Q (.ref p) (mset M p (.dT []))
theorem de_newK : DE X F0 (.Dict [] [] pos) tDNewK dNewK := ⟨pe_dnewK, fun F γ M σ H Q' Q e0 s g q k p hp => k F _ _ _ _ (FLe.refl F) (s.putN hp (.dK .nil (by simp))) (.ref p) (q p (s.freeM hp))⟩
theorem de_newT : DE X F0 (.Dict [] [] pos) tDNewT dNewT := ⟨pe_dnewT, fun F γ M σ H Q' Q e0 s g q k p hp => k F _ _ _ _ (FLe.refl F) (s.putN hp (.dT .nil (by simp) (fun _ h => by cases h))) (.ref p) (q p (s.freeM hp))⟩
end
end DL

set_option maxRecDepth 100000
set_option maxHeartbeats 2000000
namespace DL
open PySem PySem.Spec PyProof.Rows L2

/-! ### instances -/
def putD (f : Str) (v : D) : List (Str × D) → List (Str × D)
  | [] => [(f, v)]
  | (g, u) :: fs => if g = f then (g, v) :: fs else (g, u) :: putD f v fs
section
variable {K : PySem.W.Frag} {F : FZ} {M : Mp} {H : Hp}
theorem kvr_lookup {f : Str} {d : D} : ∀ {l : List (Str × D)} {m : List (Str × V)}, KVR K F l m → l.lookup f = some d → ∃ v, m.lookup f = some v ∧ Rp K F d v
  | _, _, .nil, h => by cases h
  | (g, e) :: l, (g2, v) :: m, .cons r t, h => by
    obtain ⟨e1, r⟩ := r
    simp only at e1 r
    subst e1
    rw [List.lookup_cons] at h ⊢
    cases hb : f == g with
    | true => rw [hb] at h; cases h; exact ⟨v, rfl, r⟩
    | false => rw [hb] at h; exact kvr_lookup t h
theorem kvr_putD {f : Str} {d : D} {v : V} (r : Rp K F d v) : ∀ {l : List (Str × D)} {m : List (Str × V)}, KVR K F l m → KVR K F (putD f d l) (putF f v m)
  | _, _, .nil => .cons ⟨rfl, r⟩ .nil
  | (g, e) :: l, (g2, u) :: m, .cons q t => by
    obtain ⟨e1, q⟩ := q
    simp only at e1 q
    subst e1
    show KVR K F (if g = f then (g, d) :: l else (g, e) :: putD f d l) (if g = f then (g, v) :: m else (g, u) :: putF f v m)
    by_cases h : g = f
    · rw [if_pos h, if_pos h]
      exact .cons ⟨rfl, r⟩ t
    · rw [if_neg h, if_neg h]
      exact .cons ⟨rfl, q⟩ (kvr_putD r t)
theorem SR.ins (s : SR K F M H) {p C : Addr} {fs : List (Str × D)} (h : M p = some (.ins C fs)) : ∃ dx gs, H p = some (.ins C dx gs) ∧ KVR K F fs gs := by
  obtain ⟨u, h1, h2⟩ := s.mu p _ h
  cases h2 with
  | ins r => exact ⟨_, _, h1, r⟩
end
section
variable {X : Cx} {K : PySem.W.Frag} {F0 : FZ} {e o value : Expr} {es : List Expr} {te to tv : TE} {te' to' tv' : DTE} {t : TA} {t' : DTA} {f : Str} {p pos pos' : Pos} {C : Addr}
def dFld (C : Addr) (ta : DTE) (f : Str) : DTE := fun γ M Q => ta γ M fun x M1 => match x with
  | .ref p => (match M1 p with
    | some (.ins C' fs) => C' = C ∧ ∃ d, fs.lookup f = some d ∧ Q d M1
    | _ => False)
  | _ => False
theorem de_fld (T : Cls X.K C) (n : NoAttr X.K C f) (he : DE X F0 e te te') (hb : attributeBase e f X.env (eval e X.env) = eval e X.env := by rfl) : DE X F0 (.Attribute e f pos) (tFld X.K te f) (dFld C te' f) := ⟨pe_fld he.pe hb, fun F γ M σ H Q' Q e0 s g q k => by
  refine he.le F γ M σ H _ _ e0 s g q fun F1 d1 v1 M1 H1 e1 s1 r1 q1 => ?_
  split at q1
  · rename_i p
    split at q1
    · rename_i C' fs hm
      obtain ⟨rfl, d, hl, q1⟩ := q1
      obtain ⟨dx, gs, h1, h2⟩ := s1.ins hm
      obtain ⟨v, hv, rv⟩ := kvr_lookup h2 hl
      cases r1
      exact ⟨p, C', dx, gs, v, rfl, h1, T, n, hv, k F1 d v M1 H1 e1 s1 rv q1⟩
    · exact q1.elim
  · exact q1.elim⟩
def dFldS (C : Addr) (ta tv : DTE) (f : Str) : DTS := fun D0 γ M => tv γ M fun y M1 => ta γ M1 fun x M2 => match x with
  | .ref p => (match M2 p with
    | some (.ins C' fs) => C' = C ∧ fs.length < 1000 ∧ D0.nx γ (mset M2 p (.ins C (putD f y fs)))
    | _ => False)
  | _ => False
theorem ds_fld (T : Cls X.K C) (n : NoAttr X.K C f) (ho : DE X F0 o to to') (hv : DE X F0 value tv tv') (hs : swapsWith value (some (.Attribute o f pos')) pos.line X.env = pure false := by rfl) : DS X F0 (.Assign [.Attribute o f pos'] value pos) (sFld X.K to tv f) (dFldS C to' tv' f) := ⟨ps_fld ho.pe hv.pe hs, fun F γ M σ H D' D0 e0 s g q er => by
  refine hv.le F γ M σ H _ _ e0 s g q fun F1 d1 v1 M1 H1 e1 s1 r1 q1 => ?_
  refine ho.le F1 γ M1 σ H1 _ _ (e0.tr e1) s1 (g.mono e1) q1 fun F2 d2 v2 M2 H2 e2 s2 r2 q2 => ?_
  split at q2
  · rename_i p
    split at q2
    · rename_i C' fs hm
      obtain ⟨rfl, hl, q2⟩ := q2
      obtain ⟨dx, gs, h1, h2⟩ := s2.ins hm
      cases r2
      exact ⟨p, C', dx, gs, rfl, h1, T, n, by rw [← kvr_len h2]; exact hl, er.nx F2 γ _ σ _ (e1.trans e2) (s2.putM hm (.ins (kvr_putD (r1.mono e2) h2))) (g.mono (e1.trans e2)) q2⟩
    · exact q2.elim
  · exact q2.elim⟩
def dMake (C : Addr) (sp : DSp) (E : DXK) (t : DTA) : DTE := fun γ M Q => t γ M fun ds M1 => ∀ p, M1 p = none → sp (.ref p :: ds) (mset M1 p (.ins C [])) (fun v M2 => v = .non ∧ Q (.ref p) M2) E
/-- a class as it is called -/
structure DMk (P : Program) (w : World) (K : PySem.W.Frag) (mg : Str → Option Value) (base : Heap) (CX : CXT) (k : Nat) (x : Str) (C : Addr) (sp : DSp) : Prop where
  ex : ∃ f fd ps, FnOk P w K mg base CX k f fd ps (liftSp K sp) ∧ mg x = some (.ref C) ∧ Mk K C f ∧ Binds K fd ps []
theorem le_make {sp : DSp} {E : DXK} (ha : LA K F0 t' t) : LE K F0 (dMake C sp E t') (tMake C (liftSp K sp) [] (lXa K E) t) := by
  intro F γ M σ H Q' Q e0 s g q k
  refine ha F γ M σ H _ _ e0 s g q fun F1 ds vs M1 H1 e1 s1 r1 q1 => ?_
  intro x dx hx hdx hne
  have s2 := s1.other (o := .own x) hdx
  have hx2 : (upd H1 dx (.own x)) x = none := by rw [upd_ne (Ne.symm hne)]; exact hx
  have s3 := s2.putN (o := .ins C []) (u := .ins C dx []) hx2 (.ins .nil)
  rw [List.append_nil]
  refine ⟨F1, .ref x :: ds, _, _, E, s3, .cons (.ref x) r1, q1 x (s1.freeM hx), fun F2 d v M2 H2 e2 s2 r2 q2 => ?_, fun c d H1 h => ⟨F1, h⟩⟩
  obtain ⟨rfl, q2⟩ := q2
  cases r2
  exact ⟨rfl, k F2 _ _ M2 H2 (e1.trans e2) s2 (.ref x) q2⟩
theorem de_make {CX : CXT} {k j : Nat} {x : Str} {sp : DSp} {E : DXK} (c : DMk X.prog X.w X.K X.mg X.base CX k x C sp) (hr : Room j X.A) (hx : GoesA CX X E) (ha : DA X F0 (e :: es) t t') (hk : k + 1 ≤ j := by decide) (hg : Gl X x := by rfl)
    (hdb : (x == ("__debug__" : Str)) = false := by decide) (he : starEach (e :: es) X.env = (false, eval e X.env) :: starEach es X.env := by rfl) (hpl : (backTo pos (starEach es X.env)).any (·.1) = false := by rfl) :
    DE X F0 (.Call (.Name x p) (e :: es) [] pos) (tMake C (liftSp X.K sp) [] (lXa X.K E) t) (dMake C sp E t') := by
  obtain ⟨f, fd, ps, G, hm, mk, hb⟩ := c.ex
  exact ⟨pe_make mk G (hr.mono hk) hg hm hb .nil hx.p ha.pa hdb he hpl, le_make ha.le⟩
def dProp (C : Addr) (sp : DSp) (E : DXK) (ta : DTE) : DTE := fun γ M Q => ta γ M fun x M1 => match x with
  | .ref p => (∃ fs, M1 p = some (.ins C fs)) ∧ sp [.ref p] M1 Q E
  | _ => False
/-- a property of a class -/
structure DPr (P : Program) (w : World) (K : PySem.W.Frag) (mg : Str → Option Value) (base : Heap) (k : Nat) (C : Addr) (f : Str) (sp : DSp) : Prop where
  ex : ∃ pa g fd ps, FnOk P w K mg base CX0 k g fd ps (liftSp K sp) ∧ PropOf K C f pa g ∧ Binds K fd ps []
theorem de_prop {k j : Nat} {sp : DSp} (T : Cls X.K C) (c : DPr X.prog X.w X.K X.mg X.base k C f sp) (hr : Room j X.A) (he : DE X F0 e te te') (hk : k + 1 ≤ j := by decide) (hb : attributeBase e f X.env (eval e X.env) = eval e X.env := by rfl) :
    DE X F0 (.Attribute e f pos) (tProp C (liftSp X.K sp) [] (lXa X.K DXK.no) te) (dProp C sp DXK.no te') := by
  obtain ⟨pa, g, fd, ps, G, pr, hbi⟩ := c.ex
  refine ⟨pe_prop he.pe T pr G (hr.mono hk) hbi .nil pass0' hb, fun F γ M σ H Q' Q e0 s g q k => ?_⟩
  refine he.le F γ M σ H _ _ e0 s g q fun F1 d1 v1 M1 H1 e1 s1 r1 q1 => ?_
  split at q1
  · rename_i p
    obtain ⟨⟨fs, hm⟩, q1⟩ := q1
    obtain ⟨dx, gs, h1, h2⟩ := s1.ins hm
    cases r1
    exact ⟨p, dx, gs, rfl, h1, F1, _, M1, _, _, s1, .cons (.ref p) .nil, q1, fun F2 d v M2 H2 e2 s2 r2 q2 => k F2 d v M2 H2 (e1.trans e2) s2 r2 q2, fun c d H1 h => ⟨F1, h⟩⟩
  · exact q1.elim
end
section
variable {P : Program} {w : World} {K : PySem.W.Frag} {mg : Str → Option Value} {base : Heap}
/-- a method of the text -/
structure DMet (K : PySem.W.Frag) (x qual : Str) (st : Stmt) (f : Addr) (ps : List Str) : Prop where
  ex : ∃ fd, Fun K x qual st f fd ∧ Binds K fd ps []
theorem dokM {x qual : Str} {st : Stmt} {f : Addr} {N ps : List Str} {k : Nat} {sp : DSp} (F : DMet K x qual st f ps) (S : FnScope N ps (defScope st)) (len : ∀ ds M Q E, sp ds M Q E → ds.length = ps.length)
    (hbody : ∀ (cdv : Value) (A : Around) (outer : List Env) (s : Shared) (H : Hp) (E : XK) (F0 : FZ), Room k (A.deeper (envOfC qual (defScope st) s.heap.objs.size f cdv)) →
      ∃ t t', DB (cxOf CX0 P w K mg base N qual (defScope st) f cdv A outer s H E).nox F0 (defBody st) t t' ∧ ∀ ds M Q' E', sp ds M Q' E' → t' { nx := fun _ M1 => fin Q' .non M1, rt := fin Q' } (dstart N ds) M) :
    ∃ fd, FnOk P w K mg base CX0 (k + 1) f fd ps (liftSp K sp) ∧ Binds K fd ps [] := by
  obtain ⟨fd, G, hb⟩ := F.ex
  refine ⟨fd, ?_, hb⟩
  refine G.ok S (fun vs H Q E h => ?_) (fun cdv A outer s H vs Q E hr h => ?_)
  · obtain ⟨F, ds, M, Q', E', _, r, q, _⟩ := h
    rw [← r.length]; exact len _ _ _ _ q
  · obtain ⟨F, ds, M, Q', E', s1, r, q, kq, _⟩ := h
    obtain ⟨t, t', d, h⟩ := hbody cdv A outer s H E F hr
    refine ⟨t, d.ps, d.le F (dstart N ds) M (L2.start N vs) H { nx := fun _ M1 => fin Q' .non M1, rt := fin Q' } { nx := fun _ H' => Q .non H', rt := Q } (Bs.refl _) s1 (gr_start r) (h ds M Q' E' q) ⟨?_, ?_, fun _ _ _ _ _ _ _ _ z => z.elim, fun _ _ _ _ _ _ _ _ z => z.elim⟩⟩
    · rintro F1 γ1 M1 σ1 H1 e1 s1 g1 ⟨M2, l, q⟩
      exact kq F1 .non .non M2 H1 e1 (s1.less l) .non q
    · rintro F1 d1 v1 M1 H1 e1 s1 r1 ⟨M2, l, q⟩
      exact kq F1 d1 v1 M2 H1 e1 (s1.less l) r1 q
end

/-! ### the law's own promise -/
def spLaw : DSp := fun ds M Q _ => ∃ ns : List Int, ds = [.ls (ns.map .int)] ∧ ns.length ≤ 63 ∧ (∀ a, M a = none) ∧ ∀ M', Q (.bl true) M'
theorem spLaw_len : ∀ ds M Q E, spLaw ds M Q E → ds.length = 1 := fun ds M Q E ⟨ns, e, _⟩ => by subst e; rfl
theorem law_sp {K : PySem.W.Frag} {H : Hp} {a : Addr} {ns : List Int} (hl : ns.length ≤ 63) (h : SqL K H a (ns.map V.int)) : liftSp K spLaw [.ref a] H (fun v _ => v = .bl true) fun _ _ _ => False := by
  have hz : (ns.map V.int).length ≤ sizeLine := by rw [List.length_map, sizeLine_eq]; omega
  have none_ok : ∀ (f : Hp), Same f H → (∀ b o, f b = some o → FzO o) → SR K ⟨f, fun _ => none, fun _ => none⟩ (fun _ => none) H := fun f e ok => ⟨e, ok, fun _ _ z => (by cases z), fun _ _ z => (by cases z), fun _ _ z => (by cases z), fun _ _ z => (by cases z), fun _ _ z => (by cases z), fun _ _ z => (by cases z)⟩
  have fin : ∀ f : Hp, SR K ⟨f, fun _ => none, fun _ => none⟩ (fun _ => none) H → SqL K f a (ns.map V.int) → liftSp K spLaw [.ref a] H (fun v _ => v = .bl true) fun _ _ _ => False := fun f s hq =>
    ⟨⟨f, fun _ => none, fun _ => none⟩, [.ls (ns.map .int)], fun _ => none, fun d _ => d = .bl true, DXK.no, s, .cons (.ls hq (RpL.ofInt ns)) .nil, ⟨ns, rfl, hl, fun _ => rfl, fun _ => rfl⟩, fun F1 d v M1 H1 e s r q => by subst q; cases r; rfl, fun c d H1 ⟨_, _, _, _, _, _, z⟩ => z⟩
  have one : ∀ o, H a = some o → FzO o → SqL K (fun b => if b = a then some o else none) a (ns.map V.int) → liftSp K spLaw [.ref a] H (fun v _ => v = .bl true) fun _ _ _ => False := fun o ho ok hq =>
    fin _ (none_ok _ (fun b u z => by
      by_cases hb : b = a
      · rw [if_pos hb] at z; cases z; rw [hb]; exact ho
      · rw [if_neg hb] at z; cases z) fun b u z => by
      by_cases hb : b = a
      · rw [if_pos hb] at z; cases z; exact ok
      · rw [if_neg hb] at z; cases z) hq
  rcases h with (h | ⟨o, h⟩) | h
  · exact one _ h hz (.inl (.inl (if_pos rfl)))
  · exact one _ h hz (.inl (.inr ⟨o, if_pos rfl⟩))
  · exact fin (fun _ => none) (none_ok _ (fun _ _ z => (by cases z)) fun _ _ z => (by cases z)) (.inr h)
end DL

set_option maxRecDepth 100000
set_option maxHeartbeats 2000000
namespace DL
open PySem PySem.Spec PyProof.Rows L2

section
variable {X : Cx} {K : PySem.W.Frag} {F0 : FZ} {a b e o i value : Expr} {ta tb te : TE} {ta' tb' te' : DTE} {pos : Pos} {n : Nat}
/-! ### comparisons as tests -/
theorem dt_lt (ha : DE X F0 a ta ta') (hb : DE X F0 b tb tb') : DT X F0 (.Compare a [.Lt] [b] pos) (tTest (tOp (rI0 fun i j => .bl (decide (i < j))) ta tb)) (dTest (dOp (dII fun i j => .bl (decide (i < j))) ta' tb')) := dt_cmp op_lt (l2_II fun _ _ _ => .bl _) ha hb (nomark _)
theorem dt_le (ha : DE X F0 a ta ta') (hb : DE X F0 b tb tb') : DT X F0 (.Compare a [.LtE] [b] pos) (tTest (tOp (rI0 fun i j => .bl (decide (i ≤ j))) ta tb)) (dTest (dOp (dII fun i j => .bl (decide (i ≤ j))) ta' tb')) := dt_cmp op_le (l2_II fun _ _ _ => .bl _) ha hb (nomark _)
theorem dt_gt (ha : DE X F0 a ta ta') (hb : DE X F0 b tb tb') : DT X F0 (.Compare a [.Gt] [b] pos) (tTest (tOp (rI0 fun i j => .bl (decide (j < i))) ta tb)) (dTest (dOp (dII fun i j => .bl (decide (j < i))) ta' tb')) := dt_cmp op_gt (l2_II fun _ _ _ => .bl _) ha hb (nomark _)
theorem dt_ge (ha : DE X F0 a ta ta') (hb : DE X F0 b tb tb') : DT X F0 (.Compare a [.GtE] [b] pos) (tTest (tOp (rI0 fun i j => .bl (decide (j ≤ i))) ta tb)) (dTest (dOp (dII fun i j => .bl (decide (j ≤ i))) ta' tb')) := dt_cmp op_ge (l2_II fun _ _ _ => .bl _) ha hb (nomark _)
theorem dt_eq (hr : Room n X.A) (ha : DE X F0 a ta ta') (hb : DE X F0 b tb tb') : DT X F0 (.Compare a [.Eq] [b] pos) (tTest (tOp (rEqD X.K) ta tb)) (dTest (dOp (dEq false) ta' tb')) := dt_cmp (op_eqD hr.units) l2_eq ha hb (nomark _)
theorem dt_ne (hr : Room n X.A) (ha : DE X F0 a ta ta') (hb : DE X F0 b tb tb') : DT X F0 (.Compare a [.NotEq] [b] pos) (tTest (tOp (rNeD X.K) ta tb)) (dTest (dOp (dEq true) ta' tb')) := dt_cmp (op_neD hr.units) l2_ne ha hb (nomark _)
theorem dt_isN (ha : DE X F0 a ta ta') (hb : DE X F0 b tb tb') : DT X F0 (.Compare a [.Is] [b] pos) (tTest (tOp (fun x y H Q => y = .non ∧ Q (.bl (decide (x = .non))) H) ta tb)) (dTest (dOp (dIsN false) ta' tb')) := dt_cmp op_isN l2_isN ha hb (nomark _)
theorem dt_notN (ha : DE X F0 a ta ta') (hb : DE X F0 b tb tb') : DT X F0 (.Compare a [.IsNot] [b] pos) (tTest (tOp (fun x y H Q => y = .non ∧ Q (.bl (!decide (x = .non))) H) ta tb)) (dTest (dOp (dIsN true) ta' tb')) := dt_cmp op_notN l2_notN ha hb (nomark _)
theorem dt_in (hr : Room n X.A) (ha : DE X F0 a ta ta') (hb : DE X F0 b tb tb') (hm : behindInMarks .In b = false := by rfl) : DT X F0 (.Compare a [.In] [b] pos) (tTest (tOp (rInA X.K) ta tb)) (dTest (dOp (dIn false) ta' tb')) := dt_cmp (op_inA hr) l2_in ha hb hm
theorem dt_notIn (hr : Room n X.A) (ha : DE X F0 a ta ta') (hb : DE X F0 b tb tb') (hm : behindInMarks .NotIn b = false := by rfl) : DT X F0 (.Compare a [.NotIn] [b] pos) (tTest (tOp (rNotInA X.K) ta tb)) (dTest (dOp (dIn true) ta' tb')) := dt_cmp (op_notInA hr) l2_notIn ha hb hm

/-! ### o[i] = e, o[i] op= e -/
theorem ds_put {to ti : TE} {to' ti' : DTE} {pos' : Pos} (hr : Room n X.A) (ho : DE X F0 o to to') (hi : DE X F0 i ti ti') (he : DE X F0 e te te') (hs : swapsWithSole [.Subscript o i pos'] e pos.line X.env = pure false := by rfl) (hw : swappedStores [.Subscript o i pos'] e X.env = pure none := by rfl)
    (h1 : (assignEach [.Subscript o i pos'] X.env).map (·.2) = [assign (.Subscript o i pos') X.env] := by rfl)
    (ha : ∀ v, assign (.Subscript o i pos') X.env v = (do
      let ov ← holding [v] (eval o X.env); let iv ← holding [v, ov] (eval i X.env)
      standAt pos'; holding [v, ov, iv] (setItem ov iv v); release [v, ov, iv] []) := by intro _; rfl) : DS X F0 (.Assign [.Subscript o i pos'] e pos) (tAsg te (gSub to ti rSetAny)) (dAsg te' (hSub to' ti' dSet)) := ds_asg he (dg_sub' hr ho hi ha) hs hw h1
def rGetAny : V → V → Hp → VK → Prop := fun x y H Q => ∃ a v, x = .ref a ∧ DGet H a y (some v) ∧ Q v H
theorem get_any (hu : X.A.units + 1 < cLine) : PGet X rGetAny := by
  intro pins s σ H o i ov iv Q I ro ri h
  obtain ⟨a, v, rfl, g, q⟩ := h
  obtain rfl : ov = Value.ref a := ro
  exact d_getItem hu I g ri fun w' s3 I3 rw' => ⟨v, H, I3, rw', q⟩
def dAugS (to ti te : DTE) (tip : DTIp) : DTS := fun D0 γ M => to γ M fun o M1 => match o with
  | .ref p => ti γ M1 fun i M2 => ∃ d, dLook M2 p i = some (some d) ∧ te γ M2 fun y M4 => tip d y M4 fun z M5 => ∃ M6, dStore M5 p i z = some M6 ∧ D0.nx γ M6
  | _ => False
theorem ds_augS {to ti : TE} {to' ti' : DTE} {op : Operator} {tip : TIp} {tip' : DTIp} {tpos : Pos} (hr : Room n X.A) (ho : DE X F0 o to to') (hi : DE X F0 i ti ti') (he : DE X F0 e te te') (hp : PIp X op tip) (hl : LIp X.K F0 tip' tip)
    (ha : ∀ ov iv new, augStore i ov iv new = (do holding [new, ov, iv] (setItem ov iv new); release [new, ov, iv] []; pure .next) := by intros; rfl) : DS X F0 (.AugAssign (.Subscript o i tpos) op e pos) (tAugS to ti te rGetAny tip rSetAny) (dAugS to' ti' te' tip') :=
  ⟨ps_augS ho.pe hi.pe (get_any (hu_of hr)) he.pe hp (set_any (hu_of hr)) ha, fun F γ M σ H D' D0 e0 s g q er => by
  refine ho.le F γ M σ H _ _ e0 s g q fun F1 d1 v1 M1 H1 e1 s1 r1 q1 => ?_
  split at q1
  · rename_i p
    refine hi.le F1 γ M1 σ H1 _ _ (e0.tr e1) s1 (g.mono e1) q1 fun F2 d2 v2 M2 H2 e2 s2 r2 q2 => ?_
    cases r1
    obtain ⟨d, hd, q2⟩ := q2
    obtain ⟨o', g2, c⟩ := dLook_get s2 r2 hd
    rcases c with ⟨z, _⟩ | ⟨d3, w, z1, z2, r3⟩
    · cases z
    cases z1
    subst z2
    refine ⟨p, w, rfl, g2, ?_⟩
    refine he.le F2 γ M2 σ H2 _ _ ((e0.tr e1).tr e2) s2 (g.mono (e1.trans e2)) q2 fun F4 d4 v4 M4 H4 e4 s4 r4 q4 => ?_
    refine hl F4 M4 H4 d d4 w v4 _ _ (((e0.tr e1).tr e2).tr e4) s4 (r3.mono e4) r4 q4 fun F5 d5 v5 M5 H5 e5 s5 r5 q5 => ?_
    obtain ⟨M6, h6, q6⟩ := q5
    have ee := ((e1.trans e2).trans e4).trans e5
    rcases dStore_put s5 (r2.mono (e4.trans e5)) r5 h6 with ⟨H', g6, s'⟩ | ⟨xs, kk, j, rfl, h2, h3, s'⟩
    · exact .inr ⟨p, H', rfl, g6, er.nx F5 γ M6 σ H' ee s' (g.mono ee) q6⟩
    · exact .inl ⟨p, xs, kk, j, rfl, rfl, h2, h3, er.nx F5 γ M6 σ _ ee s' (g.mono ee) q6⟩
  · exact q1.elim⟩
end

/-! ### comprehensions to be changed -/
theorem SR.own {K : PySem.W.Frag} {F : FZ} {M : Mp} {H : Hp} (s : SR K F M H) {p : Addr} {o : MO} {u : HO} (hf : F.f p = none) (hp : F.p p = none) (hd : F.d p = none) (h : H p = some u) (r : MR K F o u) : SR K F (mset M p o) H := by
  have e : upd H p u = H := by
    funext b
    by_cases hb : b = p
    · subst hb; rw [upd_same, h]
    · rw [upd_ne hb]
  have := s.put hf hp hd r
  rwa [e] at this
section
variable {X : Cx} {K : PySem.W.Frag} {F0 : FZ}
/-- the list that is told becomes one to be changed -/
def toM (Q : DK) : DK := fun d M => match d with
  | .lst l => ∀ p, M p = none → Q (.ref p) (mset M p (.lst l))
  | _ => False
def dLcM (wi : DTI) (g : DTG) (tt : DTT) (te : DTE) (vs : List Nat) : DTE := fun γ M Q => dLc wi g tt te vs γ M (toM Q)
theorem le_lcM {wi : TI} {wi' : DTI} {g : TG} {g' : DTG} {tt : TT} {tt' : DTT} {te : TE} {te' : DTE} {vs : List Nat} (hi : LI K F0 wi' wi) (hg : LG K F0 g' g) (hw : GW vs g) (ht : LT K F0 tt' tt) (he : LE K F0 te' te) :
    LE K F0 (dLcM wi' g' tt' te' vs) (tLc wi g tt te vs) := by
  intro F γ M σ H Q' Q e0 s gr q k
  refine hi F γ M σ H _ _ e0 s gr q fun F1 items J M1 H1 e1 s1 j1 q1 => ?_
  obtain ⟨hlen, I, h0, step, done⟩ := q1
  intro D hD
  have hDF := s1.freeF hD
  have hDM := s1.freeM hD
  have hDP := s1.freeP hD
  refine ⟨fun i m H => m = items.length - i ∧ i ≤ items.length ∧ LcW K F1 D I i H, ⟨items.length, by simp, Nat.zero_le _, ?_⟩, ?_⟩
  · refine ⟨F1, M1, [], [], FLe.refl _, s1.other hD, hDF, hDM, upd_same, .nil, Nat.le_refl _, h0⟩
  · rintro i m H2 ⟨rfl, hi2, F2, M2, acc, xs, e2, s2, dF, dM, hl, rl, al, i2⟩
    have dP : F2.p D = none := by rw [e2.e]; exact hDP
    by_cases hlt : i < items.length
    · have hd : items[i]? = some items[i] := List.getElem?_eq_getElem hlt
      have sh := s2.hide dF dM hl (fun _ z => by cases z) (s2.noL hl)
      obtain ⟨go, y⟩ := (j1 i (F2.hide D (.lst xs)) M2 H2 (bj_hide e2 hDP) sh).2 _ hd
      refine .inr ⟨go, LcW K F1 D I (i + 1), fun H' h => ⟨items.length - (i + 1), by omega, rfl, hlt, h⟩, fun x H3 yy => ?_⟩
      obtain ⟨F3, e3, s3, r3⟩ := y x H3 yy
      have b3 : Sm F2 F3 := e3.s
      have a3 : Bs F0 F3 := ⟨((e0.tr e1).tr e2).f.trans' b3, ((e0.tr e1).tr e2).p.trans (fun b o h => by rw [e3.e]; exact (upd_ne (ne_of_none h dP)).trans h)⟩
      have back : ∀ {F5 : FZ} {M5 : Mp} {H5 : Hp} (o : HO), FLe F3 F5 → SR K F5 M5 H5 → SR K ⟨F5.f, F2.p, F5.d⟩ M5 (upd H5 D o) ∧ H5 D = some (.lst xs) ∧ F5.f D = none ∧ M5 D = none := fun o e5 s5 =>
        s5.unhide (o := .lst xs) (by rw [e5.e, e3.e]; rfl) dP
      have step' := step i _ acc M2 hd i2
      have r0 : RpL K F3 acc xs := rl.monoS b3
      have lt1 : xs.length < sizeLine := by rw [← r0.length]; omega
      have main := hw x (wipe σ vs) H3 _ (hg F3 (dwipe γ vs) M2 (wipe σ vs) H3 _ x _ (fun σ2 H2 => tt σ2 H2 fun b H3 => if b = true then te σ2 H3 fun y H4 => ∃ acc, H4 D = some (.lst acc) ∧ acc.length < sizeLine ∧ LcW K F1 D I (i + 1) (upd H4 D (.lst (acc ++ [y]))) else LcW K F1 D I (i + 1) H3)
        a3 s3 (gr_wipe (gr.monoS ((e1.s.trans' e2.s).trans' b3)) vs) r3 step' fun F4 γ4 M4 σ4 H4 e4 s4 g4 q4 =>
        ht F4 γ4 M4 σ4 H4 _ _ (a3.tr e4) s4 g4 q4 fun F5 b M5 H5 e5 s5 q5 => by
          cases b with
          | false =>
            obtain ⟨z1, z2, z3, z4⟩ := back (.lst xs) (e4.trans e5) s5
            have eq : upd H5 D (.lst xs) = H5 := by
              funext b
              by_cases hb : b = D
              · subst hb; rw [upd_same, z2]
              · rw [upd_ne hb]
            rw [eq] at z1
            exact ⟨⟨F5.f, F2.p, F5.d⟩, M5, acc, xs, ⟨(e2.s.trans' b3).trans' (e4.trans e5).s, e2.e⟩, z1, z3, z4, z2, RpL.monoS (F := F3) (F' := ⟨F5.f, F2.p, F5.d⟩) (e4.trans e5).s r0, Nat.le_succ_of_le al, q5⟩
          | true =>
            refine he F5 γ4 M5 σ4 H5 _ _ ((a3.tr e4).tr e5) s5 (g4.mono e5) q5 fun F6 d v M6 H6 e6 s6 r6 q6 => ?_
            obtain ⟨z1, z2, z3, z4⟩ := back (.lst (xs ++ [v])) ((e4.trans e5).trans e6) s6
            refine ⟨xs, z2, lt1, ⟨F6.f, F2.p, F6.d⟩, M6, acc ++ [d], xs ++ [v], ⟨(e2.s.trans' b3).trans' ((e4.trans e5).trans e6).s, e2.e⟩, z1, z3, z4, upd_same, RpL.append (RpL.monoS (F := F3) (F' := ⟨F6.f, F2.p, F6.d⟩) ((e4.trans e5).trans e6).s r0) (.cons (Rp.monoS (F := F6) (F' := ⟨F6.f, F2.p, F6.d⟩) Sm.rfl' r6) .nil), ?_, q6⟩
            rw [List.length_append]
            simp
            omega)
      rw [wipe_wipe] at main
      exact main
    · have e : i = items.length := by omega
      subst e
      refine .inl ⟨((j1 items.length F2 M2 H2 e2.bj s2).1 (Nat.le_refl _)), ?_⟩
      have hz : xs.length ≤ sizeLine := by rw [← rl.length]; omega
      have s3 := s2.own (o := .lst acc) dF (by rw [e2.e]; exact hDP) (s2.noL0 hl) hl (.lst rl hz)
      exact k F2 (.ref D) (.ref D) _ H2 (e1.trans e2) s3 (.ref D) (done acc M2 i2 D dM)
theorem de_lcM {elt tg iter : Expr} {ifs : List Expr} {scope : Scope} {own : List (Str × Nat)} {pos : Pos} {wi : TI} {wi' : DTI} {g : TG} {g' : DTG} {tt : TT} {tt' : DTT} {te : TE} {te' : DTE} (hc : X.calm = true) (hN : X.N.Nodup) (hi : DI X F0 tg iter wi wi') (ok : BlkOk X.N X.env.scope scope own) (hw : GW (own.map (·.2)) g)
    (hg : ∀ (s : Shared) (H : Hp) (C : Addr) (cl : List (Str × Addr)) (fp : List Addr), DG (X.blk s H scope (compEnvC scope cl C X.env) fp) F0 tg g g') (ht : ∀ (s : Shared) (H : Hp) (C : Addr) (cl : List (Str × Addr)) (fp : List Addr), DTs (X.blk s H scope (compEnvC scope cl C X.env) fp) F0 ifs tt tt')
    (he : ∀ (s : Shared) (H : Hp) (C : Addr) (cl : List (Str × Addr)) (fp : List Addr), DE (X.blk s H scope (compEnvC scope cl C X.env) fp) F0 elt te te') (hs : ∀ x, foldedSetIterable iter X.env x = pure x := by intro _; rfl) (s0 : Shared) :
    DE X F0 (.ListComp elt [⟨tg, iter, ifs, 0⟩] scope pos) (tLc wi g tt te (own.map (·.2))) (dLcM wi' g' tt' te' (own.map (·.2))) :=
  ⟨pe_lc hc hN hi.pi ok (fun s H C cl fp => (hg s H C cl fp).pg) (fun s H C cl fp => (ht s H C cl fp).pt) (fun s H C cl fp => (he s H C cl fp).pe) hs,
    le_lcM hi.le (hg s0 (fun _ => none) 0 [] []).le hw (ht s0 (fun _ => none) 0 [] []).le (he s0 (fun _ => none) 0 [] []).le⟩

theorem ds_setLc (i : Nat) {y : Str} {py : Pos} {elt tg iter : Expr} {ifs : List Expr} {scope : Scope} {own : List (Str × Nat)} {pos spos : Pos} {wi : TI} {wi' : DTI} {g : TG} {g' : DTG} {tt : TT} {tt' : DTT} {te : TE} {te' : DTE} (hc : X.calm = true) (hN : X.N.Nodup)
    (hsw : swapsWith (.ListComp elt [⟨tg, iter, ifs, 0⟩] scope pos) (some (.Name y py)) spos.line X.env = pure true) (hi : DI X F0 tg iter wi wi') (ok : BlkOk X.N X.env.scope scope own) (hw : GW (own.map (·.2)) g)
    (hg : ∀ (s : Shared) (H : Hp) (C : Addr) (cl : List (Str × Addr)) (fp : List Addr), DG (X.blk s H scope (compEnvC scope cl C X.env) fp) F0 tg g g') (ht : ∀ (s : Shared) (H : Hp) (C : Addr) (cl : List (Str × Addr)) (fp : List Addr), DTs (X.blk s H scope (compEnvC scope cl C X.env) fp) F0 ifs tt tt')
    (he : ∀ (s : Shared) (H : Hp) (C : Addr) (cl : List (Str × Addr)) (fp : List Addr), DE (X.blk s H scope (compEnvC scope cl C X.env) fp) F0 elt te te') (s0 : Shared) (hs : ∀ x, foldedSetIterable iter X.env x = pure x := by intro _; rfl) (hy : X.N[i]? = some y := by rfl) (hyl : X.env.scope.names.lookup y = some .local := by rfl) :
    DS X F0 (.Assign [.Name y py] (.ListComp elt [⟨tg, iter, ifs, 0⟩] scope pos) spos) (tAsg (tLc wi g tt te (own.map (·.2))) (gName i)) (dAsg (dLc wi' g' tt' te' (own.map (·.2))) (hName i)) :=
  ⟨ps_setLc hc hN hy hyl hsw hi.pi ok (fun s H C cl fp => (hg s H C cl fp).pg) (fun s H C cl fp => (ht s H C cl fp).pt) (fun s H C cl fp => (he s H C cl fp).pe) hs,
    ls_asg (le_lc hi.le (hg s0 (fun _ => none) 0 [] []).le hw (ht s0 (fun _ => none) 0 [] []).le (he s0 (fun _ => none) 0 [] []).le) (dg_name (X := X) (F0 := F0) (pos := pos) i hN hy (Or.inl hyl) (.inr hyl)).le⟩

theorem ds_setLcM (i : Nat) {y : Str} {py : Pos} {elt tg iter : Expr} {ifs : List Expr} {scope : Scope} {own : List (Str × Nat)} {pos spos : Pos} {wi : TI} {wi' : DTI} {g : TG} {g' : DTG} {tt : TT} {tt' : DTT} {te : TE} {te' : DTE} (hc : X.calm = true) (hN : X.N.Nodup)
    (hsw : swapsWith (.ListComp elt [⟨tg, iter, ifs, 0⟩] scope pos) (some (.Name y py)) spos.line X.env = pure true) (hi : DI X F0 tg iter wi wi') (ok : BlkOk X.N X.env.scope scope own) (hw : GW (own.map (·.2)) g)
    (hg : ∀ (s : Shared) (H : Hp) (C : Addr) (cl : List (Str × Addr)) (fp : List Addr), DG (X.blk s H scope (compEnvC scope cl C X.env) fp) F0 tg g g') (ht : ∀ (s : Shared) (H : Hp) (C : Addr) (cl : List (Str × Addr)) (fp : List Addr), DTs (X.blk s H scope (compEnvC scope cl C X.env) fp) F0 ifs tt tt')
    (he : ∀ (s : Shared) (H : Hp) (C : Addr) (cl : List (Str × Addr)) (fp : List Addr), DE (X.blk s H scope (compEnvC scope cl C X.env) fp) F0 elt te te') (s0 : Shared) (hs : ∀ x, foldedSetIterable iter X.env x = pure x := by intro _; rfl) (hy : X.N[i]? = some y := by rfl) (hyl : X.env.scope.names.lookup y = some .local := by rfl) :
    DS X F0 (.Assign [.Name y py] (.ListComp elt [⟨tg, iter, ifs, 0⟩] scope pos) spos) (tAsg (tLc wi g tt te (own.map (·.2))) (gName i)) (dAsg (dLcM wi' g' tt' te' (own.map (·.2))) (hName i)) :=
  ⟨ps_setLc hc hN hy hyl hsw hi.pi ok (fun s H C cl fp => (hg s H C cl fp).pg) (fun s H C cl fp => (ht s H C cl fp).pt) (fun s H C cl fp => (he s H C cl fp).pe) hs,
    ls_asg (le_lcM hi.le (hg s0 (fun _ => none) 0 [] []).le hw (ht s0 (fun _ => none) 0 [] []).le (he s0 (fun _ => none) 0 [] []).le) (dg_name (X := X) (F0 := F0) (pos := pos) i hN hy (Or.inl hyl) (.inr hyl)).le⟩

end

/-! ### dict displays -/
abbrev DPP := G → Mp → (List (Key × D) → Mp → Prop) → Prop
def LPP (K : PySem.W.Frag) (F0 : FZ) (t' : DPP) (trs : List (TE × TE)) : Prop := ∀ (F : FZ) (γ : G) (M : Mp) (σ : L2.St) (H : Hp) (Q' : List (Key × D) → Mp → Prop) (Q : List (V × V) → Hp → Prop), Bs F0 F → SR K F M H → GR K F γ σ → t' γ M Q' →
  (∀ F1 l m M1 H1, FLe F F1 → SR K F1 M1 H1 → KVR K F1 l m → Q' l M1 → Q (m.map fun kv => (kV kv.1, kv.2)) H1) → tPairs trs σ H Q
structure DPPs (X : Cx) (F0 : FZ) (pos : Pos) (keys : List (Option Expr)) (values : List Expr) (trs : List (TE × TE)) (t' : DPP) : Prop where
  pp : PPs X pos keys values trs
  le : LPP X.K F0 t' trs
def dppNil : DPP := fun _ M Q => Q [] M
def dppCons (tk tv : DTE) (r : DPP) : DPP := fun γ M Q => tk γ M fun x M1 => ∃ k, keyOf x = some k ∧ tv γ M1 fun y M2 => r γ M2 fun l M3 => Q ((k, y) :: l) M3
section
variable {X : Cx} {K : PySem.W.Frag} {F0 : FZ} {pos : Pos}
theorem dpp_nil : DPPs X F0 pos [] [] [] dppNil := ⟨pps_nil, fun F γ M σ H Q' Q e0 s g q k => k F [] [] M H (FLe.refl F) s .nil q⟩
theorem dpp_cons {k v : Expr} {ks : List (Option Expr)} {vs : List Expr} {tk tv : TE} {tk' tv' : DTE} {trs : List (TE × TE)} {r' : DPP} (hk : DE X F0 k tk tk') (hv : DE X F0 v tv tv') (hr : DPPs X F0 pos ks vs trs r') : DPPs X F0 pos (some k :: ks) (v :: vs) ((tk, tv) :: trs) (dppCons tk' tv' r') := ⟨pps_cons hk.pe hv.pe hr.pp, fun F γ M σ H Q' Q e0 s g q kk => by
  refine hk.le F γ M σ H _ _ e0 s g q fun F1 d1 v1 M1 H1 e1 s1 r1 q1 => ?_
  obtain ⟨k, hk, q1⟩ := q1
  refine hv.le F1 γ M1 σ H1 _ _ (e0.tr e1) s1 (g.mono e1) q1 fun F2 d2 v2 M2 H2 e2 s2 r2 q2 => ?_
  refine hr.le F2 γ M2 σ H2 _ _ ((e0.tr e1).tr e2) s2 (g.mono (e1.trans e2)) q2 fun F3 l m M3 H3 e3 s3 r3 q3 => ?_
  have hx := keyOf_rp r1 hk
  subst hx
  exact kk F3 ((k, d2) :: l) ((k, v2) :: m) M3 H3 ((e1.trans e2).trans e3) s3 (.cons ⟨rfl, r2.mono e3⟩ r3) q3⟩
def dMerge : List (Key × D) → List (Key × D) → List (Key × D)
  | l, [] => l
  | l, (k, d) :: r => dMerge (dput l k d) r
theorem kvr_merge {F : FZ} : ∀ {l' : List (Key × D)} {m' : List (Key × V)} {l : List (Key × D)} {m : List (Key × V)}, KVR K F l m → KVR K F l' m' → KVR K F (dMerge l l') (mergeK m m')
  | _, _, _, _, h, .nil => h
  | (k, d) :: l', (k2, v) :: m', l, m, h, .cons q t => by
    obtain ⟨e, q⟩ := q
    simp only at e q
    subst e
    show KVR K F (dMerge (dput l k d) l') (mergeK (putK m k v) m')
    exact kvr_merge (kvr_put q h) t
def dDisp (t : DPP) : DTE := fun γ M Q => ∀ p, M p = none → t γ M fun l M2 => M2 p = none → l.length ≤ 15 ∧ Q (.ref p) (mset M2 p (.dK (dMerge [] l)))
theorem SR.noM {F : FZ} {M : Mp} {H : Hp} (s : SR K F M H) {p : Addr} {u : HO} (e : F.p p = some u) : M p = none := (s.pf p u e).2.1
theorem de_disp {keys : List (Option Expr)} {values : List Expr} {trs : List (TE × TE)} {t' : DPP} (h : DPPs X F0 pos keys values trs t') (hall : keys.all (·.isSome) = true := by rfl) (hl : keys.length = values.length := by rfl) (h0 : keys ≠ [] := by exact fun h => nomatch h)
    (h15 : keys.length ≤ 15 := by decide) : DE X F0 (.Dict keys values pos) (tDisp trs) (dDisp t') := ⟨pe_disp h.pp hall hl h0 h15, fun F γ M σ H Q' Q e0 s g q k => by
  intro p hp
  have hF := s.freeF hp
  have hM := s.freeM hp
  have hP := s.freeP hp
  have s1 := (s.other (o := .dK []) hp)
  have sh := s1.hide hF hM upd_same (fun _ z => by cases z) (fun u e => by rw [s.freeD hp] at e; cases e)
  refine h.le (F.hide p (.dK [])) γ M σ _ _ _ ⟨e0.f, e0.p.trans fun b o h => (upd_ne (ne_of_none h hP)).trans h⟩ sh (GR.monoS (F := F) (F' := F.hide p (.dK [])) (Sm.rfl' (F := F)) g) (q p hM) fun F1 l m M1 H1 e1 s2 r2 q2 => ?_
  have hdn : F1.d p = none := s2.hidD (o := .dK []) (by rw [e1.e]; exact upd_same) (fun _ _ z => nomatch z)
  obtain ⟨z1, z2, z3, z4⟩ := s2.unhide (u := .dK (mergeK [] m)) (o := .dK []) (q := F.p) (by rw [e1.e]; rfl) hP
  obtain ⟨h15, q2⟩ := q2 z4
  refine ⟨z2, m, rfl, by rw [← kvr_len r2]; exact h15, ?_⟩
  have hz : (mergeK [] m).length ≤ sizeLine := by
    have := length_mergeK m []
    rw [List.length_nil, ← kvr_len r2] at this
    rw [sizeLine_eq]; omega
  have r3 : KVR X.K ⟨F1.f, F.p, F1.d⟩ (dMerge [] l) (mergeK [] m) := kvr_merge .nil (r2.monoS (F := F1) (F' := ⟨F1.f, F.p, F1.d⟩) Sm.rfl')
  exact k ⟨F1.f, F.p, F1.d⟩ (.ref p) (.ref p) _ _ ⟨e1.s, rfl⟩ (z1.own (o := .dK (dMerge [] l)) z3 hP hdn upd_same (.dK r3 hz)) (.ref p) q2⟩
end

/-! ### lists: +, *, clear, extend -/
def lstOf (M : Mp) : D → Option (List D)
  | .lst l => some l
  | .ref p => (match M p with
    | some (.lst l) => some l
    | _ => none)
  | _ => none
section
variable {X : Cx} {K : PySem.W.Frag} {F0 : FZ} {a b e o : Expr} {ta tb te to : TE} {ta' tb' te' to' : DTE} {pos apos cpos : Pos}
theorem lst_of {F : FZ} {M : Mp} {H : Hp} {d : D} {v : V} {l : List D} (s : SR K F M H) (r : Rp K F d v) (h : lstOf M d = some l) : ∃ p xs, v = .ref p ∧ H p = some (.lst xs) ∧ RpL K F l xs ∧ xs.length ≤ sizeLine := by
  cases r with
  | lst a b => simp only [lstOf, Option.some.injEq] at h; subst h; exact ⟨_, _, rfl, s.fz _ _ a, b, s.ok _ _ a⟩
  | ref p =>
    simp only [lstOf] at h
    split at h
    · rename_i hm
      cases h
      obtain ⟨u, h1, h2⟩ := s.mu p _ hm
      cases h2 with
      | lst b z => exact ⟨_, _, rfl, h1, b, z⟩
    · cases h
  | _ => simp [lstOf] at h
def dCatL : DR2 := fun x y M Q => ∃ l m, lstOf M x = some l ∧ lstOf M y = some m ∧ l.length + m.length ≤ sizeLine ∧ Q (.lst (l ++ m)) M
def dCatLM : DR2 := fun x y M Q => dCatL x y M (toM Q)
theorem l2_catL : L2r K F0 dCatL rCat := by
  intro F M H d e x y Q' Q e0 s r1 r2 q k
  obtain ⟨l, m, h1, h2, hz, q⟩ := q
  obtain ⟨p1, xs, rfl, a1, b1, _⟩ := lst_of s r1 h1
  obtain ⟨p2, ys, rfl, a2, b2, _⟩ := lst_of s r2 h2
  rw [b1.length, b2.length] at hz
  refine ⟨p1, p2, xs, ys, rfl, rfl, a1, a2, hz, fun p hp => ?_⟩
  have e2 := same_upd (o := .lst (xs ++ ys)) (s.freeF hp)
  exact k _ _ _ _ _ e2 (s.newF hp (by show (xs ++ ys).length ≤ sizeLine; rw [List.length_append]; exact hz)) (.lst upd_same ((b1.append b2).mono e2)) q
theorem l2_catLM : L2r K F0 dCatLM rCat := by
  intro F M H d e x y Q' Q e0 s r1 r2 q k
  obtain ⟨l, m, h1, h2, hz, q⟩ := q
  obtain ⟨p1, xs, rfl, a1, b1, _⟩ := lst_of s r1 h1
  obtain ⟨p2, ys, rfl, a2, b2, _⟩ := lst_of s r2 h2
  rw [b1.length, b2.length] at hz
  exact ⟨p1, p2, xs, ys, rfl, rfl, a1, a2, hz, fun p hp => k F _ _ _ _ (FLe.refl F) (s.putN hp (.lst (b1.append b2) (by rw [List.length_append]; exact hz))) (.ref p) (q p (s.freeM hp))⟩
theorem de_catL (ha : DE X F0 a ta ta') (hb : DE X F0 b tb tb') : DE X F0 (.BinOp a .Add b pos) (tOp rCat ta tb) (dOp dCatL ta' tb') := de_op op_cat l2_catL ha hb
theorem de_catLM (ha : DE X F0 a ta ta') (hb : DE X F0 b tb tb') : DE X F0 (.BinOp a .Add b pos) (tOp rCat ta tb) (dOp dCatLM ta' tb') := de_op op_cat l2_catLM ha hb
def dRep : DR2 := fun x y M Q => match y with
  | .int k => ∃ l, lstOf M x = some l ∧ -(2 ^ 63) ≤ k ∧ k < 2 ^ 63 ∧ l.length * k.toNat ≤ sizeLine ∧ Q (.lst (List.replicate k.toNat l).flatten) M
  | _ => False
def dRepM : DR2 := fun x y M Q => dRep x y M (toM Q)
theorem rep_rp {F : FZ} {l : List D} {xs : List V} (r : RpL K F l xs) : ∀ n : Nat, RpL K F (List.replicate n l).flatten (List.replicate n xs).flatten
  | 0 => .nil
  | n + 1 => by
    rw [List.replicate_succ, List.replicate_succ, List.flatten_cons, List.flatten_cons]
    exact r.append (rep_rp r n)
theorem rep_len {α : Type} (l : List α) : ∀ n : Nat, (List.replicate n l).flatten.length = l.length * n
  | 0 => by simp
  | n + 1 => by rw [List.replicate_succ, List.flatten_cons, List.length_append, rep_len l n, Nat.mul_succ, Nat.add_comm]
theorem l2_rep : L2r K F0 dRep rRep := by
  intro F M H d e x y Q' Q e0 s r1 r2 q k
  unfold dRep at q
  split at q
  · rename_i kk
    obtain ⟨l, h1, h2, h3, hz, q⟩ := q
    obtain ⟨p1, xs, rfl, a1, b1, _⟩ := lst_of s r1 h1
    cases r2
    rw [b1.length] at hz
    refine ⟨p1, kk, xs, rfl, rfl, a1, h2, h3, hz, fun p hp => ?_⟩
    have e2 := same_upd (o := .lst (List.replicate kk.toNat xs).flatten) (s.freeF hp)
    exact k _ _ _ _ _ e2 (s.newF hp (by show (List.replicate kk.toNat xs).flatten.length ≤ sizeLine; rw [rep_len]; exact hz)) (.lst upd_same ((rep_rp b1 _).mono e2)) q
  · exact q.elim
theorem l2_repM : L2r K F0 dRepM rRep := by
  intro F M H d e x y Q' Q e0 s r1 r2 q k
  unfold dRepM dRep at q
  split at q
  · rename_i kk
    obtain ⟨l, h1, h2, h3, hz, q⟩ := q
    obtain ⟨p1, xs, rfl, a1, b1, _⟩ := lst_of s r1 h1
    cases r2
    rw [b1.length] at hz
    exact ⟨p1, kk, xs, rfl, rfl, a1, h2, h3, hz, fun p hp => k F _ _ _ _ (FLe.refl F) (s.putN hp (.lst (rep_rp b1 _) (by rw [rep_len]; exact hz))) (.ref p) (q p (s.freeM hp))⟩
  · exact q.elim
theorem de_rep (ha : DE X F0 a ta ta') (hb : DE X F0 b tb tb') : DE X F0 (.BinOp a .Mult b pos) (tOp rRep ta tb) (dOp dRep ta' tb') := de_op op_rep l2_rep ha hb
theorem de_repM (ha : DE X F0 a ta ta') (hb : DE X F0 b tb tb') : DE X F0 (.BinOp a .Mult b pos) (tOp rRep ta tb) (dOp dRepM ta' tb') := de_op op_rep l2_repM ha hb
def dClear : DRM := fun x ds M Q => match x, ds with
  | .ref p, [] => (match M p with
    | some (.lst _) => Q .non (mset M p (.lst []))
    | _ => False)
  | _, _ => False
theorem lm_clear : LM K F0 dClear rClear := by
  intro F M H o x ds vs Q' Q e0 s r rs q k
  unfold dClear at q
  split at q
  · split at q
    · rename_i hm
      obtain ⟨u, h1, h2⟩ := s.mu _ _ hm
      cases h2 with
      | lst b z =>
        cases r
        cases rs
        exact ⟨_, _, rfl, rfl, h1, k F _ _ _ _ (FLe.refl F) (s.putM hm (.lst .nil (Nat.zero_le _))) .non q⟩
    · exact q.elim
  · exact q.elim
theorem de_clear (ho : DE X F0 o to to') (hbase : attributeBase o "clear" X.env (eval o X.env) = eval o X.env := by rfl) (hline : (apos.endLine == cpos.line) = true := by rfl) : DE X F0 (.Call (.Attribute o "clear" apos) [] [] cpos) (tBM0 X.K "list" rClear to) (dBM0 "list" dClear to') :=
  de_bm0 PySem.F.plainAttrs_list PySem.F.slot_list_clear PySem.F.type_list_clear mt_clear lm_clear ho (by decide) hbase hline
def dExtend : DRM := fun x ds M Q => match x, ds with
  | .ref p, [d] => (match M p with
    | some (.lst l) => ∃ m, lstOf M d = some m ∧ l.length + m.length ≤ sizeLine ∧ Q .non (mset M p (.lst (l ++ m)))
    | _ => False)
  | _, _ => False
theorem lm_extend : LM K F0 dExtend rExtend := by
  intro F M H o x ds vs Q' Q e0 s r rs q k
  unfold dExtend at q
  split at q
  · split at q
    · rename_i hm
      obtain ⟨m, h3, hz, q⟩ := q
      obtain ⟨u, h1, h2⟩ := s.mu _ _ hm
      cases h2 with
      | lst b z =>
        cases r
        cases rs with
        | cons r1 r2 =>
          cases r2
          obtain ⟨p2, ys, rfl, a2, b2, _⟩ := lst_of s r1 h3
          rw [b.length, b2.length] at hz
          exact ⟨_, _, _, _, rfl, rfl, h1, a2, hz, k F _ _ _ _ (FLe.refl F) (s.putM hm (.lst (b.append b2) (by rw [List.length_append]; exact hz))) .non q⟩
    · exact q.elim
  · exact q.elim
theorem de_extend {t : TA} {t' : DTA} (ho : DE X F0 o to to') (ha : DA X F0 [e] t t') (hbase : attributeBase o "extend" X.env (eval o X.env) = eval o X.env := by rfl)
    (hfew : ((backTo cpos (starEach [e] X.env)).all (fun x => !x.1) && (backToKw cpos (keywordEach [] X.env)).all (fun x => x.1.isSome) && decide ([e].length + ([] : List Keyword).length + (if ([] : List Keyword).isEmpty then 0 else 1) < 30)) = true := by rfl)
    (hline : (apos.endLine == cpos.line) = true := by rfl) (hs : starEach [e] X.env = (false, eval e X.env) :: starEach [] X.env := by rfl) : DE X F0 (.Call (.Attribute o "extend" apos) [e] [] cpos) (tBM X.K "list" rExtend to t) (dBM "list" dExtend to' t') :=
  de_bm PySem.F.plainAttrs_list PySem.F.slot_list_extend PySem.F.type_list_extend mt_extend lm_extend ho ha (by decide) hbase hfew hline hs rfl

/-! ### sorted, list(range(..)) -/
theorem de_sortI {t : TA} {t' : DTA} {p : Pos} (hm : X.mg "sorted" = none) (ha : DA X F0 [e] t t') (hc : X.calm = true := by rfl) (hg : Gl X "sorted" := by rfl) (he : starEach [e] X.env = (false, eval e X.env) :: starEach [] X.env := by rfl) : DE X F0 (.Call (.Name "sorted" p) [e] [] pos) (tCB (rSortedI X.K) t) (dCB dSortI t') :=
  de_blt cr_sortedI lc_sortI hm ha (by decide +kernel) hg (by decide) (by decide) he rfl
theorem de_sortP {t : TA} {t' : DTA} {p : Pos} (hm : X.mg "sorted" = none) (ha : DA X F0 [e] t t') (hc : X.calm = true := by rfl) (hg : Gl X "sorted" := by rfl) (he : starEach [e] X.env = (false, eval e X.env) :: starEach [] X.env := by rfl) : DE X F0 (.Call (.Name "sorted" p) [e] [] pos) (tCB (rSortedPO X.K) t) (dCB dSortP t') :=
  de_blt cr_sortedPO lc_sortP hm ha (by decide +kernel) hg (by decide) (by decide) he rfl
abbrev DRg := G → Mp → (Int → Int → Mp → Prop) → Prop
structure DR (X : Cx) (F0 : FZ) (e : Expr) (t : L2.St → Hp → (Int → Int → Hp → Prop) → Prop) (t' : DRg) : Prop where
  pr : PRg X e t
  le : ∀ (F : FZ) (γ : G) (M : Mp) (σ : L2.St) (H : Hp) (Q' : Int → Int → Mp → Prop) (Q : Int → Int → Hp → Prop), Bs F0 F → SR X.K F M H → GR X.K F γ σ → t' γ M Q' → (∀ F1 i j M1 H1, FLe F F1 → SR X.K F1 M1 H1 → Q' i j M1 → Q i j H1) → t σ H Q
def dRg1 (ta : DTE) : DRg := fun γ M Q => ta γ M fun x M1 => match x with
  | .int n => Q 0 n M1
  | _ => False
def dRg2 (ta tb : DTE) : DRg := fun γ M Q => ta γ M fun x M1 => tb γ M1 fun y M2 => match x, y with
  | .int i, .int j => Q i j M2
  | _, _ => False
theorem drg_1 {p : Pos} (hm : X.mg "range" = none) (ha : DE X F0 a ta ta') (hg : Gl X "range" := by rfl) (na : starEach [a] X.env = (false, eval a X.env) :: starEach [] X.env := by rfl) : DR X F0 (.Call (.Name "range" p) [a] [] pos) (tRg1 ta) (dRg1 ta') := ⟨prg_1 hg hm ha.pe na, fun F γ M σ H Q' Q e0 s g q k => by
  refine ha.le F γ M σ H _ _ e0 s g q fun F1 d1 v1 M1 H1 e1 s1 r1 q1 => ?_
  split at q1
  · cases r1
    exact ⟨_, rfl, k F1 _ _ M1 H1 e1 s1 q1⟩
  · exact q1.elim⟩
theorem drg_2 {p : Pos} (hm : X.mg "range" = none) (ha : DE X F0 a ta ta') (hb : DE X F0 b tb tb') (hg : Gl X "range" := by rfl) (na : starEach [a, b] X.env = (false, eval a X.env) :: starEach [b] X.env := by rfl)
    (nb : starEach [b] X.env = (false, eval b X.env) :: starEach [] X.env := by rfl) (hp : (backTo pos (starEach [b] X.env)).any (·.1) = false := by rfl) : DR X F0 (.Call (.Name "range" p) [a, b] [] pos) (tRg2 ta tb) (dRg2 ta' tb') := ⟨prg_2 hg hm ha.pe hb.pe na nb hp, fun F γ M σ H Q' Q e0 s g q k => by
  refine ha.le F γ M σ H _ _ e0 s g q fun F1 d1 v1 M1 H1 e1 s1 r1 q1 => ?_
  refine hb.le F1 γ M1 σ H1 _ _ (e0.tr e1) s1 (g.mono e1) q1 fun F2 d2 v2 M2 H2 e2 s2 r2 q2 => ?_
  split at q2
  · cases r1
    cases r2
    exact ⟨_, _, rfl, rfl, k F2 _ _ M2 H2 (e1.trans e2) s2 q2⟩
  · exact q2.elim⟩
def rgL (i j : Int) : List D := ((List.range (j - i).toNat).map fun (k : Nat) => i + (k : Int)).map D.int
theorem rg_rp {F : FZ} (i j : Int) : RpL K F (rgL i j) (rgV i j) := by
  have e : rgV i j = ((List.range (j - i).toNat).map fun (k : Nat) => i + (k : Int)).map V.int := by rw [rgV, List.map_map]; rfl
  rw [e]
  exact RpL.ofInt _
theorem rg_len {i j : Int} (h : RgOk i j) : (rgV i j).length ≤ sizeLine := by
  rw [rgV_length, sizeLine_eq]
  have := h.2.2.2.2
  omega
def dLstRg (t : DRg) : DTE := fun γ M Q => t γ M fun i j M1 => RgOk i j ∧ Q (.lst (rgL i j)) M1
def dLstRgM (t : DRg) : DTE := fun γ M Q => dLstRg t γ M (toM Q)
def dTupRg (t : DRg) : DTE := fun γ M Q => t γ M fun i j M1 => RgOk i j ∧ Q (.tup (rgL i j)) M1
variable {tr : L2.St → Hp → (Int → Int → Hp → Prop) → Prop} {tr' : DRg}
theorem de_listRg {p : Pos} (hm : X.mg "list" = none) (he : DR X F0 e tr tr') (hc : X.calm = true := by rfl) (hg : Gl X "list" := by rfl) (na : starEach [e] X.env = (false, eval e X.env) :: starEach [] X.env := by rfl) : DE X F0 (.Call (.Name "list" p) [e] [] pos) (tLstRg tr) (dLstRg tr') := ⟨pe_listRg hc hg hm he.pr na, fun F γ M σ H Q' Q e0 s g q k => by
  refine he.le F γ M σ H _ _ e0 s g q fun F1 i j M1 H1 e1 s1 q1 => ⟨q1.1, fun p hp => ?_⟩
  have e2 := same_upd (o := .lst (rgV i j)) (s1.freeF hp)
  exact k _ _ _ _ _ (e1.trans e2) (s1.newF hp (rg_len q1.1)) (.lst upd_same (rg_rp i j)) q1.2⟩
theorem de_listRgM {p : Pos} (hm : X.mg "list" = none) (he : DR X F0 e tr tr') (hc : X.calm = true := by rfl) (hg : Gl X "list" := by rfl) (na : starEach [e] X.env = (false, eval e X.env) :: starEach [] X.env := by rfl) : DE X F0 (.Call (.Name "list" p) [e] [] pos) (tLstRg tr) (dLstRgM tr') := ⟨pe_listRg hc hg hm he.pr na, fun F γ M σ H Q' Q e0 s g q k => by
  refine he.le F γ M σ H _ _ e0 s g q fun F1 i j M1 H1 e1 s1 q1 => ⟨q1.1, fun p hp => ?_⟩
  exact k F1 _ _ _ _ e1 (s1.putN hp (.lst (rg_rp i j) (rg_len q1.1))) (.ref p) (q1.2 p (s1.freeM hp))⟩
theorem de_tupRg {p : Pos} (hm : X.mg "tuple" = none) (he : DR X F0 e tr tr') (hc : X.calm = true := by rfl) (hg : Gl X "tuple" := by rfl) (na : starEach [e] X.env = (false, eval e X.env) :: starEach [] X.env := by rfl) : DE X F0 (.Call (.Name "tuple" p) [e] [] pos) (tTupRg tr) (dTupRg tr') := ⟨pe_tupRg hc hg hm he.pr na, fun F γ M σ H Q' Q e0 s g q k => by
  refine he.le F γ M σ H _ _ e0 s g q fun F1 i j M1 H1 e1 s1 q1 => ⟨q1.1, fun p hp => ?_⟩
  have e2 := same_upd (o := .tup (rgV i j)) (s1.freeF hp)
  exact k _ _ _ _ _ (e1.trans e2) (s1.newF hp (rg_len q1.1)) (.tup upd_same (rg_rp i j)) q1.2⟩
end

/-! ### comprehensions that only tell -/
theorem dLcI_map {g : DTG} {te : DTE} {vs : List Nat} {γ : G} {items : List D} {M : Mp} {Q : DK} (f : D → D) (h : ∀ (i : Nat) (d : D), items[i]? = some d → ∀ Q2 : DK, Q2 (f d) M → g d (dwipe γ vs) M fun γ2 M2 => te γ2 M2 Q2) (q : Q (.lst (items.map f)) M) : dLcI g dYes te vs γ items M Q := by
  refine ⟨fun i acc M' => M' = M ∧ acc = (items.take i).map f, ⟨rfl, by simp⟩, ?_, ?_⟩
  · rintro i d acc M' hd ⟨rfl, rfl⟩
    refine h i d hd _ ⟨rfl, ?_⟩
    have hlt := (List.getElem?_eq_some_iff.mp hd).1
    rw [List.take_add_one, hd]
    simp
  · rintro acc M' ⟨rfl, rfl⟩
    rw [List.take_length]
    exact q
theorem dLcI_filter {g : DTG} {tt : DTT} {te : DTE} {vs : List Nat} {γ : G} {items : List D} {M : Mp} {Q : DK} (c : D → Bool) (f : D → D) (h : ∀ (i : Nat) (d : D), items[i]? = some d → ∀ Q2 : Bool → DK, (c d = false → Q2 false .non M) → (c d = true → Q2 true (f d) M) → g d (dwipe γ vs) M fun γ2 M2 => tt γ2 M2 fun b M3 => if b = true then te γ2 M3 (Q2 true) else Q2 false .non M3) (q : Q (.lst ((items.filter c).map f)) M) : dLcI g tt te vs γ items M Q := by
  refine ⟨fun i acc M' => M' = M ∧ acc = ((items.take i).filter c).map f, ⟨rfl, by simp⟩, ?_, ?_⟩
  · rintro i d acc M' hd ⟨rfl, rfl⟩
    have hlt := (List.getElem?_eq_some_iff.mp hd).1
    have := h i d hd (fun b y M4 => if b = true then M4 = M' ∧ ((items.take i).filter c).map f ++ [y] = ((items.take (i + 1)).filter c).map f else M4 = M' ∧ ((items.take i).filter c).map f = ((items.take (i + 1)).filter c).map f) (fun e => ?_) (fun e => ?_)
    · simpa using this
    · rw [if_neg (by simp), List.take_add_one, hd]
      simp [e]
    · rw [if_pos rfl, List.take_add_one, hd]
      simp [e]
  · rintro acc M' ⟨rfl, rfl⟩
    rw [List.take_length]
    exact q
end DL

set_option maxRecDepth 100000
set_option maxHeartbeats 2000000
namespace DL
open PySem PySem.Spec PyProof.Rows L2

theorem fin_self {Q : DK} {d : D} {M : Mp} (q : Q d M) : fin Q d M := ⟨M, fun _ _ h => h, q⟩
theorem fin_less {Q : DK} {d : D} {M M2 : Mp} (l : MLe M2 M) (q : Q d M2) : fin Q d M := ⟨M2, l, q⟩

/-! ### the type of a thing -/
def D.isInt : D → Bool
  | .int _ => true
  | _ => false
def D.isBl : D → Bool
  | .bl _ => true
  | _ => false
theorem isiT_tab : ∀ T ∈ (["NoneType", "str", "list", "tuple", "dict"] : List String), isiT T "int" = false ∧ isiT T "bool" = false := by decide +kernel
theorem ty_int {M : Mp} {d : D} {T : String} (h : tyN M d = some T) : isiT T "int" = (d.isInt || d.isBl) ∧ isiT T "bool" = d.isBl := by
  have key : T ∈ (["NoneType", "str", "list", "tuple", "dict"] : List String) → isiT T "int" = false ∧ isiT T "bool" = false := isiT_tab T
  cases d with
  | int i => cases h; exact (by decide +kernel : isiT "int" "int" = true ∧ isiT "int" "bool" = false)
  | bl i => cases h; exact (by decide +kernel : isiT "bool" "int" = true ∧ isiT "bool" "bool" = true)
  | ref p =>
    simp only [D.isInt, D.isBl, Bool.or_self]
    apply key
    simp only [tyN] at h
    split at h <;> first
      | (cases h; done)
      | (cases h; decide +kernel)
  | ty n => cases h
  | ls n => cases h
  | dt a b => cases h
  | _ => cases h; exact key (by decide +kernel)
def D.within : D → Int → Int → Bool
  | .int i, a, b => decide (a ≤ i) && decide (i ≤ b)
  | _, _, _ => false

/-! ### ints in order -/
def srt (l : List Int) : List Int := l.mergeSort fun a b => decide (a ≤ b)
theorem srt_perm (l : List Int) : (srt l).Perm l := List.mergeSort_perm _ _
theorem srt_pw (l : List Int) : (srt l).Pairwise (· ≤ ·) := by
  have h := List.pairwise_mergeSort (le := fun a b : Int => decide (a ≤ b)) (fun a b c h1 h2 => by simp only [decide_eq_true_eq] at *; omega) (fun a b => by simp only [Bool.or_eq_true, decide_eq_true_eq]; omega) l
  exact h.imp fun h => by simpa using h
theorem pw_uniq : ∀ {l m : List Int}, l.Perm m → l.Pairwise (· ≤ ·) → m.Pairwise (· ≤ ·) → l = m
  | [], m, h, _, _ => (List.Perm.eq_nil h.symm).symm
  | x :: l, [], h, _, _ => absurd (List.Perm.eq_nil h) (by simp)
  | x :: l, y :: m, h, h1, h2 => by
    rw [List.pairwise_cons] at h1 h2
    have a : x ≤ y := by
      have : y ∈ x :: l := h.mem_iff.mpr List.mem_cons_self
      rcases List.mem_cons.mp this with e | e
      · omega
      · exact h1.1 y e
    have b : y ≤ x := by
      have : x ∈ y :: m := h.mem_iff.mp List.mem_cons_self
      rcases List.mem_cons.mp this with e | e
      · omega
      · exact h2.1 x e
    have e : x = y := by omega
    subst e
    rw [pw_uniq (List.Perm.cons_inv h) h1.2 h2.2]
theorem srt_uniq {l m : List Int} (h : l.Perm m) (hp : l.Pairwise (· ≤ ·)) : l = srt m := pw_uniq (h.trans (srt_perm m).symm) hp (srt_pw m)
theorem srt_congr {l m : List Int} (h : l.Perm m) : srt l = srt m := srt_uniq ((srt_perm l).trans h) (srt_pw l)
theorem srt_length (l : List Int) : (srt l).length = l.length := (srt_perm l).length_eq
theorem srt_mem {l : List Int} {x : Int} : x ∈ srt l ↔ x ∈ l := (srt_perm l).mem_iff
theorem dSortI_srt {d : D} {M : Mp} {Q : DK} (ns : List Int) (hd : d = .lst (ns.map .int) ∨ ∃ p, d = .ref p ∧ M p = some (.lst (ns.map .int))) (q : Q (.lst ((srt ns).map .int)) M) : dSortI [d] M Q :=
  ⟨ns, hd, fun ns' h1 h2 => by rw [srt_uniq h1 h2]; exact q⟩

/-! ### plain data -/
theorem ok_int (i : Int) (n : Nat) : D.ok (.int i) n = true := by cases n <;> rfl
theorem okL_int (ns : List Int) (n : Nat) : D.okL (ns.map .int) n = true := okL_iff.mpr fun d h => by
  obtain ⟨i, _, rfl⟩ := List.mem_map.mp h
  exact ok_int i n
theorem ok_pr (p : Int × Int) (n : Nat) : D.ok (prD p) (n + 1) = true := by
  show D.okL [.int p.1, .int p.2] n = true
  exact okL_int [p.1, p.2] n
theorem okL_pr (ps : List (Int × Int)) (n : Nat) : D.okL (ps.map prD) (n + 1) = true := okL_iff.mpr fun d h => by
  obtain ⟨i, _, rfl⟩ := List.mem_map.mp h
  exact ok_pr i n
theorem eqL_int : ∀ (l m : List Int), D.eqL (l.map .int) (m.map .int) = decide (l = m)
  | [], [] => by simp
  | [], _ :: _ => by simp
  | _ :: _, [] => by simp
  | x :: l, y :: m => by
    rw [List.map_cons, List.map_cons, D.eqL_cons, D.eq_int, eqL_int l m]
    by_cases e : x = y
    · subst e; simp
    · simp [e]
theorem eq_pr (p q : Int × Int) : D.eq (prD p) (prD q) = decide (p = q) := by
  obtain ⟨a, b⟩ := p
  obtain ⟨c, d⟩ := q
  simp only [prD, D.eq_tup, D.eqL_cons, D.eqL_nil, D.eq_int, Bool.and_true, Prod.mk.injEq]
  by_cases e : a = c <;> by_cases f : b = d <;> simp [e, f]
theorem eqL_pr : ∀ (l m : List (Int × Int)), D.eqL (l.map prD) (m.map prD) = decide (l = m)
  | [], [] => by simp
  | [], _ :: _ => by simp
  | _ :: _, [] => by simp
  | x :: l, y :: m => by
    rw [List.map_cons, List.map_cons, D.eqL_cons, eq_pr, eqL_pr l m]
    by_cases e : x = y
    · subst e; simp
    · simp [e]
theorem any_int (l : List Int) (i : Int) : ((l.map D.int).any fun z => D.eq z (.int i)) = decide (i ∈ l) := by
  induction l with
  | nil => rfl
  | cons x l ih =>
    rw [List.map_cons, List.any_cons, ih, D.eq_int]
    by_cases e : x = i
    · subst e; simp
    · have e2 : ¬ i = x := fun z => e z.symm
      simp [e, e2]

/-! ### >= of tuples of ints -/
def intsOf : List D → Option (List Int)
  | [] => some []
  | .int i :: r => (intsOf r).map fun l => i :: l
  | _ => none
theorem ints_rp {K : PySem.W.Frag} {F : FZ} : ∀ {l : List D} {xs : List V} {ns : List Int}, RpL K F l xs → intsOf l = some ns → xs = ns.map V.int
  | _, _, ns, .nil, h => by simp [intsOf] at h; subst h; rfl
  | _, _, ns, .cons r t, h => by
    cases r with
    | int i =>
      simp only [intsOf] at h
      obtain ⟨m, h1, h2⟩ := Option.map_eq_some_iff.mp h
      subst h2
      rw [ints_rp t h1]; rfl
    | _ => simp [intsOf] at h
def geL (ns ms : List Int) : Bool := Ob.lexAt (fun j => decide (ns.getD j 0 = ms.getD j 0)) (fun j => decide (ms.getD j 0 ≤ ns.getD j 0)) (decide (ns.length ≥ ms.length)) 0 (min ns.length ms.length)
theorem geL_two (a b c d : Int) : geL [a, b] [c, d] = decide (c < a ∨ (a = c ∧ d ≤ b)) := by
  have e : geL [a, b] [c, d] = if decide (a = c) = true then (if decide (b = d) = true then true else decide (d ≤ b)) else decide (c ≤ a) := rfl
  rw [e]
  by_cases h1 : a = c
  · by_cases h2 : b = d
    · simp [h1, h2]
    · simp [h1, h2]
  · simp [h1]; omega
def rGeT (K : PySem.W.Frag) : R2 := fun x y H Q => ∃ (a b : Addr) (ns ms : List Int), x = .ref a ∧ y = .ref b ∧ SqT K H a (ns.map V.int) ∧ SqT K H b (ms.map V.int) ∧ Q (.bl (geL ns ms)) H
theorem op_geT {X : Cx} (hu : X.A.units < cLine) : OpR X (compareOp .GtE) (rGeT X.K) := by
  rintro pins s σ H x y v u Q I rx ry ⟨a, b, ns, ms, rfl, rfl, ha, hb, q⟩
  cases rx; cases ry
  obtain ⟨its, r1, p1, _⟩ := I.tuple ha; obtain ⟨its2, r2, p2, _⟩ := I.tuple hb
  have i1 := Vals.ints r1; have i2 := Vals.ints r2
  have e1 := i1.length; have e2 := i2.length
  have at1 : ∀ j (h : j < its.toArray.size), ∃ t, its.toArray[j] = .int (ns.getD j 0) t := fun j h => i1.int_at _ _ (by simp at h; simp [h])
  have at2 : ∀ j (h : j < its2.toArray.size), ∃ t, its2.toArray[j] = .int (ms.getD j 0) t := fun j h => i2.int_at _ _ (by simp at h; simp [h])
  have R := Ob.RcOp.tuples_ge (A := X.A) (s := s) (e := fun j => decide (ns.getD j 0 = ms.getD j 0)) (r := fun j => decide (ms.getD j 0 ≤ ns.getD j 0)) p1 p2 hu (fun j h1 h2 => by
      obtain ⟨t, z1⟩ := at1 j h1; obtain ⟨t', z2⟩ := at2 j h2
      have z : (ns.getD j 0 == ms.getD j 0) = decide (ns.getD j 0 = ms.getD j 0) := Bool.beq_eq_decide_eq _ _
      rw [z1, z2, ← z]; exact SeqAt.EqAt.int_int _ _ _ _)
    (fun j h1 h2 _ => by
      obtain ⟨t, z1⟩ := at1 j h1; obtain ⟨t', z2⟩ := at2 j h2
      rw [z1, z2]; exact Ob.RcOp.ge_int _ _ _ _)
  simp only [List.size_toArray, e1, e2] at R
  exact (R X.prog X.w X.xe (EP X pins σ Q) ⟨.bl _, H, I, rfl, q⟩ : wpAny (model X.prog X.w) X.A (compareOp .GtE (.ref a) (.ref b)) (EP X pins σ Q) X.xe s)
def dGeT : DR2 := fun x y M Q => match x, y with
  | .tup l, .tup m => ∃ ns ms, intsOf l = some ns ∧ intsOf m = some ms ∧ Q (.bl (geL ns ms)) M
  | _, _ => False
section
variable {X : Cx} {K : PySem.W.Frag} {F0 : FZ} {a b : Expr} {ta tb : TE} {ta' tb' : DTE} {pos : Pos}
theorem l2_geT : L2r K F0 dGeT (rGeT K) := by
  intro F M H d e x y Q' Q e0 s r1 r2 q k
  unfold dGeT at q
  split at q
  · obtain ⟨ns, ms, h1, h2, q⟩ := q
    cases r1 with
    | tup a1 b1 =>
      cases r2 with
      | tup a2 b2 =>
        have z1 := ints_rp b1 h1
        have z2 := ints_rp b2 h2
        subst z1 z2
        exact ⟨_, _, ns, ms, rfl, rfl, s.sqT a1, s.sqT a2, k F _ _ M H (FLe.refl F) s (.bl _) q⟩
  · exact q.elim
theorem de_geT {n : Nat} (hr : Room n X.A) (ha : DE X F0 a ta ta') (hb : DE X F0 b tb tb') : DE X F0 (.Compare a [.GtE] [b] pos) (tOp (rGeT X.K) ta tb) (dOp dGeT ta' tb') := de_cmp (op_geT (Nat.lt_of_le_of_lt (Nat.le_add_right _ _) hr.units)) l2_geT ha hb (nomark _)
end

/-! ### rows: a frozen list of lists to be changed -/
structure RowsAt (M : Mp) (as : List Addr) (rows : List (List D)) : Prop where
  nd : as.Nodup
  len : as.length = rows.length
  at' : ∀ (k : Nat) (a : Addr), as[k]? = some a → ∃ r, rows[k]? = some r ∧ M a = some (.lst r)
theorem RowsAt.get {M : Mp} {as : List Addr} {rows : List (List D)} (h : RowsAt M as rows) {k : Nat} {r : List D} (hr : rows[k]? = some r) : ∃ a, as[k]? = some a ∧ M a = some (.lst r) := by
  have hk : k < as.length := by rw [h.len]; exact (List.getElem?_eq_some_iff.mp hr).1
  have e : as[k]? = some as[k] := List.getElem?_eq_getElem hk
  obtain ⟨r', h1, h2⟩ := h.at' k _ e
  rw [hr] at h1; cases h1
  exact ⟨_, e, h2⟩
theorem RowsAt.set {M : Mp} {as : List Addr} {rows : List (List D)} (h : RowsAt M as rows) {k : Nat} {a : Addr} (ha : as[k]? = some a) (r' : List D) : RowsAt (mset M a (.lst r')) as (rows.set k r') := by
  refine ⟨h.nd, by rw [List.length_set]; exact h.len, fun j b hb => ?_⟩
  have hk := (List.getElem?_eq_some_iff.mp ha).1
  by_cases e : k = j
  · subst e
    rw [ha] at hb; cases hb
    exact ⟨r', List.getElem?_set_self (by rw [← h.len]; exact hk), mset_same⟩
  · have ne : b ≠ a := fun z => by
      subst z
      exact e ((List.getElem?_inj hk h.nd).mp (ha.trans hb.symm))
    obtain ⟨r, h1, h2⟩ := h.at' j b hb
    exact ⟨r, by rw [List.getElem?_set_ne e]; exact h1, by rw [mset_ne ne]; exact h2⟩
theorem RowsAt.other {M : Mp} {as : List Addr} {rows : List (List D)} (h : RowsAt M as rows) {p : Addr} {o : MO} (hp : p ∉ as) : RowsAt (mset M p o) as rows :=
  ⟨h.nd, h.len, fun k a ha => by
    obtain ⟨r, h1, h2⟩ := h.at' k a ha
    refine ⟨r, h1, ?_⟩
    have ne : a ≠ p := fun z => by subst z; exact hp (List.mem_of_getElem? ha)
    rw [mset_ne ne]
    exact h2⟩
theorem RowsAt.agree {M M' : Mp} {as : List Addr} {rows : List (List D)} (h : RowsAt M as rows) (e : ∀ a ∈ as, M' a = M a) : RowsAt M' as rows :=
  ⟨h.nd, h.len, fun k a ha => by
    obtain ⟨r, h1, h2⟩ := h.at' k a ha
    exact ⟨r, h1, by rw [e a (List.mem_of_getElem? ha)]; exact h2⟩⟩
/-- [[] for ..] -/
theorem lcI_fresh {g : DTG} {vs : List Nat} {γ : G} {items : List D} {M0 : Mp} {Q : DK} (hg : ∀ d M (Q : G → Mp → Prop), (∀ γ', Q γ' M) → ∀ γ, g d γ M Q)
    (q : ∀ as M, RowsAt M as (List.replicate items.length []) → (∀ p, p ∉ as → M p = M0 p) → (∀ a ∈ as, M0 a = none) → Q (.lst (as.map .ref)) M) : dLcI g dYes (dLstM dNil) vs γ items M0 Q := by
  refine ⟨fun i acc M => ∃ as : List Addr, acc = as.map .ref ∧ RowsAt M as (List.replicate i []) ∧ (∀ p, p ∉ as → M p = M0 p) ∧ ∀ a ∈ as, M0 a = none, ⟨[], rfl, ⟨List.nodup_nil, rfl, fun k a h => by simp at h⟩, fun _ _ => rfl, fun _ h => by cases h⟩, ?_, ?_⟩
  · rintro i d acc M hd ⟨as, rfl, h, ho, hn⟩
    refine hg d M _ (fun γ' => ?_) _
    refine ⟨by decide, fun p hp => ?_⟩
    have hpa : p ∉ as := fun z => by
      obtain ⟨k, hk⟩ := List.mem_iff_getElem?.mp z
      obtain ⟨r, _, h2⟩ := h.at' k p hk
      rw [hp] at h2; cases h2
    have h' := h.other (p := p) (o := .lst []) hpa
    refine ⟨as ++ [p], by rw [List.map_append]; rfl, ⟨?_, ?_, fun k a hk => ?_⟩, fun x hx => ?_, fun a ha => ?_⟩
    · rw [List.nodup_append]
      exact ⟨h.nd, by simp, fun a ha b hb => by
        rw [List.mem_singleton.mp hb]
        exact fun z => hpa (z ▸ ha)⟩
    · rw [List.length_append, h.len]; simp
    · by_cases hl : k < as.length
      · rw [List.getElem?_append_left hl] at hk
        obtain ⟨r, h1, h2⟩ := h'.at' k a hk
        refine ⟨r, ?_, h2⟩
        rw [List.replicate_succ', List.getElem?_append_left (by rw [← h.len]; exact hl)]
        exact h1
      · have e : k = as.length := by
          have := (List.getElem?_eq_some_iff.mp hk).1
          simp at this
          omega
        subst e
        simp at hk
        subst hk
        have hl2 := h.len
        simp at hl2
        exact ⟨[], by simp [hl2], mset_same⟩
    · have h1 : x ∉ as := fun z => hx (List.mem_append_left _ z)
      have h2 : x ≠ p := fun z => hx (by rw [z]; simp)
      rw [mset_ne h2]; exact ho x h1
    · rcases List.mem_append.mp ha with z | z
      · exact hn a z
      · rw [List.mem_singleton.mp z, ← ho p hpa]; exact hp
  · rintro acc M ⟨as, rfl, h, ho, hn⟩
    exact q as M h ho hn

/-! ### dicts as told -/
section
variable {κ : Type} [DecidableEq κ]
theorem dval_nil {k : κ} : dval ([] : List (κ × D)) k = none := rfl
theorem dval_cons {k k1 : κ} {d : D} {l : List (κ × D)} : dval ((k1, d) :: l) k = if k1 = k then some d else dval l k := by
  by_cases h : k1 = k <;> simp [dval, List.find?, h]
theorem dval_dput {k k1 : κ} {d : D} {l : List (κ × D)} : dval (dput l k d) k1 = if k = k1 then some d else dval l k1 := by
  unfold dput
  by_cases hs : (dval l k).isSome = true
  · rw [if_pos hs]
    induction l with
    | nil => simp [dval] at hs
    | cons p l ih =>
      obtain ⟨k2, d2⟩ := p
      rw [dval_cons] at hs
      rw [List.map_cons]
      by_cases h2 : k2 = k
      · subst h2
        simp only [if_pos]
        rw [dval_cons, dval_cons]
        by_cases h3 : k2 = k1
        · simp [h3]
        · simp only [if_neg h3]
          have key : ∀ m : List (κ × D), dval (m.map fun kv => if kv.1 = k2 then (kv.1, d) else kv) k1 = dval m k1 := by
            intro m
            induction m with
            | nil => rfl
            | cons p m ih =>
              obtain ⟨k4, d4⟩ := p
              rw [List.map_cons]
              by_cases h4 : k4 = k2
              · subst h4
                simp only [if_pos]
                rw [dval_cons, dval_cons, if_neg h3, if_neg h3]; exact ih
              · simp only [if_neg h4]
                rw [dval_cons, dval_cons, ih]
          exact key l
      · rw [if_neg h2] at hs
        simp only [if_neg h2]
        rw [dval_cons, dval_cons, ih hs]
        by_cases h3 : k2 = k1
        · have h4 : ¬ k = k1 := fun z => h2 (h3.trans z.symm)
          simp [h3, h4]
        · simp [h3]
  · rw [if_neg hs]
    have hn : dval l k = none := by simpa using hs
    clear hs
    induction l with
    | nil => rw [List.nil_append, dval_cons]
    | cons p l ih =>
      obtain ⟨k2, d2⟩ := p
      rw [dval_cons] at hn
      rw [List.cons_append, dval_cons, dval_cons]
      by_cases h2 : k2 = k
      · simp [h2] at hn
      · rw [if_neg h2] at hn
        rw [ih hn]
        by_cases h3 : k2 = k1
        · have h4 : ¬ k = k1 := fun z => h2 (h3.trans z.symm)
          simp [h3, h4]
        · simp [h3]
theorem dput_len {k : κ} {d : D} {l : List (κ × D)} : (dput l k d).length ≤ l.length + 1 := by
  unfold dput
  split
  · rw [List.length_map]; omega
  · rw [List.length_append]; simp
end
end DL

set_option maxRecDepth 100000
set_option maxHeartbeats 2000000
namespace DL
open PySem PySem.Spec PyProof.Rows L2

/-! ### derivations whose kit reading is hidden: within a comprehension's own block -/
def DEx (X : Cx) (F0 : FZ) (e : Expr) (te' : DTE) : Prop := ∃ te, DE X F0 e te te'
def DTx (X : Cx) (F0 : FZ) (ifs : List Expr) (tt' : DTT) : Prop := ∃ tt, DTs X F0 ifs tt tt'
def DGx (X : Cx) (F0 : FZ) (vs : List Nat) (tg : Expr) (g' : DTG) : Prop := ∃ g, DG X F0 tg g g' ∧ GW vs g
def lfE (K : PySem.W.Frag) (F0 : FZ) (t' : DTE) : TE := fun σ H Q => ∃ F γ M Q', Bs F0 F ∧ SR K F M H ∧ GR K F γ σ ∧ t' γ M Q' ∧ ∀ F1 d v M1 H1, FLe F F1 → SR K F1 M1 H1 → Rp K F1 d v → Q' d M1 → Q v H1
def lfT (K : PySem.W.Frag) (F0 : FZ) (t' : DTT) : TT := fun σ H Q => ∃ F γ M Q', Bs F0 F ∧ SR K F M H ∧ GR K F γ σ ∧ t' γ M Q' ∧ ∀ F1 b M1 H1, FLe F F1 → SR K F1 M1 H1 → Q' b M1 → Q b H1
def lfG (K : PySem.W.Frag) (F0 : FZ) (vs : List Nat) (t' : DTG) : TG := fun v σ H Q => ∃ F γ M d Q', Bs F0 F ∧ SR K F M H ∧ GR K F γ σ ∧ Rp K F d v ∧ t' d γ M Q' ∧ ∀ F1 γ1 M1 σ1 H1, FLe F F1 → SR K F1 M1 H1 → GR K F1 γ1 σ1 → wipe σ1 vs = wipe σ vs → Q' γ1 M1 → Q σ1 H1
section
variable {X : Cx} {K : PySem.W.Frag} {F0 : FZ} {e tg : Expr} {ifs : List Expr} {vs : List Nat}
theorem DEx.pe {te' : DTE} (h : DEx X F0 e te') : PE X e (lfE X.K F0 te') := by
  obtain ⟨te, h⟩ := h
  refine ⟨fun pins s σ H Q I q => ?_⟩
  obtain ⟨F, γ, M, Q', e0, s1, g, q, k⟩ := q
  exact h.pe.run pins s σ H Q I (h.le F γ M σ H Q' Q e0 s1 g q k)
theorem le_lfE (te' : DTE) : LE K F0 te' (lfE K F0 te') := fun F γ M σ H Q' Q e0 s g q k => ⟨F, γ, M, Q', e0, s, g, q, k⟩
theorem DTx.pt {tt' : DTT} (h : DTx X F0 ifs tt') : PTs X ifs (lfT X.K F0 tt') := by
  obtain ⟨tt, h⟩ := h
  refine ⟨fun pins s σ H Q I q => ?_⟩
  obtain ⟨F, γ, M, Q', e0, s1, g, q, k⟩ := q
  exact h.pt.run pins s σ H Q I (h.le F γ M σ H Q' Q e0 s1 g q k)
theorem le_lfT (tt' : DTT) : LT K F0 tt' (lfT K F0 tt') := fun F γ M σ H Q' Q e0 s g q k => ⟨F, γ, M, Q', e0, s, g, q, k⟩
theorem DGx.pg {g' : DTG} (h : DGx X F0 vs tg g') : PG X tg (lfG X.K F0 vs g') := by
  obtain ⟨g, h, hw⟩ := h
  refine ⟨fun pins s σ H v u Q I r q => ?_⟩
  obtain ⟨F, γ, M, d, Q', e0, s1, gr, rd, q, k⟩ := q
  have a := h.le F γ M σ H d v Q' (fun σ1 H1 => wipe σ1 vs = wipe σ vs → Q σ1 H1) e0 s1 gr rd q fun F1 γ1 M1 σ1 H1 e1 s1 g1 q1 z => k F1 γ1 M1 σ1 H1 e1 s1 g1 z q1
  have b := hw v σ H _ a
  exact thn (h.pg.run pins s σ H v u _ I r b) fun _ s2 ⟨σ2, H2, I2, z1, z2⟩ => ⟨σ2, H2, I2, z2 z1⟩
theorem gw_lfG {vs : List Nat} {g' : DTG} : GW vs (lfG K F0 vs g') := fun v σ H Q ⟨F, γ, M, d, Q', e0, s, g, r, q, k⟩ => ⟨F, γ, M, d, Q', e0, s, g, r, q, fun F1 γ1 M1 σ1 H1 e1 s1 g1 z q1 => ⟨z, k F1 γ1 M1 σ1 H1 e1 s1 g1 z q1⟩⟩
theorem lg_lfG {vs : List Nat} {g' : DTG} : LG K F0 g' (lfG K F0 vs g') := fun F γ M σ H d v Q' Q e0 s g r q k => ⟨F, γ, M, d, Q', e0, s, g, r, q, fun F1 γ1 M1 σ1 H1 e1 s1 g1 _ q1 => k F1 γ1 M1 σ1 H1 e1 s1 g1 q1⟩
abbrev Blk (X : Cx) (scope : Scope) (p : Cx → Prop) : Prop := ∀ (s : Shared) (H : Hp) (C : Addr) (cl : List (Str × Addr)) (fp : List Addr), p (X.blk s H scope (compEnvC scope cl C X.env) fp)
variable {elt iter : Expr} {scope : Scope} {own : List (Str × Nat)} {pos spos py : Pos} {wi : TI} {wi' : DTI} {g' : DTG} {tt' : DTT} {te' : DTE}
theorem dx_lc (hc : X.calm = true) (hN : X.N.Nodup) (hi : DI X F0 tg iter wi wi') (ok : BlkOk X.N X.env.scope scope own) (hg : Blk X scope fun Y => DGx Y F0 (own.map (·.2)) tg g') (ht : Blk X scope fun Y => DTx Y F0 ifs tt') (he : Blk X scope fun Y => DEx Y F0 elt te') (hs : ∀ x, foldedSetIterable iter X.env x = pure x := by intro _; rfl) :
    DE X F0 (.ListComp elt [⟨tg, iter, ifs, 0⟩] scope pos) (tLc wi (lfG X.K F0 (own.map (·.2)) g') (lfT X.K F0 tt') (lfE X.K F0 te') (own.map (·.2))) (dLc wi' g' tt' te' (own.map (·.2))) :=
  ⟨pe_lc hc hN hi.pi ok (fun s H C cl fp => (hg s H C cl fp).pg) (fun s H C cl fp => (ht s H C cl fp).pt) (fun s H C cl fp => (he s H C cl fp).pe) hs, le_lc hi.le lg_lfG gw_lfG (le_lfT _) (le_lfE _)⟩
theorem dx_lcM (hc : X.calm = true) (hN : X.N.Nodup) (hi : DI X F0 tg iter wi wi') (ok : BlkOk X.N X.env.scope scope own) (hg : Blk X scope fun Y => DGx Y F0 (own.map (·.2)) tg g') (ht : Blk X scope fun Y => DTx Y F0 ifs tt') (he : Blk X scope fun Y => DEx Y F0 elt te') (hs : ∀ x, foldedSetIterable iter X.env x = pure x := by intro _; rfl) :
    DE X F0 (.ListComp elt [⟨tg, iter, ifs, 0⟩] scope pos) (tLc wi (lfG X.K F0 (own.map (·.2)) g') (lfT X.K F0 tt') (lfE X.K F0 te') (own.map (·.2))) (dLcM wi' g' tt' te' (own.map (·.2))) :=
  ⟨pe_lc hc hN hi.pi ok (fun s H C cl fp => (hg s H C cl fp).pg) (fun s H C cl fp => (ht s H C cl fp).pt) (fun s H C cl fp => (he s H C cl fp).pe) hs, le_lcM hi.le lg_lfG gw_lfG (le_lfT _) (le_lfE _)⟩
theorem ps_lcX (i : Nat) {y : Str} (hc : X.calm = true) (hN : X.N.Nodup) (hsw : swapsWith (.ListComp elt [⟨tg, iter, ifs, 0⟩] scope pos) (some (.Name y py)) spos.line X.env = pure true) (hi : DI X F0 tg iter wi wi') (ok : BlkOk X.N X.env.scope scope own) (hg : Blk X scope fun Y => DGx Y F0 (own.map (·.2)) tg g') (ht : Blk X scope fun Y => DTx Y F0 ifs tt') (he : Blk X scope fun Y => DEx Y F0 elt te')
    (hs : ∀ x, foldedSetIterable iter X.env x = pure x) (hy : X.N[i]? = some y) (hyl : X.env.scope.names.lookup y = some .local) : PS X (.Assign [.Name y py] (.ListComp elt [⟨tg, iter, ifs, 0⟩] scope pos) spos) (tAsg (tLc wi (lfG X.K F0 (own.map (·.2)) g') (lfT X.K F0 tt') (lfE X.K F0 te') (own.map (·.2))) (gName i)) :=
  ps_setLc hc hN hy hyl hsw hi.pi ok (fun s H C cl fp => (hg s H C cl fp).pg) (fun s H C cl fp => (ht s H C cl fp).pt) (fun s H C cl fp => (he s H C cl fp).pe) hs
theorem dx_setLc (i : Nat) {y : Str} (hc : X.calm = true) (hN : X.N.Nodup) (hsw : swapsWith (.ListComp elt [⟨tg, iter, ifs, 0⟩] scope pos) (some (.Name y py)) spos.line X.env = pure true) (hi : DI X F0 tg iter wi wi') (ok : BlkOk X.N X.env.scope scope own) (hg : Blk X scope fun Y => DGx Y F0 (own.map (·.2)) tg g') (ht : Blk X scope fun Y => DTx Y F0 ifs tt') (he : Blk X scope fun Y => DEx Y F0 elt te')
    (hs : ∀ x, foldedSetIterable iter X.env x = pure x := by intro _; rfl) (hy : X.N[i]? = some y := by rfl) (hyl : X.env.scope.names.lookup y = some .local := by rfl) : DS X F0 (.Assign [.Name y py] (.ListComp elt [⟨tg, iter, ifs, 0⟩] scope pos) spos) (tAsg (tLc wi (lfG X.K F0 (own.map (·.2)) g') (lfT X.K F0 tt') (lfE X.K F0 te') (own.map (·.2))) (gName i)) (dAsg (dLc wi' g' tt' te' (own.map (·.2))) (hName i)) :=
  ⟨ps_lcX i hc hN hsw hi ok hg ht he hs hy hyl, ls_asg (le_lc hi.le lg_lfG gw_lfG (le_lfT _) (le_lfE _)) (dg_name (X := X) (F0 := F0) (pos := pos) i hN hy (Or.inl hyl) (.inr hyl)).le⟩
theorem dx_setLcM (i : Nat) {y : Str} (hc : X.calm = true) (hN : X.N.Nodup) (hsw : swapsWith (.ListComp elt [⟨tg, iter, ifs, 0⟩] scope pos) (some (.Name y py)) spos.line X.env = pure true) (hi : DI X F0 tg iter wi wi') (ok : BlkOk X.N X.env.scope scope own) (hg : Blk X scope fun Y => DGx Y F0 (own.map (·.2)) tg g') (ht : Blk X scope fun Y => DTx Y F0 ifs tt') (he : Blk X scope fun Y => DEx Y F0 elt te')
    (hs : ∀ x, foldedSetIterable iter X.env x = pure x := by intro _; rfl) (hy : X.N[i]? = some y := by rfl) (hyl : X.env.scope.names.lookup y = some .local := by rfl) : DS X F0 (.Assign [.Name y py] (.ListComp elt [⟨tg, iter, ifs, 0⟩] scope pos) spos) (tAsg (tLc wi (lfG X.K F0 (own.map (·.2)) g') (lfT X.K F0 tt') (lfE X.K F0 te') (own.map (·.2))) (gName i)) (dAsg (dLcM wi' g' tt' te' (own.map (·.2))) (hName i)) :=
  ⟨ps_lcX i hc hN hsw hi ok hg ht he hs hy hyl, ls_asg (le_lcM hi.le lg_lfG gw_lfG (le_lfT _) (le_lfE _)) (dg_name (X := X) (F0 := F0) (pos := pos) i hN hy (Or.inl hyl) (.inr hyl)).le⟩
end
end DL

set_option maxRecDepth 100000
set_option maxHeartbeats 2000000
namespace DL
open PySem PySem.Spec PyProof.Rows L2

section
variable {P : Program} {w : World} {K : PySem.W.Frag} {mg : Str → Option Value} {base : Heap}
/-- the law itself -/
theorem dokL {x : Str} {st : Stmt} {f : Addr} {fd : FuncData} {N ps : List Str} {k : Nat} {sp : DSp} (F : Fun K x x st f fd) (S : FnScope N ps (defScope st)) (len : ∀ ds M Q E, sp ds M Q E → ds.length = ps.length)
    (hbody : ∀ (cdv : Value) (A : Around) (outer : List Env) (s : Shared) (H : Hp) (E : XK) (F0 : FZ), Room k (A.deeper (envOfC x (defScope st) s.heap.objs.size f cdv)) →
      ∃ t t', DB (cxOf CX0 P w K mg base N x (defScope st) f cdv A outer s H E).nox F0 (defBody st) t t' ∧ ∀ ds M Q' E', sp ds M Q' E' → t' { nx := fun _ M1 => fin Q' .non M1, rt := fin Q' } (dstart N ds) M) : FnOk P w K mg base CX0 (k + 1) f fd ps (liftSp K sp) := by
  refine F.ok S (fun vs H Q E ⟨_, ds, _, _, _, _, r, q, _⟩ => by rw [← r.length]; exact len _ _ _ _ q) (fun cdv A outer s H vs Q E hr ⟨F, ds, M, Q', E', s1, r, q, kq, _⟩ => ?_)
  obtain ⟨t, t', d, h⟩ := hbody cdv A outer s H E F hr
  exact ⟨t, d.ps, d.le F (dstart N ds) M (L2.start N vs) H { nx := fun _ M1 => fin Q' .non M1, rt := fin Q' } { nx := fun _ H' => Q .non H', rt := Q } (Bs.refl _) s1 (gr_start r) (h ds M Q' E' q)
    ⟨fun F1 γ1 M1 σ1 H1 e1 s1 g1 ⟨M2, l, q⟩ => kq F1 .non .non M2 H1 e1 (s1.less l) .non q, fun F1 d1 v1 M1 H1 e1 s1 r1 ⟨M2, l, q⟩ => kq F1 d1 v1 M2 H1 e1 (s1.less l) r1 q, fun _ _ _ _ _ _ _ _ z => z.elim, fun _ _ _ _ _ _ _ _ z => z.elim⟩⟩
/-- a def of the text, by what the top has written -/
theorem dfun_mk {h : Heap} {x : Str} {st : Stmt} {f : Addr} {ps : List Str} {od an : Option Addr} {sl : Array (Option Value)} {oc kV dc pm cd ct : Value} (X : K.In h) (G : h.Ns mainGlobals mg) (a : PySem.W.nsIn K mainGlobals x = some (some (.ref f)))
    (l : K.lookup f = some ⟨oc, od, .func (PySem.W.fnOf x x (defArgs st) (defBody st) (defScope st) .none kV dc pm an cd ct), sl⟩) (c : PySem.W.codeIn K cd x = true) (k : PySem.W.keepIn K (.ref f) = true)
    (b : ∀ (kV doc pm : Value) (an : Option Addr) (cdv ct : Value) (us : List Value), us.length = ps.length → bindArgs (PySem.W.fnOf x x (defArgs st) (defBody st) (defScope st) .none kV doc pm an cdv ct) ⟨us, []⟩ = pure (ps.zip us)) : DFun K mg x st ps :=
  ⟨f, _, fun_mk l c k, PySem.W.mg_of X G a, (fun_mk (st := st) l c k).binds b⟩
theorem dmet_mk {x q : Str} {st : Stmt} {f : Addr} {ps : List Str} {od an : Option Addr} {sl : Array (Option Value)} {oc kV dc pm cd ct : Value} (l : K.lookup f = some ⟨oc, od, .func (PySem.W.fnOf x q (defArgs st) (defBody st) (defScope st) .none kV dc pm an cd ct), sl⟩) (c : PySem.W.codeIn K cd q = true) (k : PySem.W.keepIn K (.ref f) = true)
    (b : ∀ (kV doc pm : Value) (an : Option Addr) (cdv ct : Value) (us : List Value), us.length = ps.length → bindArgs (PySem.W.fnOf x q (defArgs st) (defBody st) (defScope st) .none kV doc pm an cdv ct) ⟨us, []⟩ = pure (ps.zip us)) : DMet K x q st f ps :=
  ⟨_, fun_mk l c k, (fun_mk (st := st) l c k).binds b⟩
theorem dmk_mk {CX : CXT} {h : Heap} {x : Str} {C f : Addr} {k : Nat} {ps : List Str} {sp : DSp} (X : K.In h) (G : h.Ns mainGlobals mg) (a : PySem.W.nsIn K mainGlobals x = some (some (.ref C))) (M : Mk K C f) (H : ∃ fd, FnOk P w K mg base CX k f fd ps (liftSp K sp) ∧ Binds K fd ps []) : DMk P w K mg base CX k x C sp := by
  obtain ⟨fd, h1, h2⟩ := H
  exact ⟨f, fd, ps, h1, PySem.W.mg_of X G a, M, h2⟩
theorem dpr_mk {C p g : Addr} {f : Str} {k : Nat} {ps : List Str} {sp : DSp} (pr : PropOf K C f p g) (H : ∃ fd, FnOk P w K mg base CX0 k g fd ps (liftSp K sp) ∧ Binds K fd ps []) : DPr P w K mg base k C f sp := by
  obtain ⟨fd, h1, h2⟩ := H
  exact ⟨p, g, fd, ps, h1, pr, h2⟩
/-- the end of a law's proof -/
theorem walk_law {l : PySem.W.OpenLaw} {q : Program} {k : Nat} {loose : List Str} {XP : (Str → Option Value) → Heap → Prop} {YP : World → Heap → Prop} {d : DefRec} {K : Params → PySem.W.Frag} {x : Str} (hn : l.most = some 63) (hdf : d.params.defaults = []) (hr : Room k callerA) (hY : ∀ (w : World) (h : Heap), YP w h → (K w.params).In h)
    (F : ∀ (w : World) (mg : Str → Option Value) (fa : Addr) (h : Heap), (K w.params).In h → h.Ns mainGlobals mg → mg d.name = some (.ref fa) →
      ∃ fd : FuncData, (∀ (s : Shared) (u : Value), BindsTo s fd ⟨[u], []⟩ [(x, u)]) ∧ ∀ base : Heap, (K w.params).In base → base.Ns mainGlobals mg → FnOk l.prog w (K w.params) mg base CX0 k fa fd [x] (liftSp (K w.params) spLaw)) :
    PySem.W.WalkO q loose XP YP l.row.toRowW d [] (fun f vs => PySem.call f vs) :=
  walk_ofK (sp := fun K => liftSp K spLaw) (CX := CX0) hn (by decide) hdf hr hY F (fun K H a ns h1 _ h3 => law_sp h1 h3) fun _ _ _ _ z => z
end
end DL

set_option maxRecDepth 100000
set_option maxHeartbeats 2000000
namespace DL
open PySem PySem.Spec PyProof.Rows L2

/-! ### {k: v for ..} -/
section
variable {X : Cx} {K : PySem.W.Frag} {F0 : FZ}
def dDcI (g : DTG) (tt : DTT) (tk te : DTE) (vs : List Nat) (γ : G) (items : List D) (M1 : Mp) (Q : DK) : Prop := ∃ I : Nat → List (Key × D) → Mp → Prop, I 0 [] M1 ∧
  (∀ i d acc M, items[i]? = some d → I i acc M → g d (dwipe γ vs) M fun γ2 M2 => tt γ2 M2 fun b M3 => if b = true then tk γ2 M3 fun x M4 => ∃ kk, keyOf x = some kk ∧ te γ2 M4 fun y M5 => I (i + 1) (dput acc kk y) M5 else I (i + 1) acc M3) ∧
  ∀ acc M, I items.length acc M → ∀ p, M p = none → Q (.ref p) (mset M p (.dK acc))
def dDc (wi : DTI) (g : DTG) (tt : DTT) (tk te : DTE) (vs : List Nat) : DTE := fun γ M Q => wi γ M fun items M1 => items.length ≤ sizeLine ∧ dDcI g tt tk te vs γ items M1 Q
def DcW (K : PySem.W.Frag) (F1 : FZ) (L : Addr) (I : Nat → List (Key × D) → Mp → Prop) (i : Nat) (H : Hp) : Prop := ∃ F2 M2 acc ps, FLe F1 F2 ∧ SR K F2 M2 H ∧ (F2.f L = none ∧ F2.d L = none) ∧ M2 L = none ∧ H L = some (.dK ps) ∧ KVR K F2 acc ps ∧ acc.length ≤ i ∧ I i acc M2
theorem le_dc {wi : TI} {wi' : DTI} {g : TG} {g' : DTG} {tt : TT} {tt' : DTT} {tk te : TE} {tk' te' : DTE} {vs : List Nat} (hi : LI K F0 wi' wi) (hg : LG K F0 g' g) (hw : GW vs g) (ht : LT K F0 tt' tt) (hkey : LE K F0 tk' tk) (he : LE K F0 te' te) :
    LE K F0 (dDc wi' g' tt' tk' te' vs) (tDc wi g tt tk te vs) := by
  intro F γ M σ H Q' Q e0 s gr q k
  refine hi F γ M σ H _ _ e0 s gr q fun F1 items J M1 H1 e1 s1 j1 q1 => ?_
  obtain ⟨hlen, I, h0, step, done⟩ := q1
  intro D hD
  have hDF := s1.freeF hD
  have hDM := s1.freeM hD
  have hDP := s1.freeP hD
  refine ⟨fun i m H => m = items.length - i ∧ i ≤ items.length ∧ DcW K F1 D I i H, ⟨items.length, by simp, Nat.zero_le _, ?_⟩, ?_⟩
  · refine ⟨F1, M1, [], [], FLe.refl _, s1.other hD, ⟨hDF, s1.freeD hD⟩, hDM, upd_same, .nil, Nat.le_refl _, h0⟩
  · rintro i m H2 ⟨rfl, hi2, F2, M2, acc, xs, e2, s2, dF, dM, hl, rl, al, i2⟩
    have dP : F2.p D = none := by rw [e2.e]; exact hDP
    by_cases hlt : i < items.length
    · have hd : items[i]? = some items[i] := List.getElem?_eq_getElem hlt
      have sh := s2.hide dF.1 dM hl (fun _ z => by cases z) (fun u e => by rw [dF.2] at e; cases e)
      obtain ⟨go, y⟩ := (j1 i (F2.hide D (.dK xs)) M2 H2 (bj_hide e2 hDP) sh).2 _ hd
      refine .inr ⟨go, DcW K F1 D I (i + 1), fun H' h => ⟨items.length - (i + 1), by omega, rfl, hlt, h⟩, fun x H3 yy => ?_⟩
      obtain ⟨F3, e3, s3, r3⟩ := y x H3 yy
      have b3 : Sm F2 F3 := e3.s
      have a3 : Bs F0 F3 := ⟨((e0.tr e1).tr e2).f.trans' b3, ((e0.tr e1).tr e2).p.trans (fun b o h => by rw [e3.e]; exact (upd_ne (ne_of_none h dP)).trans h)⟩
      have back : ∀ {F5 : FZ} {M5 : Mp} {H5 : Hp} (o : HO), FLe F3 F5 → SR K F5 M5 H5 → SR K ⟨F5.f, F2.p, F5.d⟩ M5 (upd H5 D o) ∧ H5 D = some (.dK xs) ∧ (F5.f D = none ∧ F5.d D = none) ∧ M5 D = none := fun {F5 M5 H5} o e5 s5 => by
        obtain ⟨w1, w2, w3, w4⟩ := s5.unhide (u := o) (o := .dK xs) (q := F2.p) (p := D) (by rw [e5.e, e3.e]; rfl) dP
        exact ⟨w1, w2, ⟨w3, s5.hidD (o := .dK xs) (by rw [e5.e, e3.e]; exact upd_same) (fun _ _ z => nomatch z)⟩, w4⟩
      have step' := step i _ acc M2 hd i2
      have r0 : KVR K F3 acc xs := rl.monoS b3
      have lt1 : xs.length < sizeLine := by rw [← kvr_len r0]; omega
      have main := hw x (wipe σ vs) H3 _ (hg F3 (dwipe γ vs) M2 (wipe σ vs) H3 _ x _ (fun σ2 H2 => tt σ2 H2 fun b H3 => if b = true then tk σ2 H3 fun y H4 => te σ2 H4 fun z H5 => ∃ kvs kk, y = kV kk ∧ H5 D = some (.dK kvs) ∧ kvs.length < sizeLine ∧ DcW K F1 D I (i + 1) (upd H5 D (.dK (putK kvs kk z))) else DcW K F1 D I (i + 1) H3)
        a3 s3 (gr_wipe (gr.monoS ((e1.s.trans' e2.s).trans' b3)) vs) r3 step' fun F4 γ4 M4 σ4 H4 e4 s4 g4 q4 =>
        ht F4 γ4 M4 σ4 H4 _ _ (a3.tr e4) s4 g4 q4 fun F5 b M5 H5 e5 s5 q5 => by
          cases b with
          | false =>
            obtain ⟨z1, z2, z3, z4⟩ := back (.dK xs) (e4.trans e5) s5
            have eq : upd H5 D (.dK xs) = H5 := by
              funext b
              by_cases hb : b = D
              · subst hb; rw [upd_same, z2]
              · rw [upd_ne hb]
            rw [eq] at z1
            exact ⟨⟨F5.f, F2.p, F5.d⟩, M5, acc, xs, ⟨(e2.s.trans' b3).trans' (e4.trans e5).s, e2.e⟩, z1, z3, z4, z2, KVR.monoS (F := F3) (F' := ⟨F5.f, F2.p, F5.d⟩) (e4.trans e5).s r0, Nat.le_succ_of_le al, q5⟩
          | true =>
            refine hkey F5 γ4 M5 σ4 H5 _ _ ((a3.tr e4).tr e5) s5 (g4.mono e5) q5 fun F7 d7 v7 M7 H7 e7 s7 r7 q7 => ?_
            obtain ⟨kk, hkk, q7⟩ := q7
            have hx := keyOf_rp r7 hkk
            subst hx
            refine he F7 γ4 M7 σ4 H7 _ _ (((a3.tr e4).tr e5).tr e7) s7 (g4.mono (e5.trans e7)) q7 fun F6 d v M6 H6 e6 s6 r6 q6 => ?_
            obtain ⟨z1, z2, z3, z4⟩ := back (.dK (putK xs kk v)) (((e4.trans e5).trans e7).trans e6) s6
            have l2 : (dput acc kk d).length ≤ acc.length + 1 := dput_len
            refine ⟨xs, kk, rfl, z2, lt1, ⟨F6.f, F2.p, F6.d⟩, M6, dput acc kk d, putK xs kk v, ⟨(e2.s.trans' b3).trans' (((e4.trans e5).trans e7).trans e6).s, e2.e⟩, z1, z3, z4, upd_same, kvr_put (Rp.monoS (F := F6) (F' := ⟨F6.f, F2.p, F6.d⟩) Sm.rfl' r6) (KVR.monoS (F := F3) (F' := ⟨F6.f, F2.p, F6.d⟩) (((e4.trans e5).trans e7).trans e6).s r0), by omega, q6⟩)
      rw [wipe_wipe] at main
      exact main
    · have e : i = items.length := by omega
      subst e
      refine .inl ⟨((j1 items.length F2 M2 H2 e2.bj s2).1 (Nat.le_refl _)), ?_⟩
      have hz : xs.length ≤ sizeLine := by rw [← kvr_len rl]; omega
      have s3 := s2.own (o := .dK acc) dF.1 (by rw [e2.e]; exact hDP) dF.2 hl (.dK rl hz)
      exact k F2 (.ref D) (.ref D) _ H2 (e1.trans e2) s3 (.ref D) (done acc M2 i2 D dM)
variable {kx vx tg iter : Expr} {ifs : List Expr} {scope : Scope} {own : List (Str × Nat)} {pos : Pos} {wi : TI} {wi' : DTI} {g' : DTG} {tt' : DTT} {tk' te' : DTE}
theorem dx_dc (hc : X.calm = true) (hN : X.N.Nodup) (hi : DI X F0 tg iter wi wi') (ok : BlkOk X.N X.env.scope scope own) (hg : Blk X scope fun Y => DGx Y F0 (own.map (·.2)) tg g') (ht : Blk X scope fun Y => DTx Y F0 ifs tt') (hk : Blk X scope fun Y => DEx Y F0 kx tk') (he : Blk X scope fun Y => DEx Y F0 vx te') (hs : ∀ x, foldedSetIterable iter X.env x = pure x := by intro _; rfl) :
    DE X F0 (.DictComp kx vx [⟨tg, iter, ifs, 0⟩] scope pos) (tDc wi (lfG X.K F0 (own.map (·.2)) g') (lfT X.K F0 tt') (lfE X.K F0 tk') (lfE X.K F0 te') (own.map (·.2))) (dDc wi' g' tt' tk' te' (own.map (·.2))) :=
  ⟨pe_dc hc hN hi.pi ok (fun s H C cl fp => (hg s H C cl fp).pg) (fun s H C cl fp => (ht s H C cl fp).pt) (fun s H C cl fp => (hk s H C cl fp).pe) (fun s H C cl fp => (he s H C cl fp).pe) hs, le_dc hi.le lg_lfG gw_lfG (le_lfT _) (le_lfE _) (le_lfE _)⟩
end
/-- over unlike items, each of a key of its own -/
theorem dDcI_map {g : DTG} {tk te : DTE} {vs : List Nat} {γ : G} {items : List D} {M : Mp} {Q : DK} (kf : D → Key) (f : D → D) (h : ∀ (i : Nat) (d : D), items[i]? = some d → ∀ Q2 : Key → DK, Q2 (kf d) (f d) M → g d (dwipe γ vs) M fun γ2 M2 => tk γ2 M2 fun x M4 => ∃ kk, keyOf x = some kk ∧ te γ2 M4 (Q2 kk))
    (q : ∀ p, M p = none → Q (.ref p) (mset M p (.dK (items.foldl (fun acc d => dput acc (kf d) (f d)) [])))) : dDcI g dYes tk te vs γ items M Q := by
  refine ⟨fun i acc M' => M' = M ∧ acc = (items.take i).foldl (fun acc d => dput acc (kf d) (f d)) [], ⟨rfl, by simp⟩, ?_, ?_⟩
  · rintro i d acc M' hd ⟨rfl, rfl⟩
    refine h i d hd (fun kk y M5 => M5 = M' ∧ dput _ kk y = _) ⟨rfl, ?_⟩
    have hlt := (List.getElem?_eq_some_iff.mp hd).1
    rw [List.take_add_one, hd, List.foldl_append]
    rfl
  · rintro acc M' ⟨rfl, rfl⟩
    rw [List.take_length]
    exact q

/-! ### len(set(..)) of unlike ints, [::-1], is True -/
section
variable {X : Cx} {K : PySem.W.Frag} {F0 : FZ} {a b e : Expr} {ta tb te : TE} {ta' tb' te' : DTE} {pos : Pos}
def seqInts (M : Mp) : D → Option (List D)
  | .lst l => some l
  | .tup l => some l
  | .ref p => (match M p with
    | some (.lst l) => some l
    | _ => none)
  | _ => none
theorem seq_rp {F : FZ} {M : Mp} {H : Hp} {d : D} {v : V} {l : List D} (s : SR K F M H) (r : Rp K F d v) (h : seqInts M d = some l) : ∃ p xs, v = .ref p ∧ (SqL K H p xs ∨ SqT K H p xs) ∧ RpL K F l xs := by
  cases r with
  | lst a b => simp only [seqInts, Option.some.injEq] at h; subst h; exact ⟨_, _, rfl, .inl (SqL.of (s.fz _ _ a)), b⟩
  | tup a b => simp only [seqInts, Option.some.injEq] at h; subst h; exact ⟨_, _, rfl, .inr (s.sqT a), b⟩
  | ref p =>
    simp only [seqInts] at h
    split at h
    · rename_i hm
      cases h
      obtain ⟨u, h1, h2⟩ := s.mu p _ hm
      cases h2 with
      | lst b z => exact ⟨_, _, rfl, .inl (SqL.of h1), b⟩
    · cases h
  | _ => simp [seqInts] at h
def dLenSet (ta : DTE) : DTE := fun γ M Q => ta γ M fun x M1 => ∃ ns : List Int, seqInts M1 x = some (ns.map .int) ∧ ns.Nodup ∧ ns.length ≤ 4000 ∧ Q (.int (ns.length : Nat)) M1
def tLenSetA (K : PySem.W.Frag) (ta : TE) : TE := fun σ H Q => ta σ H fun x H1 => ∃ (l : Addr) (ns : List Int), x = .ref l ∧ (SqL K H1 l (ns.map V.int) ∨ SqT K H1 l (ns.map V.int)) ∧ ns.Nodup ∧ ns.length ≤ 4000 ∧ Q (.int (ns.length : Nat)) H1
theorem pe_lenSetA {p p2 q : Pos} (hm : X.mg "len" = none) (hm2 : X.mg "set" = none) (ha : PE X a ta) (hg : Gl X "len" := by rfl) (hg2 : Gl X "set" := by rfl) (hc : X.calm = true := by rfl)
    (na : starEach [a] X.env = (false, eval a X.env) :: starEach [] X.env := by rfl) : PE X (.Call (.Name "len" p) [.Call (.Name "set" p2) [a] [] q] [] pos) (tLenSetA X.K ta) := by
  refine ⟨fun pins s σ H Q I h => Call_ (ld_blt I hg hm PySem.boot_len (PyProof.Rows.callWith_builtin1 (PyProof.Rows.args_cons (Call_ (ld_blt I hg2 hm2 PyProof.Rows.boot_set (PyProof.Rows.callWith_type1 (PyProof.Rows.args_cons (thn (ha.run pins s σ H _ I h) fun v s1 ⟨x, H1, I1, r1, q1⟩ => PyProof.Rows.args_nil ?_) na) na rfl))) rfl) rfl rfl))⟩
  obtain ⟨l, ns, rfl, hq, hnd, hl, q1⟩ := q1
  cases r1
  rcases hq with hq | hq
  · obtain ⟨its, r, pl, _⟩ := I1.list hq
    have hlen : its.toArray.size = ns.length := by rw [List.size_toArray, ← r.length, List.length_map]
    refine PySem.call_set_list (I1.ok.hd hc) pl.isList (by simpa using RZ.intsAre_vals r) (by rw [hlen]; unfold scanBound; omega) fun h' tk hS hk => PyProof.Rows.args_nil ?_
    rw [hlen, RZ.firstMet_nodup hnd ns.length (Nat.le_refl _), List.take_length] at hS
    obtain ⟨o, es, ep, t, ho, hex, hd, _, _, _, hf, hn⟩ := hS
    exact call_len_set ho hex hd hf (by rw [hn] <;> omega) ⟨.int ns.length, H1, (I1.kept fun b o e => hk b o (Heap.lt_size e) e).tok _, ⟨_, by rw [hn]⟩, q1⟩
  · obtain ⟨its, r, pl, _⟩ := I1.tuple hq
    refine call_set_tupI ns (I1.ok.hd hc) pl (by simpa using RZ.intsAre_vals r) (by unfold scanBound; omega) fun h' tk c hS hle hk => PyProof.Rows.args_nil ?_
    obtain ⟨o, es, ep, t, ho, hex, hd, _, nd, mem, _, hf, hn, _, _⟩ := hS
    have hc2 : es.size = ns.length := by
      have pm : (es.toList.map L2.keyOf).Perm ns := (List.perm_ext_iff_of_nodup nd hnd).mpr fun k => by rw [← mem k]; simp
      rw [← pm.length_eq, List.length_map, Array.length_toList]
    exact call_len_set ho hex hd hf (by rw [hc2] <;> omega) ⟨.int ns.length, H1, (I1.kept hk).tok _, ⟨_, by rw [hc2]⟩, q1⟩
theorem de_lenSet {p p2 q : Pos} (hm : X.mg "len" = none) (hm2 : X.mg "set" = none) (ha : DE X F0 a ta ta') (hg : Gl X "len" := by rfl) (hg2 : Gl X "set" := by rfl) (hc : X.calm = true := by rfl)
    (na : starEach [a] X.env = (false, eval a X.env) :: starEach [] X.env := by rfl) : DE X F0 (.Call (.Name "len" p) [.Call (.Name "set" p2) [a] [] q] [] pos) (tLenSetA X.K ta) (dLenSet ta') := ⟨pe_lenSetA hm hm2 ha.pe hg hg2 hc na, fun F γ M σ H Q' Q e0 s g q k => by
  refine ha.le F γ M σ H _ _ e0 s g q fun F1 d1 v1 M1 H1 e1 s1 r1 q1 => ?_
  obtain ⟨ns, h1, h2, h3, q1⟩ := q1
  obtain ⟨p, xs, rfl, h4, h5⟩ := seq_rp s1 r1 h1
  have z := RpL.int ns h5
  subst z
  exact ⟨p, ns, rfl, h4, h2, h3, k F1 _ _ M1 H1 e1 s1 (.int _) q1⟩⟩
def dRev (ta : DTE) : DTE := fun γ M Q => ta γ M fun x M1 => ∃ l, lstOf M1 x = some l ∧ Q (.lst l.reverse) M1
theorem de_rev {k : Nat} {p1 p2 p3 : Pos} (he : DE X F0 e te te') : DE X F0 (.Subscript e (.Slice none none (some (.UnaryOp .USub (.Constant (.int 1) k p1) p2)) p3) pos) (tRevL X.K te) (dRev te') := ⟨pe_revL he.pe, fun F γ M σ H Q' Q e0 s g q k => by
  refine he.le F γ M σ H _ _ e0 s g q fun F1 d1 v1 M1 H1 e1 s1 r1 q1 => ?_
  obtain ⟨l, hl, q1⟩ := q1
  obtain ⟨p, xs, rfl, h1, h2, h3⟩ := lst_of s1 r1 hl
  refine ⟨p, xs, rfl, SqL.of h1, fun p' hp => ?_⟩
  have e2 := same_upd (o := .lst xs.reverse) (s1.freeF hp)
  exact k _ _ _ _ _ (e1.trans e2) (s1.newF hp (by show xs.reverse.length ≤ sizeLine; rw [List.length_reverse]; exact h3)) (.lst upd_same (h2.reverse.mono e2)) q1⟩
def dIsB (neg : Bool) : DR2 := fun x y M Q => match x, y with
  | .bl a, .bl b => Q (.bl (if neg then !decide (a = b) else decide (a = b))) M
  | _, _ => False
theorem l2_isB : L2r K F0 (dIsB false) (fun x y H Q => ∃ a b, x = .bl a ∧ y = .bl b ∧ Q (.bl (decide (a = b))) H) := by
  intro F M H d e x y Q' Q e0 s r1 r2 q k
  unfold dIsB at q
  split at q
  · cases r1; cases r2
    exact ⟨_, _, rfl, rfl, k F _ _ M H (FLe.refl F) s (.bl _) q⟩
  · exact q.elim
theorem l2_notB : L2r K F0 (dIsB true) (fun x y H Q => ∃ a b, x = .bl a ∧ y = .bl b ∧ Q (.bl (!decide (a = b))) H) := by
  intro F M H d e x y Q' Q e0 s r1 r2 q k
  unfold dIsB at q
  split at q
  · cases r1; cases r2
    exact ⟨_, _, rfl, rfl, k F _ _ M H (FLe.refl F) s (.bl _) q⟩
  · exact q.elim
theorem de_isB (ha : DE X F0 a ta ta') (hb : DE X F0 b tb tb') : DE X F0 (.Compare a [.Is] [b] pos) (tOp (fun x y H Q => ∃ a b, x = .bl a ∧ y = .bl b ∧ Q (.bl (decide (a = b))) H) ta tb) (dOp (dIsB false) ta' tb') := de_cmp op_is_bl l2_isB ha hb (nomark _)
theorem de_notB (ha : DE X F0 a ta ta') (hb : DE X F0 b tb tb') : DE X F0 (.Compare a [.IsNot] [b] pos) (tOp (fun x y H Q => ∃ a b, x = .bl a ∧ y = .bl b ∧ Q (.bl (!decide (a = b))) H) ta tb) (dOp (dIsB true) ta' tb') := de_cmp op_isnot_bl l2_notB ha hb (nomark _)
theorem dt_isB (ha : DE X F0 a ta ta') (hb : DE X F0 b tb tb') : DT X F0 (.Compare a [.Is] [b] pos) (tTest (tOp (fun x y H Q => ∃ a b, x = .bl a ∧ y = .bl b ∧ Q (.bl (decide (a = b))) H) ta tb)) (dTest (dOp (dIsB false) ta' tb')) := dt_cmp op_is_bl l2_isB ha hb (nomark _)
theorem dt_notB (ha : DE X F0 a ta ta') (hb : DE X F0 b tb tb') : DT X F0 (.Compare a [.IsNot] [b] pos) (tTest (tOp (fun x y H Q => ∃ a b, x = .bl a ∧ y = .bl b ∧ Q (.bl (!decide (a = b))) H) ta tb)) (dTest (dOp (dIsB true) ta' tb')) := dt_cmp op_isnot_bl l2_notB ha hb (nomark _)
end
end DL

set_option maxRecDepth 100000
set_option maxHeartbeats 2000000
namespace DL
open PySem PySem.Spec PyProof.Rows L2

/-! ### name = {k: v for ..} on one row -/
section
variable {X : Cx} {K : PySem.W.Frag} {F0 : FZ} {kx vx tg iter : Expr} {ifs : List Expr} {scope : Scope} {own : List (Str × Nat)} {pos spos py : Pos} {wi : TI} {wi' : DTI} {g' : DTG} {tt' : DTT} {tk' te' : DTE}
theorem sw_trueD {gs : List Comprehension} {y : Str} {l : Nat} {env : Env} (hk : env.scope.kind = .function) (hy : env.scope.names.lookup y = some .local) (hl : (py.line == pos.line) = true) (ha : (scope.names.any fun (n, k) => n == y && (k == .local || k == .cell)) = false) :
    swapsWith (.DictComp kx vx gs scope pos) (some (.Name y py)) l env = pure true := by
  have ky : env.kindOf y = some .local := hy
  have hb : env.blockKind = .function := by (unfold Env.blockKind; rw [hk]; rfl)
  unfold swapsWith
  simp only [hb, ky, ha, Expr.pos, hl]; rfl
theorem ps_setDc {i : Nat} {y : Str} {g : TG} {tt : TT} {tk tv : TE} (hc : X.calm = true) (hN : X.N.Nodup) (hy : X.N[i]? = some y) (hyl : X.env.scope.names.lookup y = some .local) (hsw : swapsWith (.DictComp kx vx [⟨tg, iter, ifs, 0⟩] scope pos) (some (.Name y py)) spos.line X.env = pure true) (hi : PI X tg iter wi) (ok : BlkOk X.N X.env.scope scope own)
    (hg : Blk X scope fun Y => PG Y tg g) (ht : Blk X scope fun Y => PTs Y ifs tt) (hk : Blk X scope fun Y => PE Y kx tk) (he : Blk X scope fun Y => PE Y vx tv) (hs : ∀ x, foldedSetIterable iter X.env x = pure x) : PS X (.Assign [.Name y py] (.DictComp kx vx [⟨tg, iter, ifs, 0⟩] scope pos) spos) (tAsg (tDc wi g tt tk tv (own.map (·.2))) (gName i)) := by
  refine ⟨fun pins s σ H D I h => ?_⟩
  rw [exec_Assign_Name_used _ _ _ _ hsw]
  refine wpAny_bind (wpAny_standAt (wpAny_bind (?_ : wpAny _ X.A (do let _ ← comprehension (.DictComp kx vx [⟨tg, iter, ifs, 0⟩] scope pos) scope X.env (firstIterPos [⟨tg, iter, ifs, 0⟩] pos) newDict false (eval iter X.env) (some (assign (.Name y py) X.env))) _ _ s)))
  have h : tDc wi g tt tk tv (own.map (·.2)) σ H (fun x H1 => gName i x σ H1 D.nx) := h
  refine wpAny_bind (thn (dc_core (Qf := fun _ s' => SP X pins D .next s') hc hN I hi ok hg ht hk he hs h fun L C s' m H' I' q hn f => ?_) fun _ s' hq => wpAny_pure (wpAny_pure hq))
  refine (?_ : wpAny _ _ (assign (.Name y py) X.env (.ref L)) _ _ _)
  refine wpAny_assign_Name (store_ok2 (v := V.ref L) I' hN hy (.inl hyl) rfl (fun s2 I2 ⟨a, sb, ha⟩ => ?_) (.inr hyl))
  obtain ⟨f0, f1, f2, f3, f4, f5⟩ := f
  have haC : C ≠ a := ha.elim (fun z => z ▸ f1) fun z e => f4 y a z e.symm
  exact ⟨m, hn.sameBut sb haC, fun h3 sb3 => ⟨_, H', I2.turned (t' := s2.toks) (fun b o hb e => (sb3.2 b hb).trans e) f0 f1 f3 f4 f5, q⟩⟩
theorem dx_setDc (i : Nat) {y : Str} (hc : X.calm = true) (hN : X.N.Nodup) (hsw : swapsWith (.DictComp kx vx [⟨tg, iter, ifs, 0⟩] scope pos) (some (.Name y py)) spos.line X.env = pure true) (hi : DI X F0 tg iter wi wi') (ok : BlkOk X.N X.env.scope scope own) (hg : Blk X scope fun Y => DGx Y F0 (own.map (·.2)) tg g') (ht : Blk X scope fun Y => DTx Y F0 ifs tt') (hk : Blk X scope fun Y => DEx Y F0 kx tk') (he : Blk X scope fun Y => DEx Y F0 vx te')
    (hs : ∀ x, foldedSetIterable iter X.env x = pure x := by intro _; rfl) (hy : X.N[i]? = some y := by rfl) (hyl : X.env.scope.names.lookup y = some .local := by rfl) : DS X F0 (.Assign [.Name y py] (.DictComp kx vx [⟨tg, iter, ifs, 0⟩] scope pos) spos) (tAsg (tDc wi (lfG X.K F0 (own.map (·.2)) g') (lfT X.K F0 tt') (lfE X.K F0 tk') (lfE X.K F0 te') (own.map (·.2))) (gName i)) (dAsg (dDc wi' g' tt' tk' te' (own.map (·.2))) (hName i)) :=
  ⟨ps_setDc hc hN hy hyl hsw hi.pi ok (fun s H C cl fp => (hg s H C cl fp).pg) (fun s H C cl fp => (ht s H C cl fp).pt) (fun s H C cl fp => (hk s H C cl fp).pe) (fun s H C cl fp => (he s H C cl fp).pe) hs,
    ls_asg (le_dc hi.le lg_lfG gw_lfG (le_lfT _) (le_lfE _) (le_lfE _)) (dg_name (X := X) (F0 := F0) (pos := pos) i hN hy (Or.inl hyl) (.inr hyl)).le⟩
end
section
variable {X : Cx} {F0 : FZ} {a b c : Expr} {ta tb tc : TE} {ta' tb' tc' : DTE} {pos : Pos}
theorem dt_chain {op op' : CmpOp} {r r' : R2} {d d' : DR2} (ho : OpR X (compareOp op) r) (hr : L2r X.K F0 d r) (ho' : OpR X (compareOp op') r') (hr' : L2r X.K F0 d' r') (ha : DE X F0 a ta ta') (hb : DE X F0 b tb tb') (hc : DE X F0 c tc tc')
    (hm : lastMarks [op, op'] [b, c] = false := by with_unfolding_all rfl) : DT X F0 (.Compare a [op, op'] [b, c] pos) (tTest (tChain r r' ta tb tc)) (dTest (dChain d d' ta' tb' tc')) :=
  ⟨pt_chain ho ho' ha.pe hb.pe hc.pe hm, le_test (le_chain hr hr' ha.le hb.le hc.le)⟩
end
end DL

set_option maxRecDepth 100000
set_option maxHeartbeats 2000000
namespace DL
open PySem PySem.Spec PyProof.Rows L2

/-! ### calls that may raise, within a try or a def that raises -/
abbrev DXG := G → DXK
theorem SR.lessP {K : PySem.W.Frag} {F : FZ} {M : Mp} {H q : Hp} (s : SR K F M H) (h : Same q F.p) : SR K ⟨F.f, q, F.d⟩ M H :=
  ⟨s.fz, s.ok, s.dj, fun b o e => s.pz b o (h b o e), fun b o e => s.pf b o (h b o e), fun b o e => let ⟨u, h1, h2⟩ := s.mu b o e; ⟨u, h1, MR.monoS (F := F) (F' := ⟨F.f, q, F.d⟩) Sm.rfl' h2⟩, s.dz, s.df⟩
theorem XR.mono {K : PySem.W.Frag} {F F' : FZ} {fs : Option (List (Str × D))} {d : Option Addr} {H : Hp} (e : Sm F F') (h : XR K F fs d H) : XR K F' fs d H := by
  cases fs with
  | none => cases d <;> exact h
  | some l =>
    cases d with
    | none => exact h
    | some a => obtain ⟨gs, h1, h2⟩ := h; exact ⟨gs, h1, h2.monoS e⟩
def lXg (K : PySem.W.Frag) (F0 : FZ) (E : DXG) : L2.St → XK := fun σ c d H => ∃ F γ M fs, FLe F0 F ∧ GR K F γ σ ∧ SR K F M H ∧ XR K F fs d H ∧ E γ c fs M
def lXW (K : PySem.W.Frag) (F0 : FZ) (E : DXG) : WX := fun c d σ H => lXg K F0 E σ c d H
def dCallS (sp : DSp) (E : DXG) (t : DTA) : DTE := fun γ M Q => t γ M fun ds M1 => sp ds M1 Q (E γ)
section
variable {X : Cx} {K : PySem.W.Frag} {F0 : FZ} {e : Expr} {es : List Expr} {t : TA} {t' : DTA} {p pos : Pos}
theorem le_callS {sp : DSp} {E : DXG} (ha : LA K F0 t' t) : LE K F0 (dCallS sp E t') (tCallS (liftSp K sp) (lXg K F0 E) t) := by
  intro F γ M σ H Q' Q e0 s g q k
  refine ha F γ M σ H _ _ e0 s g q fun F1 ds vs M1 H1 e1 s1 r1 q1 => ?_
  refine ⟨F1, ds, M1, Q', E γ, s1, r1, q1, fun F2 d v M2 H2 e2 s2 r2 q2 => k F2 d v M2 H2 (e1.trans e2) s2 r2 q2, fun c d H1 ⟨F2, M2, fs, e2, s2, x2, h⟩ => ?_⟩
  have b2 := (e0.tr e1).tr e2
  exact ⟨⟨F2.f, F0.p, F2.d⟩, γ, M2, fs, ⟨b2.f, rfl⟩, GR.monoS (F := F2) (F' := ⟨F2.f, F0.p, F2.d⟩) Sm.rfl' (g.mono (e1.trans e2)), s2.lessP b2.p, XR.mono (F := F2) (F' := ⟨F2.f, F0.p, F2.d⟩) Sm.rfl' x2, h⟩
theorem de_callS {k j : Nat} {x : Str} {sp : DSp} {E : DXG} (c : DCal X.prog X.w X.K X.mg X.base (L2.CX X.prog X.w) k x sp) (hr : Room j X.A) (tk : L2.Takes X (lXW X.K F0 E)) (ha : DA X F0 (e :: es) t t') (hk : k ≤ j := by decide) (hg : Gl X x := by rfl)
    (hdb : (x == ("__debug__" : Str)) = false := by decide) (he : starEach (e :: es) X.env = (false, eval e X.env) :: starEach es X.env := by rfl) (hpl : (backTo pos (starEach es X.env)).any (·.1) = false := by rfl) : DE X F0 (.Call (.Name x p) (e :: es) [] pos) (tCallS (liftSp X.K sp) (lXg X.K F0 E) t) (dCallS sp E t') := by
  obtain ⟨f, fd, ps, G, hm, hkp, hb⟩ := c.ex
  exact ⟨pe_callS G (hr.mono hk) hg hm hkp hb (fun σ => passAt tk σ) ha.pa hdb he hpl, le_callS ha.le⟩
end

/-! ### raise C() -/
/-- an error's class without fields of its own -/
structure ExCls (K : PySem.W.Frag) (mg : Str → Option Value) (x : Str) (C : Addr) : Prop where
  gC : mg x = some (.ref C)
  kC : PySem.W.keepIn K (.ref C) = true
  q : PySem.W.excIn K C [.type "ValueError", .type "Exception", .type "BaseException", .type "object"] "ValueError.__new__" = true
  sub : PySem.W.subIn K (.ref C) (.type "BaseException") = some true
  ty : PySem.W.typeIn K (.ref C) = some (.type "type")
section
variable {X : Cx} {F0 : FZ} {C : Addr} {x : Str} {p pos pos2 : Pos}
theorem pmk_own0 (T : ExCls X.K X.mg x C) (hg : Gl X x) (hdb : (x == ("__debug__" : Str)) = false) : PMk X (.Call (.Name x p) [] [] pos) (fun _ H Q => Q (.ref C) none H) := by
  intro pins s σ H Q I h
  refine wpAny_Call_Name_kw (ld_glob I hg T.gC (PySem.W.callWith_K0 I.kIn T.kC ?_) hdb)
  obtain ⟨bm, N, nm, qn, bs, hdct, sn, sub, ab, col, dd, k0, k1, k2, k3, k5, mN, hC, hN, hni, Tl⟩ := exc_obj I.kIn T.q
  refine (?_ : wpAny _ _ (call (.ref C) []) _ _ _)
  exact wpAny_call_exc_subT PySem.F.excBase_ValueError Tl hC hN hni (fun h' e hm => mk_of I hm (raises_own T.sub T.ty) h (I.hok.gone hm.new)) (Nat.zero_le _)
def dRaise (C : Addr) (E : DXG) : DTS := fun _ γ M => E γ (.ref C) none M
theorem ds_raise {E : DXG} (T : ExCls X.K X.mg x C) (hc : X.calm = true) (tk : L2.Takes X (lXW X.K F0 E)) (hg : Gl X x := by rfl) (hdb : (x == ("__debug__" : Str)) = false := by decide) : DS X F0 (.Raise (some (.Call (.Name x p) [] [] pos)) none pos2) (fun _ σ H => lXW X.K F0 E (.ref C) none σ H) (dRaise C E) :=
  ⟨L2.ps_raise hc tk (pmk_own0 T hg hdb), fun F γ M σ H D' D e0 s g q er => ⟨⟨F.f, F0.p, F.d⟩, γ, M, none, ⟨e0.f, rfl⟩, GR.monoS (F := F) (F' := ⟨F.f, F0.p, F.d⟩) Sm.rfl' g, s.lessP e0.p, trivial, q⟩⟩
end

/-! ### try: .. except C as e: .. -/
def lfS (K : PySem.W.Frag) (F0 : FZ) (t' : DTS) : TS := fun D σ H => ∃ F γ M D', Bs F0 F ∧ SR K F M H ∧ GR K F γ σ ∧ t' D' γ M ∧ ER K F D' D
theorem lfS_pss {X : Cx} {F0 : FZ} {st : List Stmt} {t : TS} {t' : DTS} (h : DB X F0 st t t') : PSs X st (lfS X.K F0 t') := by
  refine ⟨fun pins s σ H D I q => ?_⟩
  obtain ⟨F, γ, M, D', e0, s1, g, q, er⟩ := q
  exact h.ps.run pins s σ H D I (h.le F γ M σ H D' D e0 s1 g q er)
/-- what the handler wishes of an error of the body -/
def dWAs (K : PySem.W.Frag) (c : Value) (i : Nat) (u' : Addr → Addr → DTS) (Eout : DXG) (D : DEnds) : DXG := fun γ cls fs M => ∃ Dc b, cls = .ref Dc ∧ fs = none ∧ ExcC K Dc ∧ PySem.W.exmOne K cls c = some b ∧
  (b = true → ∀ a, M a = none → u' a Dc { nx := fun γ' M' => D.nx (γ'.set i none) M', rt := D.rt, bk := fun γ' M' => D.bk (γ'.set i none) M', ct := fun γ' M' => D.ct (γ'.set i none) M' } (γ.set i (some (.ref a))) M) ∧ (b = false → Eout γ cls fs M)
def dTry (K : PySem.W.Frag) (c : Value) (i : Nat) (t' : DXG → DTS) (u' : Addr → Addr → DTS) (Eout : DXG) : DTS := fun D γ M => t' (dWAs K c i u' Eout D) D γ M
theorem GR.setN {K : PySem.W.Frag} {F : FZ} {γ : G} {σ : L2.St} (h : GR K F γ σ) (i : Nat) : GR K F (γ.set i none) (σ.set i none) := gr_wipe h [i]
section
variable {X : Cx} {F0 : FZ} {x n : Str} {c : Value} {body suite : List Stmt} {b₀ : Stmt} {np pos pos' : Pos} {t' : DXG → DTS} {u' : Addr → Addr → DTS} {Eout : DXG}
theorem ds_tryAs (i : Nat) (hN : X.N.Nodup) (hc : Names X x c) (tk : L2.Takes X (lXW X.K F0 Eout))
    (hb : ∀ (F1 : FZ) (E : DXG) (pn : List (Addr × Obj)) (xe : Value → Shared → Prop), L2.Takes (X.tr pn xe) (lXW X.K F1 E) → ∃ t, DB (X.tr pn xe) F1 body t (t' E))
    (hsu : ∀ (a Dc : Addr) (oe : Obj) (pn : List (Addr × Obj)), ExcC X.K Dc → Zc (.ref Dc) none oe → (∃ vs, oe.data = .fields vs) → ∃ t, DB (X.suite a ((a, oe) :: pn)) F0 (b₀ :: suite) t (u' a Dc))
    (hs : X.stack = X.env :: X.outer := by rfl) (hf : X.env.frame = some X.env.locals := by rfl) (hi : X.N[i]? = some n := by rfl) (hln : X.env.kindOf n = some .local := by rfl) :
    DS X F0 (.Try body [.ExceptHandler (some (.Name x np)) (some n) (b₀ :: suite) pos'] [] [] pos) (fun D σ H => (fun W D σ H => ∃ (F1 : FZ) (E : DXG), (∀ c d σ H, lXW X.K F1 E c d σ H → W c d σ H) ∧ lfS X.K F1 (t' E) D σ H) (wAs X.K c i (fun a cls d D σ H => ∃ Dc, cls = .ref Dc ∧ d = none ∧ ExcC X.K Dc ∧ lfS X.K F0 (u' a Dc) D σ H) (lXW X.K F0 Eout) D) D σ H) (dTry X.K c i t' u' Eout) := by
  refine ⟨L2.ps_try_as (tb := fun W D σ H => ∃ (F1 : FZ) (E : DXG), (∀ c d σ H, lXW X.K F1 E c d σ H → W c d σ H) ∧ lfS X.K F1 (t' E) D σ H) (ts := fun a cls d D σ H => ∃ Dc, cls = .ref Dc ∧ d = none ∧ ExcC X.K Dc ∧ lfS X.K F0 (u' a Dc) D σ H) hs hf hN hi hln hc tk (fun W pn xe tkW _ => ⟨fun pins s σ H D I q => ?_⟩) (fun a oe cls d pn hz hfl => ⟨fun pins s σ H D I q => ?_⟩), fun F γ M σ H D' D e0 s g q er => ?_⟩
  · obtain ⟨F1, E, hE, q⟩ := q
    obtain ⟨t, d⟩ := hb F1 E pn xe (tkW.imp hE)
    exact (lfS_pss d).run pins s σ H D I q
  · obtain ⟨Dc, rfl, rfl, hx, q⟩ := q
    obtain ⟨t, d⟩ := hsu a Dc oe pn hx hz hfl
    exact (lfS_pss d).run pins s σ H D I q
  · refine ⟨F, dWAs X.K c i u' Eout D', fun cls d σ1 H1 w => ?_, F, γ, M, D', Bs.refl F, s, g, q, er⟩
    obtain ⟨F1, γ1, M1, fs, e1, g1, s1, x1, Dc, b, rfl, rfl, hx, hb1, hyes, hno⟩ := w
    have b1 := e0.tr e1
    refine ⟨b, hb1, fun hbt a ha => ?_, fun hbf => ⟨⟨F1.f, F0.p, F1.d⟩, γ1, M1, none, ⟨b1.f, rfl⟩, GR.monoS (F := F1) (F' := ⟨F1.f, F0.p, F1.d⟩) Sm.rfl' g1, s1.lessP b1.p, XR.mono (F := F1) (F' := ⟨F1.f, F0.p, F1.d⟩) Sm.rfl' x1, hno hbf⟩⟩
    cases d with
    | some dd => exact x1.elim
    | none =>
      refine ⟨Dc, rfl, rfl, hx, F1, γ1.set i (some (.ref a)), M1, _, b1, s1, g1.set (.ref a) i, hyes hbt a (s1.freeM ha), ⟨fun F2 γ2 M2 σ2 H2 e2 s2 g2 q2 => ?_, fun F2 d2 v2 M2 H2 e2 => er.rt F2 d2 v2 M2 H2 (e1.trans e2), fun F2 γ2 M2 σ2 H2 e2 s2 g2 q2 => ?_, fun F2 γ2 M2 σ2 H2 e2 s2 g2 q2 => ?_⟩⟩
      · exact er.nx F2 _ M2 _ H2 (e1.trans e2) s2 (g2.setN i) q2
      · exact er.bk F2 _ M2 _ H2 (e1.trans e2) s2 (g2.setN i) q2
      · exact er.ct F2 _ M2 _ H2 (e1.trans e2) s2 (g2.setN i) q2
end
end DL

set_option maxRecDepth 100000
set_option maxHeartbeats 2000000
namespace DL
open PySem PySem.Spec PyProof.Rows L2

/-! ### classes as values, isinstance(e, C) in an except clause -/
section
variable {X : Cx} {K : PySem.W.Frag} {F0 : FZ}
theorem de_cls {x : Str} {C : Addr} {pos : Pos} (hm : X.mg x = some (.ref C)) (hg : Gl X x := by rfl) (hd : (x == ("__debug__" : Str)) = false := by decide) : DE X F0 (.Name x pos) (tC (.ref C)) (dC (.ref C)) :=
  ⟨pe_glob hg hm rfl hd, le_c fun _ => .ref C⟩
def clsV : D → Option Value
  | .ref C => some (.ref C)
  | .ty n => some (.type n)
  | _ => none
def dIsE (K : PySem.W.Frag) (Dc a : Addr) : DRC := fun ds M Q => match ds with
  | [.ref a', c] => a' = a ∧ ∃ cv b, clsV c = some cv ∧ PySem.W.kitOne K (.ref Dc) cv = some b ∧ Q (.bl b) M
  | _ => False
theorem lc_isE {Dc a : Addr} : LC K F0 (dIsE K Dc a) (rIsE K Dc a) := by
  intro F M H ds vs Q' Q e0 s r q k
  unfold dIsE at q
  split at q
  · obtain ⟨rfl, cv, b, hc, hk, q⟩ := q
    cases r with
    | cons r1 r2 =>
      cases r2 with
      | cons r2 r3 =>
        cases r3
        cases r1
        have kk := k F (.bl b) (.bl b) M H (FLe.refl F) s (.bl _) q
        cases r2 with
        | ref C => cases hc; exact ⟨.ref C, .ref C, b, rfl, fun u hu => hu, hk, kk⟩
        | ty n => cases hc; exact ⟨.ty n, .type n, b, rfl, fun u hu => hu, hk, kk⟩
        | _ => cases hc
  · exact q.elim
theorem de_isE {a Dc : Addr} {oe : Obj} {pn : List (Addr × Obj)} {e e2 : Expr} {ta : TA} {ta' : DTA} {p pos : Pos} (C : ExcC X.K Dc) (hz : Zc (.ref Dc) none oe) (hf : ∃ vs, oe.data = .fields vs) (hm : X.mg "isinstance" = none) (ha : DA (X.suite a ((a, oe) :: pn)) F0 [e, e2] ta ta') (hg : Gl X "isinstance" := by rfl)
    (he : starEach [e, e2] X.env = (false, eval e X.env) :: starEach [e2] X.env := by rfl) (hpl : (backTo pos (starEach [e2] X.env)).any (·.1) = false := by rfl) : DE (X.suite a ((a, oe) :: pn)) F0 (.Call (.Name "isinstance" p) [e, e2] [] pos) (tCB (rIsE X.K Dc a) ta) (dCB (dIsE X.K Dc a) ta') :=
  de_blt (X := X.suite a ((a, oe) :: pn)) (call_isE C hz hf) lc_isE hm ha (by decide +kernel) hg (by decide) (by decide) he hpl
end
/-- what a def's wish takes, what takes nothing -/
theorem takesX {X : Cx} {E : XK} {F0 : FZ} {E' : DXK} (tk : L2.Takes X (fun cls d _ H => E cls d H)) (hE : ∀ c d H1, lX X.K F0 E' c d H1 → E c d H1) : L2.Takes X (lXW X.K F0 fun _ => E') :=
  tk.imp fun c d σ H ⟨F, γ, M, fs, e, g, s, x, h⟩ => hE c d H ⟨F, M, fs, e, s, x, h⟩
theorem takesN {X : Cx} {F0 : FZ} : L2.Takes X (lXW X.K F0 fun _ => DXK.no) := L2.takes0.imp fun c d σ H ⟨F, γ, M, fs, e, g, s, x, h⟩ => h
end DL

set_option maxRecDepth 100000
set_option maxHeartbeats 2000000
namespace DL
open PySem PySem.Spec PyProof.Rows L2

/-! ### len(set(..)) of any ints -/
theorem nd_len : ∀ {l m : List Int}, l.Nodup → (∀ x, x ∈ l → x ∈ m) → l.length ≤ m.length
  | [], _, _, _ => Nat.zero_le _
  | a :: l, m, nd, h => by
    rw [List.nodup_cons] at nd
    have ha : a ∈ m := h a List.mem_cons_self
    have := nd_len (l := l) (m := m.erase a) nd.2 fun x hx => (List.mem_erase_of_ne fun e => nd.1 (by rw [← e]; exact hx)).mpr (h x (List.mem_cons_of_mem _ hx))
    have e := List.length_erase_of_mem ha
    have p := List.length_pos_of_mem ha
    rw [List.length_cons]; omega
theorem nd_of_len : ∀ {ns fm : List Int}, fm.Nodup → (∀ x, x ∈ fm → x ∈ ns) → fm.length = ns.length → ns.Nodup
  | [], _, _, _, _ => List.nodup_nil
  | a :: r, fm, nd, h, e => by
    rw [List.length_cons] at e
    have big : ¬ ∀ x, x ∈ fm → x ∈ r := fun z => by have := nd_len nd z; omega
    have ha : a ∈ fm := by
      by_cases c : a ∈ fm
      · exact c
      · exact absurd (fun x hx => (List.mem_cons.mp (h x hx)).resolve_left fun z => c (z ▸ hx)) big
    have hr : a ∉ r := fun z => big fun x hx => (List.mem_cons.mp (h x hx)).elim (fun y => by rw [y]; exact z) id
    refine List.nodup_cons.mpr ⟨hr, nd_of_len (fm := fm.erase a) (nd.erase a) (fun x hx => ?_) (by rw [List.length_erase_of_mem ha]; omega)⟩
    have hx2 : x ∈ fm := List.mem_of_mem_erase hx
    refine (List.mem_cons.mp (h x hx2)).resolve_left fun z => ?_
    subst z
    exact (List.Nodup.not_mem_erase nd) hx
theorem fm_facts (val : Nat → Int) : ∀ i : Nat, (firstMet val i).Nodup ∧ ∀ k, k ∈ firstMet val i ↔ ∃ j, j < i ∧ val j = k
  | 0 => ⟨List.nodup_nil, fun k => ⟨fun h => (by cases h), fun ⟨j, h, _⟩ => absurd h (Nat.not_lt_zero j)⟩⟩
  | i + 1 => by
    obtain ⟨h1, h2⟩ := fm_facts val i
    rw [firstMet_succ]
    unfold step_dedup
    by_cases c : (firstMet val i).any (· == val i) = true
    · rw [if_pos c]
      have cm : val i ∈ firstMet val i := by
        obtain ⟨x, hx, e⟩ := List.any_eq_true.mp c
        rw [← beq_iff_eq.mp e]; exact hx
      refine ⟨h1, fun k => (h2 k).trans ⟨fun ⟨j, hj, e⟩ => ⟨j, by omega, e⟩, fun ⟨j, hj, e⟩ => ?_⟩⟩
      by_cases z : j = i
      · subst z; rw [← e]; exact (h2 _).mp cm
      · exact ⟨j, by omega, e⟩
    · rw [if_neg c]
      have cm : val i ∉ firstMet val i := fun h => c (List.any_eq_true.mpr ⟨_, h, beq_iff_eq.mpr rfl⟩)
      refine ⟨List.nodup_append.mpr ⟨h1, by simp, fun a ha b hb => by rw [List.mem_singleton.mp hb]; exact fun z => cm (z ▸ ha)⟩, fun k => ?_⟩
      rw [List.mem_append, h2, List.mem_singleton]
      constructor
      · rintro (⟨j, hj, e⟩ | e)
        · exact ⟨j, by omega, e⟩
        · exact ⟨i, by omega, e.symm⟩
      · rintro ⟨j, hj, e⟩
        by_cases z : j = i
        · subst z; exact .inr e.symm
        · exact .inl ⟨j, by omega, e⟩
section
variable {X : Cx} {K : PySem.W.Frag} {F0 : FZ} {a : Expr} {ta : TE} {ta' : DTE} {pos : Pos}
def dLenSetG (ta : DTE) : DTE := fun γ M Q => ta γ M fun x M1 => ∃ ns : List Int, seqInts M1 x = some (ns.map .int) ∧ ns.length ≤ 4000 ∧ ∀ c : Nat, c ≤ ns.length → (c = ns.length ↔ ns.Nodup) → Q (.int (c : Int)) M1
def tLenSetG (K : PySem.W.Frag) (ta : TE) : TE := fun σ H Q => ta σ H fun x H1 => ∃ (l : Addr) (ns : List Int), x = .ref l ∧ (SqL K H1 l (ns.map V.int) ∨ SqT K H1 l (ns.map V.int)) ∧ ns.length ≤ 4000 ∧ ∀ c : Nat, c ≤ ns.length → (c = ns.length ↔ ns.Nodup) → Q (.int (c : Int)) H1
theorem pe_lenSetG {p p2 q : Pos} (hm : X.mg "len" = none) (hm2 : X.mg "set" = none) (ha : PE X a ta) (hg : Gl X "len" := by rfl) (hg2 : Gl X "set" := by rfl) (hc : X.calm = true := by rfl)
    (na : starEach [a] X.env = (false, eval a X.env) :: starEach [] X.env := by rfl) : PE X (.Call (.Name "len" p) [.Call (.Name "set" p2) [a] [] q] [] pos) (tLenSetG X.K ta) := by
  refine ⟨fun pins s σ H Q I h => Call_ (ld_blt I hg hm PySem.boot_len (PyProof.Rows.callWith_builtin1 (PyProof.Rows.args_cons (Call_ (ld_blt I hg2 hm2 PyProof.Rows.boot_set (PyProof.Rows.callWith_type1 (PyProof.Rows.args_cons (thn (ha.run pins s σ H _ I h) fun v s1 ⟨x, H1, I1, r1, q1⟩ => PyProof.Rows.args_nil ?_) na) na rfl))) rfl) rfl rfl))⟩
  obtain ⟨l, ns, rfl, hq, hl, q1⟩ := q1
  cases r1
  rcases hq with hq | hq
  · obtain ⟨its, r, pl, _⟩ := I1.list hq
    have hlen : its.toArray.size = ns.length := by rw [List.size_toArray, ← r.length, List.length_map]
    refine PySem.call_set_list (I1.ok.hd hc) pl.isList (by simpa using RZ.intsAre_vals r) (by rw [hlen]; unfold scanBound; omega) fun h' tk hS hk => PyProof.Rows.args_nil ?_
    rw [hlen] at hS
    obtain ⟨f1, f2⟩ := fm_facts (fun i => ns.getD i 0) ns.length
    have f3 := firstMet_length_le (fun i => ns.getD i 0) ns.length
    have f4 : (firstMet (fun i => ns.getD i 0) ns.length).length = ns.length ↔ ns.Nodup := ⟨fun e => nd_of_len f1 (fun x hx => by
      obtain ⟨j, hj, e⟩ := (f2 x).mp hx
      rw [← e]
      simp only [List.getD_eq_getElem?_getD, List.getElem?_eq_getElem hj, Option.getD_some]
      exact List.getElem_mem hj) e, fun nd => by rw [RZ.firstMet_nodup nd ns.length (Nat.le_refl _), List.take_length]⟩
    obtain ⟨o, es, ep, t, ho, hex, hd, _, _, _, hf, hn⟩ := hS
    exact call_len_set ho hex hd hf (by rw [hn] <;> omega) ⟨.int ((firstMet (fun i => ns.getD i 0) ns.length).length : Nat), H1, (I1.kept fun b o e => hk b o (Heap.lt_size e) e).tok _, ⟨_, by rw [hn]⟩, q1 _ f3 f4⟩
  · obtain ⟨its, r, pl, _⟩ := I1.tuple hq
    refine call_set_tupI ns (I1.ok.hd hc) pl (by simpa using RZ.intsAre_vals r) (by unfold scanBound; omega) fun h' tk c hS hle hk => PyProof.Rows.args_nil ?_
    obtain ⟨o, es, ep, t, ho, hex, hd, _, nd, mem, _, hf, hn, _, _⟩ := hS
    have f4 : c = ns.length ↔ ns.Nodup := by
      have e1 : (es.toList.map L2.keyOf).length = c := by rw [List.length_map, Array.length_toList]; exact hn
      refine ⟨fun e => nd_of_len nd (fun x hx => by have := (mem x).mpr hx; simpa using this) (by omega), fun hnd => ?_⟩
      have pm : (es.toList.map L2.keyOf).Perm ns := (List.perm_ext_iff_of_nodup nd hnd).mpr fun k => by rw [← mem k]; simp
      rw [← pm.length_eq]; exact e1.symm
    exact call_len_set ho hex hd hf (by rw [hn] <;> omega) ⟨.int (c : Nat), H1, (I1.kept hk).tok _, ⟨_, by rw [hn]⟩, q1 c hle f4⟩
theorem de_lenSetG {p p2 q : Pos} (hm : X.mg "len" = none) (hm2 : X.mg "set" = none) (ha : DE X F0 a ta ta') (hg : Gl X "len" := by rfl) (hg2 : Gl X "set" := by rfl) (hc : X.calm = true := by rfl)
    (na : starEach [a] X.env = (false, eval a X.env) :: starEach [] X.env := by rfl) : DE X F0 (.Call (.Name "len" p) [.Call (.Name "set" p2) [a] [] q] [] pos) (tLenSetG X.K ta) (dLenSetG ta') := ⟨pe_lenSetG hm hm2 ha.pe hg hg2 hc na, fun F γ M σ H Q' Q e0 s g q k => by
  refine ha.le F γ M σ H _ _ e0 s g q fun F1 d1 v1 M1 H1 e1 s1 r1 q1 => ?_
  obtain ⟨ns, h1, h3, q1⟩ := q1
  obtain ⟨p, xs, rfl, h4, h5⟩ := seq_rp s1 r1 h1
  have z := RpL.int ns h5
  subst z
  exact ⟨p, ns, rfl, h4, h3, fun c h6 h7 => k F1 _ _ M1 H1 e1 s1 (.int _) (q1 c h6 h7)⟩⟩
end
end DL

set_option maxRecDepth 100000
set_option maxHeartbeats 2000000
namespace DL
open PySem PySem.Spec PyProof.Rows L2

/-! ### one error's class against another -/
section
variable {K : PySem.W.Frag} {S C : Addr} {b : Bool}
theorem kitCls_ref (h2 : PySem.W.isClsIn K C = true) (h3 : PySem.W.typeIn K (.ref C) = some (.type "type")) (h4 : PySem.W.subIn K (.ref S) (.ref C) = some b) : PySem.W.kitCls K (.ref S) (.ref C) = some b := by
  have e2 : ((PySem.W.clsIn K C).isSome && PySem.W.typeIn K (.ref C) == some (.type "type")) = true := by
    have h2' : (PySem.W.clsIn K C).isSome = true := h2
    rw [h2', h3]; rfl
  unfold PySem.W.kitCls
  simp only
  rw [if_pos e2]
  exact h4
theorem exm_ref (h1 : PySem.W.subIn K (.ref C) (.type "BaseException") = some true) (h2 : PySem.W.isClsIn K C = true) (h3 : PySem.W.typeIn K (.ref C) = some (.type "type")) (h4 : PySem.W.subIn K (.ref S) (.ref C) = some b) : PySem.W.exmOne K (.ref S) (.ref C) = some b := by
  unfold PySem.W.exmOne
  rw [if_pos (by rw [h1]; rfl)]
  exact kitCls_ref h2 h3 h4
theorem kit_ref (h2 : PySem.W.isClsIn K C = true) (h3 : PySem.W.typeIn K (.ref C) = some (.type "type")) (hs : PySem.W.subIn K (.ref S) (.ref S) = some true) (h4 : PySem.W.subIn K (.ref S) (.ref C) = some b) : PySem.W.kitOne K (.ref S) (.ref C) = some b := by
  unfold PySem.W.kitOne
  by_cases e : S = C
  · subst e
    rw [hs] at h4; cases h4
    exact if_pos (by simp)
  · rw [if_neg (by intro z; exact e (by have := beq_iff_eq.mp z; cases this; rfl))]
    exact kitCls_ref h2 h3 h4
theorem kit_typ {T : String} (hm : PySem.W.kitMeta T = true) (h4 : PySem.W.subIn K (.ref S) (.type T) = some b) : PySem.W.kitOne K (.ref S) (.type T) = some b := by
  unfold PySem.W.kitOne
  rw [if_neg (by intro z; have := beq_iff_eq.mp z; cases this)]
  unfold PySem.W.kitCls
  simp only
  rw [if_pos hm]
  exact h4
end
end DL

set_option maxRecDepth 100000
set_option maxHeartbeats 2000000
namespace DL
open PySem PySem.Spec PyProof.Rows L2

/-! ### min, max of one list or tuple of ints -/
section
variable {prog : Program} {w : World} {A : Around} {E : Value → Shared → Prop} {s : Shared} {l : Addr} {its : List Value} {ns : List Int} {Q : Value → Shared → Prop}
theorem max_tupI (hh : A.handled = none) (hl : s.heap.IsTuple l its.toArray) (hi : IntsAre its ns) (hne : 0 < ns.length)
    (h : ∀ h' tk M t', (∀ b o, s.heap.get? b = some o → h'.get? b = some o) → M ∈ ns → (∀ a, a ∈ ns → a ≤ M) → Q (.int M t') { s with heap := h', toks := tk }) : wpAny (model prog w) A (call (.builtin "max") [.ref l]) Q E s := by
  obtain ⟨xs, e⟩ := hi.allInts.items
  have hn : numsOf (intItems xs).toList = ns := by rw [← e]; exact hi.numsOf
  rw [nums_intItems] at hn
  subst hn
  rw [e] at hl
  have hsz : 0 < xs.size := by simpa using hne
  have hlt : l < s.heap.objs.size := by
    obtain ⟨o, ho, _⟩ := hl
    exact Heap.lt_size ho
  have hne2 : l ≠ s.heap.objs.size := Nat.ne_of_lt hlt
  have hlI := hl.push { cls := .type "tuple_iterator", data := .fields #[.ref l, .int 0 0] }
  have hs2 : (s.heap.push { cls := .type "tuple_iterator", data := .fields #[.ref l, .int 0 0] }).objs.size = s.heap.objs.size + 1 := Heap.size_push ..
  refine call_max_walk (wpAny_pyIter_tuple hl ?_)
  refine ⟨_, _, _, _, _, _, _, rfl, Walks.tuple (A := A.in1) hh _ l hne2 (intItems xs), ⟨⟨_, Heap.get?_push_size _ rfl, rfl, rfl⟩, hlI⟩, fun b hb => ?_, by simpa [intItems] using hsz, CmpOf.ints_gt (numAt xs) (fun _ _ => intItems_at), fun v h' tk hP hk => ?_⟩
  · show b < (s.heap.push _).objs.size
    rw [hs2]
    rcases List.mem_cons.mp hb with e1 | hb
    · rw [e1]; exact Nat.lt_succ_self _
    · rw [List.mem_singleton.mp hb]; exact Nat.lt_succ_of_lt hlt
  · have hk2 : ∀ b o, s.heap.get? b = some o → h'.get? b = some o := fun b o e => by
      refine hk b o (fun hm => ?_) (Heap.get?_push_of_some _ e)
      have := Heap.lt_size e
      rw [List.mem_singleton.mp hm] at this
      exact Nat.lt_irrefl _ this
    obtain ⟨h1, h2⟩ := argBest_gt (numAt xs) (xs.size - 1)
    have hP2 : (intItems xs)[argBest (fun i j => decide (numAt xs i > numAt xs j)) (xs.size - 1)]? = some v := by simpa [intItems] using hP
    obtain ⟨t, rfl⟩ := intItems_at hP2
    refine h h' tk _ t hk2 ?_ fun a ha => ?_
    · rw [numAt_eq]; exact PySem.getD_mem (by rw [List.length_map, Array.length_toList]; omega)
    · obtain ⟨j, hj, rfl⟩ := mem_getD ha
      rw [List.length_map, Array.length_toList] at hj
      rw [← numAt_eq]; exact h2 j (by omega)
theorem min_tupI (hh : A.handled = none) (hl : s.heap.IsTuple l its.toArray) (hi : IntsAre its ns) (hne : 0 < ns.length)
    (h : ∀ h' tk M t', (∀ b o, s.heap.get? b = some o → h'.get? b = some o) → M ∈ ns → (∀ a, a ∈ ns → M ≤ a) → Q (.int M t') { s with heap := h', toks := tk }) : wpAny (model prog w) A (call (.builtin "min") [.ref l]) Q E s := by
  obtain ⟨xs, e⟩ := hi.allInts.items
  have hn : numsOf (intItems xs).toList = ns := by rw [← e]; exact hi.numsOf
  rw [nums_intItems] at hn
  subst hn
  rw [e] at hl
  have hsz : 0 < xs.size := by simpa using hne
  have hlt : l < s.heap.objs.size := by
    obtain ⟨o, ho, _⟩ := hl
    exact Heap.lt_size ho
  have hne2 : l ≠ s.heap.objs.size := Nat.ne_of_lt hlt
  have hlI := hl.push { cls := .type "tuple_iterator", data := .fields #[.ref l, .int 0 0] }
  have hs2 : (s.heap.push { cls := .type "tuple_iterator", data := .fields #[.ref l, .int 0 0] }).objs.size = s.heap.objs.size + 1 := Heap.size_push ..
  refine call_min_walk (wpAny_pyIter_tuple hl ?_)
  refine ⟨_, _, _, _, _, _, _, rfl, Walks.tuple (A := A.in1) hh _ l hne2 (intItems xs), ⟨⟨_, Heap.get?_push_size _ rfl, rfl, rfl⟩, hlI⟩, fun b hb => ?_, by simpa [intItems] using hsz, CmpOf.ints_lt (numAt xs) (fun _ _ => intItems_at), fun v h' tk hP hk => ?_⟩
  · show b < (s.heap.push _).objs.size
    rw [hs2]
    rcases List.mem_cons.mp hb with e1 | hb
    · rw [e1]; exact Nat.lt_succ_self _
    · rw [List.mem_singleton.mp hb]; exact Nat.lt_succ_of_lt hlt
  · have hk2 : ∀ b o, s.heap.get? b = some o → h'.get? b = some o := fun b o e => by
      refine hk b o (fun hm => ?_) (Heap.get?_push_of_some _ e)
      have := Heap.lt_size e
      rw [List.mem_singleton.mp hm] at this
      exact Nat.lt_irrefl _ this
    obtain ⟨h1, h2⟩ := argBest_lt (numAt xs) (xs.size - 1)
    have hP2 : (intItems xs)[argBest (fun i j => decide (numAt xs i < numAt xs j)) (xs.size - 1)]? = some v := by simpa [intItems] using hP
    obtain ⟨t, rfl⟩ := intItems_at hP2
    refine h h' tk _ t hk2 ?_ fun a ha => ?_
    · rw [numAt_eq]; exact PySem.getD_mem (by rw [List.length_map, Array.length_toList]; omega)
    · obtain ⟨j, hj, rfl⟩ := mem_getD ha
      rw [List.length_map, Array.length_toList] at hj
      rw [← numAt_eq]; exact h2 j (by omega)
end
/-- the ints of a list or tuple -/
def intsV (M : Mp) : D → Option (List Int)
  | .lst l => intsOf l
  | .tup l => intsOf l
  | .ref p => (match M p with
    | some (.lst l) => intsOf l
    | _ => none)
  | _ => none
def dMax1 : DRC := fun ds M Q => match ds with
  | [d] => ∃ ns, intsV M d = some ns ∧ 0 < ns.length ∧ ∀ m, m ∈ ns → (∀ y, y ∈ ns → y ≤ m) → Q (.int m) M
  | _ => False
def dMin1 : DRC := fun ds M Q => match ds with
  | [d] => ∃ ns, intsV M d = some ns ∧ 0 < ns.length ∧ ∀ m, m ∈ ns → (∀ y, y ∈ ns → m ≤ y) → Q (.int m) M
  | _ => False
def rMax1 (K : PySem.W.Frag) : List V → Hp → VK → Prop := fun vs H Q => ∃ (a : Addr) (ns : List Int), vs = [V.ref a] ∧ (SqL K H a (ns.map V.int) ∨ SqT K H a (ns.map V.int)) ∧ 0 < ns.length ∧ ∀ m, m ∈ ns → (∀ y, y ∈ ns → y ≤ m) → Q (.int m) H
def rMin1 (K : PySem.W.Frag) : List V → Hp → VK → Prop := fun vs H Q => ∃ (a : Addr) (ns : List Int), vs = [V.ref a] ∧ (SqL K H a (ns.map V.int) ∨ SqT K H a (ns.map V.int)) ∧ 0 < ns.length ∧ ∀ m, m ∈ ns → (∀ y, y ∈ ns → m ≤ y) → Q (.int m) H
section
variable {X : Cx} {K : PySem.W.Frag} {F0 : FZ}
theorem cr_max1 (hc : X.calm = true) : CallR X (.builtin "max") (rMax1 X.K) := by
  intro pins s σ H vs us Q I r h
  obtain ⟨a, ns, rfl, hs, hne, q⟩ := h
  rw [Vals.ref1 r]
  rcases hs with hs | hs
  · obtain ⟨its, rv, hl, _⟩ := I.list hs
    exact max_raw (I.ok.hd hc) hl.isList rv.ints hne fun h' tk m t' hk h1 h2 => ⟨.int _, H, I.kept hk, ⟨_, rfl⟩, q m h1 h2⟩
  · obtain ⟨its, rv, hl, _⟩ := I.tuple hs
    exact max_tupI (I.ok.hd hc) hl rv.ints hne fun h' tk m t' hk h1 h2 => ⟨.int _, H, I.kept hk, ⟨_, rfl⟩, q m h1 h2⟩
theorem cr_min1 (hc : X.calm = true) : CallR X (.builtin "min") (rMin1 X.K) := by
  intro pins s σ H vs us Q I r h
  obtain ⟨a, ns, rfl, hs, hne, q⟩ := h
  rw [Vals.ref1 r]
  rcases hs with hs | hs
  · obtain ⟨its, rv, hl, _⟩ := I.list hs
    exact min_raw (I.ok.hd hc) hl.isList rv.ints hne fun h' tk m t' hk h1 h2 => ⟨.int _, H, I.kept hk, ⟨_, rfl⟩, q m h1 h2⟩
  · obtain ⟨its, rv, hl, _⟩ := I.tuple hs
    exact min_tupI (I.ok.hd hc) hl rv.ints hne fun h' tk m t' hk h1 h2 => ⟨.int _, H, I.kept hk, ⟨_, rfl⟩, q m h1 h2⟩
theorem intsV_rp {F : FZ} {M : Mp} {H : Hp} {d : D} {v : V} {ns : List Int} (s : SR K F M H) (r : Rp K F d v) (h : intsV M d = some ns) : ∃ a, v = .ref a ∧ (SqL K H a (ns.map V.int) ∨ SqT K H a (ns.map V.int)) := by
  cases r with
  | lst a b => have := ints_rp b h; subst this; exact ⟨_, rfl, .inl (SqL.of (s.fz _ _ a))⟩
  | tup a b => have := ints_rp b h; subst this; exact ⟨_, rfl, .inr (s.sqT a)⟩
  | ref p =>
    simp only [intsV] at h
    split at h
    · rename_i hm
      obtain ⟨u, h1, h2⟩ := s.mu _ _ hm
      cases h2 with
      | lst b z => have := ints_rp b h; subst this; exact ⟨_, rfl, .inl (SqL.of h1)⟩
    · cases h
  | _ => simp [intsV] at h
theorem lc_max1 : LC K F0 dMax1 (rMax1 K) := by
  intro F M H ds vs Q' Q e0 s r q k
  unfold dMax1 at q
  split at q
  · obtain ⟨ns, h1, h2, q⟩ := q
    cases r with
    | cons r1 r2 =>
      cases r2
      obtain ⟨a, rfl, h3⟩ := intsV_rp s r1 h1
      exact ⟨a, ns, rfl, h3, h2, fun m z1 z2 => k F _ _ M H (FLe.refl F) s (.int _) (q m z1 z2)⟩
  · exact q.elim
theorem lc_min1 : LC K F0 dMin1 (rMin1 K) := by
  intro F M H ds vs Q' Q e0 s r q k
  unfold dMin1 at q
  split at q
  · obtain ⟨ns, h1, h2, q⟩ := q
    cases r with
    | cons r1 r2 =>
      cases r2
      obtain ⟨a, rfl, h3⟩ := intsV_rp s r1 h1
      exact ⟨a, ns, rfl, h3, h2, fun m z1 z2 => k F _ _ M H (FLe.refl F) s (.int _) (q m z1 z2)⟩
  · exact q.elim
end

/-! ### == of an instance by the text's own __eq__ -/
section
variable {X : Cx} {F0 : FZ} {a b : Expr} {ta tb : TE} {ta' tb' : DTE} {pos : Pos}
/-- the text's own __eq__ of the class at C -/
structure DEqM (P : Program) (w : World) (K : PySem.W.Frag) (mg : Str → Option Value) (base : Heap) (k : Nat) (C : Addr) (sp : DSp) : Prop where
  ex : ∃ f fd ps, FnOk P w K mg base CX0 k f fd ps (liftSp K sp) ∧ PySem.W.findIn K (.ref C) "__eq__" = some (some (.ref f)) ∧ PySem.W.isFn K (.ref f) = true ∧ Binds K fd ps []
def rOwnEq (K : PySem.W.Frag) (C : Addr) (sp : DSp) : R2 := fun x y H Q => ∃ (p q : Addr) (dx dy : Addr) (fs gs : List (Str × V)), x = .ref p ∧ y = .ref q ∧ H p = some (.ins C dx fs) ∧ H q = some (.ins C dy gs) ∧ liftSp K sp [.ref p, .ref q] H (fun v H' => ∃ b, v = .bl b ∧ Q (.bl b) H') fun _ _ _ => False
theorem op_ownEq {k j : Nat} {C : Addr} {sp : DSp} (c : DEqM X.prog X.w X.K X.mg X.base k C sp) (hr : Room j X.A) (hk : k ≤ j := by decide) : OpR X (compareOp .Eq) (rOwnEq X.K C sp) := by
  rintro pins s σ H x y v u Q I rx ry ⟨p, q, dx, dy, fs, gs, rfl, rfl, ha, hb', hs⟩
  obtain ⟨f, fd, ps, F, hse, hf, hb⟩ := c.ex
  cases rx
  cases ry
  show wpAny (model X.prog X.w) X.A (richCompare .Eq (.ref p) (.ref q)) (EP X pins σ Q) X.xe s
  obtain ⟨mA, J, _⟩ := ins_get I.hok ha
  obtain ⟨mB, J', _⟩ := ins_get I.hok hb'
  obtain ⟨od, J, _⟩ := J.look
  obtain ⟨od', J', _⟩ := J'.look
  obtain ⟨m, hF⟩ := I.fr
  have hr2 := hr.mono hk
  refine PySem.W.cmp_K (op := .Eq) (tb := .ref C) hr2.units0 hF I.ok.mod.kin J J'.type (by simp [PySem.W.notFirst]) hse hf ?_
  have e0 : Env0 X.prog X.w X.K X.mg X.base X.A X.stack s H := I.env0
  have hl := F.len _ _ _ _ hs
  have r2 : Vals [V.ref p, V.ref q] [Value.ref p, Value.ref q] := .cons rfl (.cons rfl .nil)
  refine wpAny_call (codeAny_mono (F.run X.A X.stack s H ⟨[.ref p, .ref q], []⟩ [.ref p, .ref q] [.ref p, .ref q] _ _ hr2 e0 (by
    have := hb s [.ref p, .ref q] I.kIn (by simpa using hl)
    simpa using this) r2 hs) fun r s' hq => ?_)
  cases r with
  | error e => exact pass0' (X := X) (E := fun _ _ _ => False) pins σ H s e s' I hq
  | ok fl =>
    cases fl with
    | ret w =>
      obtain ⟨z, H', I', rz, bb, ez, ex⟩ := I.after hq
      subst ez
      obtain rfl : w = .bool bb := rz
      exact ⟨.bl bb, H', I', rfl, ex⟩
    | next => exact False.elim hq
    | brk => exact False.elim hq
    | cont => exact False.elim hq
def dOwnEq (C : Addr) (sp : DSp) : DR2 := fun x y M Q => match x, y with
  | .ref p, .ref q => (∃ fs, M p = some (.ins C fs)) ∧ (∃ gs, M q = some (.ins C gs)) ∧ sp [.ref p, .ref q] M (fun d M1 => ∃ b, d = .bl b ∧ Q (.bl b) M1) DXK.no
  | _, _ => False
theorem l2_ownEq {K : PySem.W.Frag} {C : Addr} {sp : DSp} : L2r K F0 (dOwnEq C sp) (rOwnEq K C sp) := by
  intro F M H d e x y Q' Q e0 s r1 r2 q k
  unfold dOwnEq at q
  split at q
  · obtain ⟨⟨fs, h1⟩, ⟨gs, h2⟩, q⟩ := q
    cases r1; cases r2
    obtain ⟨dx, fs', a1, _⟩ := s.ins h1
    obtain ⟨dy, gs', a2, _⟩ := s.ins h2
    refine ⟨_, _, dx, dy, fs', gs', rfl, rfl, a1, a2, F, _, M, _, DXK.no, s, .cons (.ref _) (.cons (.ref _) .nil), q, fun F1 d v M1 H1 e1 s1 r ⟨b, eb, q1⟩ => ?_, fun c d H1 ⟨_, _, _, _, _, _, z⟩ => z⟩
    subst eb
    cases r
    exact ⟨b, rfl, k F1 _ _ M1 H1 e1 s1 (.bl b) q1⟩
  · exact q.elim
theorem de_ownEq {k j : Nat} {C : Addr} {sp : DSp} (c : DEqM X.prog X.w X.K X.mg X.base k C sp) (hr : Room j X.A) (ha : DE X F0 a ta ta') (hb : DE X F0 b tb tb') (hk : k ≤ j := by decide) : DE X F0 (.Compare a [.Eq] [b] pos) (tOp (rOwnEq X.K C sp) ta tb) (dOp (dOwnEq C sp) ta' tb') := de_cmp (op_ownEq c hr hk) l2_ownEq ha hb (nomark _)
theorem dt_ownEq {k j : Nat} {C : Addr} {sp : DSp} (c : DEqM X.prog X.w X.K X.mg X.base k C sp) (hr : Room j X.A) (ha : DE X F0 a ta ta') (hb : DE X F0 b tb tb') (hk : k ≤ j := by decide) : DT X F0 (.Compare a [.Eq] [b] pos) (tTest (tOp (rOwnEq X.K C sp) ta tb)) (dTest (dOp (dOwnEq C sp) ta' tb')) := dt_cmp (op_ownEq c hr hk) l2_ownEq ha hb (nomark _)
end
end DL

set_option maxRecDepth 100000
set_option maxHeartbeats 2000000
namespace DL
open PySem PySem.Spec PyProof.Rows L2

/-! ### isinstance against a class of the text -/
/-- a class of which there are instances -/
structure ICl (K : PySem.W.Frag) (C : Addr) : Prop where
  cl : Cls K C
  ha : PySem.W.findIn K (.ref C) "__class__" = some (some (.builtin "object.__class__"))
  hn : PySem.W.specialIn K (.builtin "object.__class__") "__get__" = some (some (.builtin "getset_descriptor.__get__"))
  ht : PySem.W.takesIn K (.builtin "object.__class__") = some true
  hm : PySem.W.mroIn K C (.type "object") = some true
structure IsC (K : PySem.W.Frag) (C : Addr) : Prop where
  is : PySem.W.isClsIn K C = true
  ty : PySem.W.typeIn K (.ref C) = some (.type "type")
def dIsiC (K : PySem.W.Frag) (C : Addr) : DRC := fun ds M Q => match ds with
  | [x, .ref C'] => C' = C ∧ ((∃ T, tyN M x = some T ∧ Q (.bl false) M) ∨ ∃ p C2 fs b, x = .ref p ∧ M p = some (.ins C2 fs) ∧ ICl K C2 ∧ PySem.W.kitOne K (.ref C2) (.ref C) = some b ∧ Q (.bl b) M)
  | _ => False
section
variable {X : Cx} {K : PySem.W.Frag} {F0 : FZ} {C : Addr}
theorem kit_self : PySem.W.kitOne K (.ref C) (.ref C) = some true := by
  unfold PySem.W.kitOne
  exact if_pos (by simp)
theorem kit_other {S : Addr} (h : IsC K C) (hs : PySem.W.subIn K (.ref S) (.ref S) = some true) (h4 : PySem.W.subIn K (.ref S) (.ref C) = some false) : PySem.W.kitOne K (.ref S) (.ref C) = some false := kit_ref h.is h.ty hs h4
theorem mro_tab : ∀ T ∈ (["NoneType", "bool", "int", "str", "list", "tuple", "dict"] : List String), ∃ l : List Value, PySem.fastBuiltinMro T = some l ∧ l.all (fun v => match v with | .type _ => true | _ => false) = true := by decide +kernel
theorem kit_tyC (h : IsC K C) {T : String} (hT : T ∈ (["NoneType", "bool", "int", "str", "list", "tuple", "dict"] : List String)) : PySem.W.kitOne K (.type T) (.ref C) = some false := by
  have h2' : (PySem.W.clsIn K C).isSome = true := h.is
  unfold PySem.W.kitOne
  rw [if_neg (by intro z; have := beq_iff_eq.mp z; cases this)]
  unfold PySem.W.kitCls
  simp only
  rw [if_pos (by rw [h2', h.ty]; rfl)]
  obtain ⟨l, e, hl⟩ := mro_tab T hT
  show (PySem.fastBuiltinMro T).map _ = _
  rw [e]
  simp only [Option.map_some, Option.some.injEq]
  rw [List.all_eq_true] at hl
  rw [Bool.eq_false_iff]
  intro z
  have z2 := List.contains_iff_mem.mp z
  have := hl _ z2
  cases this
theorem lc_isiC (h : IsC K C) : LC K F0 (dIsiC K C) (rIsi K) := by
  intro F M H ds vs Q' Q e0 s r q k
  unfold dIsiC at q
  split at q
  · obtain ⟨rfl, q⟩ := q
    cases r with
    | cons r1 r2 =>
      cases r2 with
      | cons r2 r3 =>
        cases r3
        cases r2
        rcases q with ⟨T, hT, q⟩ | ⟨p, C2, fs, b, rfl, hp, ic, hk, q⟩
        · exact ⟨_, _, _, _, _, rfl, .own _, tyN_rp s r1 hT, kit_tyC h (tyN_tab hT), k F _ _ M H (FLe.refl F) s (.bl _) q⟩
        · obtain ⟨dx, gs, h1, _⟩ := s.ins hp
          cases r1
          exact ⟨_, _, _, _, _, rfl, .own _, .base (.ins h1 ic.cl ic.ha ic.hn ic.ht ic.hm), hk, k F _ _ M H (FLe.refl F) s (.bl _) q⟩
  · exact q.elim
theorem de_isiC {e e2 : Expr} {ta : TA} {ta' : DTA} {p pos : Pos} (h : IsC X.K C) (hm : X.mg "isinstance" = none) (ha : DA X F0 [e, e2] ta ta') (hg : Gl X "isinstance" := by rfl) (he : starEach [e, e2] X.env = (false, eval e X.env) :: starEach [e2] X.env := by rfl) (hpl : (backTo pos (starEach [e2] X.env)).any (·.1) = false := by rfl) :
    DE X F0 (.Call (.Name "isinstance" p) [e, e2] [] pos) (tCB (rIsi X.K) ta) (dCB (dIsiC X.K C) ta') := de_blt call_isi (lc_isiC h) hm ha (by decide +kernel) hg (by decide) (by decide) he hpl
end
end DL

set_option maxRecDepth 100000
set_option maxHeartbeats 2000000
namespace DL
open PySem PySem.Spec PyProof.Rows L2

/-! ### [e for a in .. for b in ..] -/
def dLc2I (g : DTG) (tt : DTT) (wi1 : DTI) (g1 : DTG) (tt1 : DTT) (te : DTE) (vs vs1 : List Nat) (γ : G) (items : List D) (M1 : Mp) (Q : DK) : Prop := ∃ I : Nat → List D → Mp → Prop, I 0 [] M1 ∧
  (∀ i d acc M, items[i]? = some d → I i acc M → g d (dwipe γ vs) M fun γ2 M2 => tt γ2 M2 fun b M3 => if b = true then wi1 γ2 M3 fun items1 M4 => ∃ J : Nat → List D → Mp → Prop, J 0 acc M4 ∧
    (∀ j d1 acc1 M5, items1[j]? = some d1 → J j acc1 M5 → g1 d1 (dwipe γ2 vs1) M5 fun γ3 M6 => tt1 γ3 M6 fun b M7 => if b = true then te γ3 M7 fun y M8 => acc1.length < sizeLine ∧ J (j + 1) (acc1 ++ [y]) M8 else J (j + 1) acc1 M7) ∧ ∀ acc1 M5, J items1.length acc1 M5 → I (i + 1) acc1 M5 else I (i + 1) acc M3) ∧
  ∀ acc M, I items.length acc M → Q (.lst acc) M
def dLc2 (wi : DTI) (g : DTG) (tt : DTT) (wi1 : DTI) (g1 : DTG) (tt1 : DTT) (te : DTE) (vs vs1 : List Nat) : DTE := fun γ M Q => wi γ M fun items M1 => dLc2I g tt wi1 g1 tt1 te vs vs1 γ items M1 Q
def LcW2 (K : PySem.W.Frag) (F1 : FZ) (L : Addr) (I : Nat → List D → Mp → Prop) (i : Nat) (H : Hp) : Prop := ∃ F2 M2 acc xs, FLe F1 F2 ∧ SR K F2 M2 H ∧ F2.f L = none ∧ M2 L = none ∧ H L = some (.lst xs) ∧ RpL K F2 acc xs ∧ acc.length ≤ sizeLine ∧ I i acc M2
section
variable {X : Cx} {K : PySem.W.Frag} {F0 : FZ}
theorem le_lc2 {wi wi1 : TI} {wi' wi1' : DTI} {g g1 : TG} {g' g1' : DTG} {tt tt1 : TT} {tt' tt1' : DTT} {te : TE} {te' : DTE} {vs vs1 : List Nat} (hi : LI K F0 wi' wi) (hg : LG K F0 g' g) (hw : GW vs g) (ht : LT K F0 tt' tt)
    (hi1 : LI K F0 wi1' wi1) (hg1 : LG K F0 g1' g1) (hw1 : GW vs1 g1) (ht1 : LT K F0 tt1' tt1) (he : LE K F0 te' te) : LE K F0 (dLc2 wi' g' tt' wi1' g1' tt1' te' vs vs1) (tLc2 wi g tt wi1 g1 tt1 te vs vs1) := by
  intro F γ M σ H Q' Q e0 s gr q k
  refine hi F γ M σ H _ _ e0 s gr q fun F1 items J M1 H1 e1 s1 j1 q1 => ?_
  obtain ⟨I, h0, step, done⟩ := q1
  intro D hD
  have hDF := s1.freeF hD
  have hDM := s1.freeM hD
  have hDP := s1.freeP hD
  -- behind a turn under cover
  have back : ∀ {F2 F3 F5 : FZ} {M5 : Mp} {H5 : Hp} {xs : List V} (o : HO), F2.p D = none → F3.p = upd F2.p D (.lst xs) → FLe F3 F5 → SR K F5 M5 H5 → SR K ⟨F5.f, F2.p, F5.d⟩ M5 (upd H5 D o) ∧ H5 D = some (.lst xs) ∧ F5.f D = none ∧ M5 D = none := fun {F2 F3 F5 M5 H5 xs} o dP ep e5 s5 =>
    s5.unhide (o := .lst xs) (by rw [e5.e, ep]) dP
  have same : ∀ {H5 : Hp} {xs : List V}, H5 D = some (.lst xs) → upd H5 D (.lst xs) = H5 := fun {H5 xs} z => by
    funext b
    by_cases hb : b = D
    · subst hb; rw [upd_same, z]
    · rw [upd_ne hb]
  refine ⟨fun i m H => m = items.length - i ∧ i ≤ items.length ∧ LcW2 K F1 D I i H, ⟨items.length, by simp, Nat.zero_le _, ?_⟩, ?_⟩
  · refine ⟨F1, M1, [], [], FLe.refl _, s1.other hD, hDF, hDM, upd_same, .nil, Nat.zero_le _, h0⟩
  · rintro i m H2 ⟨rfl, hi2, F2, M2, acc, xs, e2, s2, dF, dM, hl, rl, al, i2⟩
    have dP : F2.p D = none := by rw [e2.e]; exact hDP
    by_cases hlt : i < items.length
    · have hd : items[i]? = some items[i] := List.getElem?_eq_getElem hlt
      have sh := s2.hide dF dM hl (fun _ z => by cases z) (s2.noL hl)
      obtain ⟨go, y⟩ := (j1 i (F2.hide D (.lst xs)) M2 H2 (bj_hide e2 hDP) sh).2 _ hd
      refine .inr ⟨go, LcW2 K F1 D I (i + 1), fun H' h => ⟨items.length - (i + 1), by omega, rfl, hlt, h⟩, fun x H3 yy => ?_⟩
      obtain ⟨F3, e3, s3, r3⟩ := y x H3 yy
      have b3 : Sm F2 F3 := e3.s
      have p3 : F3.p = upd F2.p D (.lst xs) := by rw [e3.e]; rfl
      have a3 : Bs F0 F3 := ⟨((e0.tr e1).tr e2).f.trans' b3, ((e0.tr e1).tr e2).p.trans (fun b o h => by rw [p3]; exact (upd_ne (ne_of_none h dP)).trans h)⟩
      have step' := step i _ acc M2 hd i2
      have r0 : RpL K F3 acc xs := rl.monoS b3
      have main := hw x (wipe σ vs) H3 _ (hg F3 (dwipe γ vs) M2 (wipe σ vs) H3 _ x _ (fun σ2 H2 => tt σ2 H2 fun b H3 =>
        if b = true then wi1 σ2 H3 fun J1 H4 => ∃ W1 : Nat → Nat → Hp → Prop, (∃ m, W1 0 m H4) ∧ ∀ j k H, W1 j k H →
          (J1.stop j H ∧ LcW2 K F1 D I (i + 1) H) ∨ (J1.go j H ∧ ∃ Nx1 : Hp → Prop, (∀ H', Nx1 H' → ∃ k', k' < k ∧ W1 (j + 1) k' H') ∧ ∀ x H', J1.yld j H x H' → g1 x (wipe σ2 vs1) H' fun σ3 H5 => wipe σ3 vs1 = wipe σ2 vs1 ∧ tt1 σ3 H5 fun b H6 =>
            if b = true then te σ3 H6 fun y H7 => ∃ acc, H7 D = some (.lst acc) ∧ acc.length < sizeLine ∧ Nx1 (upd H7 D (.lst (acc ++ [y]))) else Nx1 H6)
        else LcW2 K F1 D I (i + 1) H3)
        a3 s3 (gr_wipe (gr.monoS ((e1.s.trans' e2.s).trans' b3)) vs) r3 step' fun F4 γ4 M4 σ4 H4 e4 s4 g4 q4 =>
        ht F4 γ4 M4 σ4 H4 _ _ (a3.tr e4) s4 g4 q4 fun F5 b M5 H5 e5 s5 q5 => by
          cases b with
          | false =>
            obtain ⟨z1, z2, z3, z4⟩ := back (.lst xs) dP p3 (e4.trans e5) s5
            rw [same z2] at z1
            exact ⟨⟨F5.f, F2.p, F5.d⟩, M5, acc, xs, ⟨(e2.s.trans' b3).trans' (e4.trans e5).s, e2.e⟩, z1, z3, z4, z2, RpL.monoS (F := F3) (F' := ⟨F5.f, F2.p, F5.d⟩) (e4.trans e5).s r0, al, q5⟩
          | true =>
            refine hi1 F5 γ4 M5 σ4 H5 _ _ ((a3.tr e4).tr e5) s5 (g4.mono e5) q5 fun F6 items1 J1 M6 H6 e6 s6 j6 q6 => ?_
            obtain ⟨J, k0, stepJ, doneJ⟩ := q6
            obtain ⟨z1, z2, z3, z4⟩ := back (.lst xs) dP p3 ((e4.trans e5).trans e6) s6
            rw [same z2] at z1
            have p6 : F6.p = upd F2.p D (.lst xs) := by rw [((e4.trans e5).trans e6).e, p3]
            refine ⟨fun j m H => m = items1.length - j ∧ j ≤ items1.length ∧ LcW2 K ⟨F6.f, F2.p, F6.d⟩ D J j H, ⟨items1.length, by simp, Nat.zero_le _, ⟨F6.f, F2.p, F6.d⟩, M6, acc, xs, FLe.refl _, z1, z3, z4, z2, RpL.monoS (F := F3) (F' := ⟨F6.f, F2.p, F6.d⟩) ((e4.trans e5).trans e6).s r0, al, k0⟩, ?_⟩
            rintro j m H7 ⟨rfl, hj2, F7, M7, acc1, xs1, e7, s7, dF7, dM7, hl7, rl7, al7, i7⟩
            have dP7 : F7.p D = none := by rw [e7.e]; exact dP
            by_cases hjt : j < items1.length
            · have hd1 : items1[j]? = some items1[j] := List.getElem?_eq_getElem hjt
              have sh7 := s7.hide dF7 dM7 hl7 (fun _ z => by cases z) (s7.noL hl7)
              obtain ⟨go1, y1⟩ := (j6 j (F7.hide D (.lst xs1)) M7 H7 (bj_rehide e7.s p6 e7.e (fun _ _ z => nomatch z)) sh7).2 _ hd1
              refine .inr ⟨go1, LcW2 K ⟨F6.f, F2.p, F6.d⟩ D J (j + 1), fun H' h => ⟨items1.length - (j + 1), by omega, rfl, hjt, h⟩, fun x1 H8 yy1 => ?_⟩
              obtain ⟨F8, e8, s8, r8⟩ := y1 x1 H8 yy1
              have b8 : Sm F7 F8 := e8.s
              have p8 : F8.p = upd F7.p D (.lst xs1) := by rw [e8.e]; rfl
              have b6 : Sm F6 F7 := e7.s
              have a8 : Bs F0 F8 := ⟨(((a3.tr e4).tr e5).tr e6).f.trans' (b6.trans' b8), ((e0.tr e1).tr e2).p.trans (fun b o h => by rw [p8, e7.e]; exact (upd_ne (ne_of_none h dP)).trans h)⟩
              have r08 : RpL K F8 acc1 xs1 := rl7.monoS b8
              have stepJ' := stepJ j _ acc1 M7 hd1 i7
              have main1 := hw1 x1 (wipe σ4 vs1) H8 _ (hg1 F8 (dwipe γ4 vs1) M7 (wipe σ4 vs1) H8 _ x1 _ (fun σ3 H5 => tt1 σ3 H5 fun b H6 =>
                  if b = true then te σ3 H6 fun y H7 => ∃ acc, H7 D = some (.lst acc) ∧ acc.length < sizeLine ∧ LcW2 K ⟨F6.f, F2.p, F6.d⟩ D J (j + 1) (upd H7 D (.lst (acc ++ [y]))) else LcW2 K ⟨F6.f, F2.p, F6.d⟩ D J (j + 1) H6)
                a8 s8 (gr_wipe (g4.monoS ((e5.s.trans' e6.s).trans' (b6.trans' b8))) vs1) r8 stepJ' fun F9 γ9 M9 σ9 H9 e9 s9 g9 q9 =>
                ht1 F9 γ9 M9 σ9 H9 _ _ (a8.tr e9) s9 g9 q9 fun F10 b M10 H10 e10 s10 q10 => by
                  cases b with
                  | false =>
                    obtain ⟨z1, z2, z3, z4⟩ := back (.lst xs1) dP7 p8 (e9.trans e10) s10
                    rw [same z2] at z1
                    exact ⟨⟨F10.f, F7.p, F10.d⟩, M10, acc1, xs1, ⟨(b6.trans' b8).trans' (e9.trans e10).s, e7.e⟩, z1, z3, z4, z2, RpL.monoS (F := F8) (F' := ⟨F10.f, F7.p, F10.d⟩) (e9.trans e10).s r08, al7, q10⟩
                  | true =>
                    refine he F10 γ9 M10 σ9 H10 _ _ ((a8.tr e9).tr e10) s10 (g9.mono e10) q10 fun F11 d v M11 H11 e11 s11 r11 q11 => ?_
                    obtain ⟨lt, q11⟩ := q11
                    obtain ⟨z1, z2, z3, z4⟩ := back (.lst (xs1 ++ [v])) dP7 p8 ((e9.trans e10).trans e11) s11
                    refine ⟨xs1, z2, by rw [← r08.length]; exact lt, ⟨F11.f, F7.p, F11.d⟩, M11, acc1 ++ [d], xs1 ++ [v], ⟨(b6.trans' b8).trans' ((e9.trans e10).trans e11).s, e7.e⟩, z1, z3, z4, upd_same, RpL.append (RpL.monoS (F := F8) (F' := ⟨F11.f, F7.p, F11.d⟩) ((e9.trans e10).trans e11).s r08) (.cons (Rp.monoS (F := F11) (F' := ⟨F11.f, F7.p, F11.d⟩) Sm.rfl' r11) .nil), ?_, q11⟩
                    rw [List.length_append, List.length_singleton]
                    exact lt)
              rw [wipe_wipe] at main1
              exact main1
            · have e : j = items1.length := by omega
              subst e
              refine .inl ⟨(j6 items1.length F7 M7 H7 (bj_rehide0 e7.s p6 e7.e (fun _ _ z => nomatch z)) s7).1 (Nat.le_refl _), F7, M7, acc1, xs1, ⟨(e2.s.trans' b3).trans' (((e4.trans e5).trans e6).s.trans' e7.s), by rw [e7.e]; exact e2.e⟩, s7, dF7, dM7, hl7, rl7, al7, doneJ acc1 M7 i7⟩)
      rw [wipe_wipe] at main
      exact main
    · have e : i = items.length := by omega
      subst e
      refine .inl ⟨((j1 items.length F2 M2 H2 e2.bj s2).1 (Nat.le_refl _)), ?_⟩
      have hz : xs.length ≤ sizeLine := by rw [← rl.length]; omega
      have e3 := same_upd (o := .lst xs) dF
      exact k (F2.put D (.lst xs)) (.lst acc) (.ref D) M2 H2 ((e1.trans e2).trans e3) (s2.adopt dF dP dM hl hz) (.lst upd_same (rl.mono e3)) (done acc M2 i2)
def DIx (X : Cx) (F0 : FZ) (tg iter : Expr) (wi' : DTI) : Prop := ∃ wi, DI X F0 tg iter wi wi'
def lfI (K : PySem.W.Frag) (F0 : FZ) (t' : DTI) : TI := fun σ H Q => ∃ F γ M Q', Bs F0 F ∧ SR K F M H ∧ GR K F γ σ ∧ t' γ M Q' ∧ ∀ F1 items J M1 H1, FLe F F1 → SR K F1 M1 H1 → JR K F1 items J → Q' items M1 → Q J H1
theorem DIx.pi {tg iter : Expr} {wi' : DTI} (h : DIx X F0 tg iter wi') : PI X tg iter (lfI X.K F0 wi') := by
  obtain ⟨wi, h⟩ := h
  refine ⟨fun pins s σ H Q I q => ?_⟩
  obtain ⟨F, γ, M, Q', e0, s1, g, q, k⟩ := q
  exact h.pi.run pins s σ H Q I (h.le F γ M σ H Q' Q e0 s1 g q k)
theorem le_lfI (t' : DTI) : LI K F0 t' (lfI K F0 t') := fun F γ M σ H Q' Q e0 s g q k => ⟨F, γ, M, Q', e0, s, g, q, k⟩
variable {e tg tg1 elt iter iter1 : Expr} {ifs ifs1 : List Expr} {scope : Scope} {own : List (Str × Nat)} {vs1 : List Nat} {pos : Pos} {wi : TI} {wi' wi1' : DTI} {g' g1' : DTG} {tt' tt1' : DTT} {te' : DTE}
theorem dx_lc2 (hc : X.calm = true) (hN : X.N.Nodup) (hi : DI X F0 tg iter wi wi') (ok : BlkOk X.N X.env.scope scope own) (hv : ∀ i ∈ vs1, i ∈ own.map (·.2)) (hg : Blk X scope fun Y => DGx Y F0 (own.map (·.2)) tg g') (ht : Blk X scope fun Y => DTx Y F0 ifs tt')
    (hi1 : Blk X scope fun Y => DIx Y F0 tg1 iter1 wi1') (hg1 : Blk X scope fun Y => DGx Y F0 vs1 tg1 g1') (ht1 : Blk X scope fun Y => DTx Y F0 ifs1 tt1') (he : Blk X scope fun Y => DEx Y F0 elt te') (hs : ∀ x, foldedSetIterable iter X.env x = pure x := by intro _; rfl) (hs1 : ∀ env x, foldedSetIterable iter1 env x = pure x := by intro _ _; rfl) :
    DE X F0 (.ListComp elt [⟨tg, iter, ifs, 0⟩, ⟨tg1, iter1, ifs1, 0⟩] scope pos) (tLc2 wi (lfG X.K F0 (own.map (·.2)) g') (lfT X.K F0 tt') (lfI X.K F0 wi1') (lfG X.K F0 vs1 g1') (lfT X.K F0 tt1') (lfE X.K F0 te') (own.map (·.2)) vs1) (dLc2 wi' g' tt' wi1' g1' tt1' te' (own.map (·.2)) vs1) :=
  ⟨pe_lc2 hc hN hi.pi ok hv (fun s H C cl fp => (hg s H C cl fp).pg) (fun s H C cl fp => (ht s H C cl fp).pt) (fun s H C cl fp => (hi1 s H C cl fp).pi) (fun s H C cl fp => (hg1 s H C cl fp).pg) (fun s H C cl fp => (ht1 s H C cl fp).pt) (fun s H C cl fp => (he s H C cl fp).pe) hs hs1,
    le_lc2 hi.le lg_lfG gw_lfG (le_lfT _) (le_lfI _) lg_lfG gw_lfG (le_lfT _) (le_lfE _)⟩
end
end DL

set_option maxRecDepth 100000
set_option maxHeartbeats 2000000
namespace DL
open PySem PySem.Spec PyProof.Rows L2

/-! ### dicts are frozen -/
section
variable {K : PySem.W.Frag} {F : FZ} {M : Mp} {H : Hp}
def FZ.putD (F : FZ) (a : Addr) (o : HO) : FZ := ⟨F.f, F.p, upd F.d a o⟩
theorem putD_le {p : Addr} {o : HO} (h : F.d p = none) : FLe F (F.putD p o) := ⟨⟨Same.refl _, fun b u e => by show upd F.d p o b = _; rw [upd_ne (ne_of_none e h)]; exact e⟩, rfl⟩
theorem SR.frzD (s : SR K F M H) {p : Addr} {o : MO} {u : HO} (h : M p = some o) (hu : H p = some u) (dc : DcO u) : SR K (F.putD p u) (mdel M p) H := by
  have hF := s.dj p _ h
  have hP := s.notP h
  have hD := s.notD h
  have le := putD_le (F := F) (o := u) hD
  refine ⟨s.fz, s.ok, fun b x q => ?_, s.pz, fun b x q => ?_, fun b x q => ?_, fun b x q => ?_, fun b x q => ?_⟩
  · by_cases w : b = p
    · subst w; rw [mdel_same] at q; cases q
    · rw [mdel_ne w] at q; exact s.dj _ _ q
  · have q' : F.p b = some x := q
    have w : b ≠ p := ne_of_none q' hP
    obtain ⟨a1, a2, a3, a4⟩ := s.pf b x q'
    exact ⟨a1, by rw [mdel_ne w]; exact a2, a3, fun v hv => a4 v (by
      have hv' : upd F.d p u b = some v := hv
      rw [upd_ne w] at hv'; exact hv')⟩
  · by_cases w : b = p
    · subst w; rw [mdel_same] at q; cases q
    · rw [mdel_ne w] at q
      obtain ⟨v, a1, a2⟩ := s.mu b x q
      exact ⟨v, a1, a2.mono le⟩
  · have q' : upd F.d p u b = some x := q
    by_cases w : b = p
    · subst w; rw [upd_same] at q'; cases q'; exact .inl hu
    · rw [upd_ne w] at q'; exact s.dz _ _ q'
  · have q' : upd F.d p u b = some x := q
    by_cases w : b = p
    · subst w; rw [upd_same] at q'; cases q'; exact ⟨hF, mdel_same, dc⟩
    · rw [upd_ne w] at q'
      obtain ⟨a1, a2, a3⟩ := s.df b x q'
      exact ⟨a1, by rw [mdel_ne w]; exact a2, a3⟩
theorem kvr_parts {κ : Type} : ∀ {l : List (κ × D)} {m : List (κ × V)}, KVR K F l m → l.map (·.1) = m.map (·.1) ∧ RpL K F (l.map (·.2)) (m.map (·.2))
  | _, _, .nil => ⟨rfl, .nil⟩
  | (k, d) :: l, (k2, v) :: m, .cons r t => by
    obtain ⟨e, r⟩ := r
    simp only at e r
    subst e
    obtain ⟨h1, h2⟩ := kvr_parts t
    exact ⟨by rw [List.map_cons, List.map_cons, h1], .cons r h2⟩
theorem SR.freezeK (s : SR K F M H) {p : Addr} {kvs : List (Key × D)} (h : M p = some (.dK kvs)) : ∃ F1, FLe F F1 ∧ SR K F1 (mdel M p) H ∧ Rp K F1 (.dk (kvs.map (·.1)) (kvs.map (·.2))) (.ref p) := by
  obtain ⟨u, h1, h2⟩ := s.mu p _ h
  cases h2 with
  | dK r z =>
    rename_i ps
    have le := putD_le (F := F) (o := .dK ps) (s.notD h)
    obtain ⟨e1, e2⟩ := kvr_parts r
    refine ⟨_, le, s.frzD h h1 z, ?_⟩
    rw [e1]
    exact .dk upd_same (e2.mono le)
theorem SR.freezeT (s : SR K F M H) {p : Addr} {kvs : List (List Key × D)} (h : M p = some (.dT kvs)) : ∃ F1, FLe F F1 ∧ SR K F1 (mdel M p) H ∧ Rp K F1 (.dt (kvs.map (·.1)) (kvs.map (·.2))) (.ref p) := by
  obtain ⟨u, h1, h2⟩ := s.mu p _ h
  cases h2 with
  | dT r z zz =>
    rename_i ps
    have le := putD_le (F := F) (o := .dT ps) (s.notD h)
    obtain ⟨e1, e2⟩ := kvr_parts r
    refine ⟨_, le, s.frzD h h1 ⟨z, zz⟩, ?_⟩
    rw [e1]
    exact .dt upd_same (e2.mono le)
end
/-- ghost: what a name holds is frozen: a list, a dict -/
def frzV (M : Mp) : D → Option (D × Mp)
  | .ref p => (match M p with
    | some (.lst l) => some (.lst l, mdel M p)
    | some (.dK kvs) => some (.dk (kvs.map (·.1)) (kvs.map (·.2)), mdel M p)
    | some (.dT kvs) => some (.dt (kvs.map (·.1)) (kvs.map (·.2)), mdel M p)
    | _ => none)
  | _ => none
theorem frzV_rp {K : PySem.W.Frag} {F : FZ} {M M' : Mp} {H : Hp} {d d' : D} {v : V} (s : SR K F M H) (r : Rp K F d v) (h : frzV M d = some (d', M')) : ∃ F1, FLe F F1 ∧ SR K F1 M' H ∧ Rp K F1 d' v := by
  cases r with
  | ref p =>
    simp only [frzV] at h
    split at h
    · rename_i hm
      cases h
      obtain ⟨xs, s1, e1, r1⟩ := s.freeze hm
      exact ⟨_, e1, s1, r1⟩
    · rename_i hm
      cases h
      exact s.freezeK hm
    · rename_i hm
      cases h
      exact s.freezeT hm
    · cases h
  | _ => simp [frzV] at h
section
variable {X : Cx} {K : PySem.W.Frag} {F0 : FZ} {t : TS} {t' : DTS} {e : Expr} {te : TE} {te' : DTE}
def dFrzA (i : Nat) (t : DTS) : DTS := fun D γ M => ∃ d d' M', γ[i]? = some (some d) ∧ frzV M d = some (d', M') ∧ t D (γ.set i (some d')) M'
theorem db_frzA {sts : List Stmt} (i : Nat) (h : DB X F0 sts t t') : DB X F0 sts t (dFrzA i t') := ⟨h.ps, fun F γ M σ H D' D e0 s g q er => by
  obtain ⟨d, d', M', e, hf, q⟩ := q
  obtain ⟨v, hv, rv⟩ := g.at' i _ e
  obtain ⟨F1, e1, s1, r1⟩ := frzV_rp s rv hf
  exact h.le _ _ _ σ H D' D (e0.tr e1) s1 ((g.mono e1).reset hv r1) q (er.mono e1)⟩
def dFrzE (te : DTE) : DTE := fun γ M Q => te γ M fun d M1 => ∃ d' M', frzV M1 d = some (d', M') ∧ Q d' M'
theorem de_frzA (h : DE X F0 e te te') : DE X F0 e te (dFrzE te') := ⟨h.pe, fun F γ M σ H Q' Q e0 s g q k => by
  refine h.le F γ M σ H _ _ e0 s g q fun F1 d v M1 H1 e1 s1 r1 q1 => ?_
  obtain ⟨d', M', hf, q1⟩ := q1
  obtain ⟨F2, e2, s2, r2⟩ := frzV_rp s1 r1 hf
  exact k _ _ _ _ H1 (e1.trans e2) s2 r2 q1⟩
end

/-! ### locks -/
section
variable {K : PySem.W.Frag} {F : FZ} {M : Mp} {H : Hp}
theorem dco_no {u : HO} (dc : DcO u) : (∀ od v, u ≠ .frz od v) ∧ (∀ xs, u ≠ .tup xs) ∧ Mut (some u) := by
  cases u with
  | dK _ => exact ⟨fun _ _ z => (nomatch z), fun _ z => (nomatch z), trivial⟩
  | dT _ => exact ⟨fun _ _ z => (nomatch z), fun _ z => (nomatch z), trivial⟩
  | _ => exact False.elim dc
theorem SR.over (s : SR K F M H) {a : Addr} {o : HO} (hf : F.f a = none) (hp : F.p a = none) (hm : M a = none) (hd : ∀ u, F.d a = some u → Rd (upd H a o) a u) : SR K F M (upd H a o) := by
  refine ⟨fun b x e => by rw [upd_ne (ne_of_none e hf)]; exact s.fz _ _ e, s.ok, s.dj, fun b x e => by rw [upd_ne (ne_of_none e hp)]; exact s.pz _ _ e, s.pf, fun b x e => ?_, fun b x e => ?_, s.df⟩
  · obtain ⟨v, h1, h2⟩ := s.mu b x e
    exact ⟨v, by rw [upd_ne (mne_of_none e hm)]; exact h1, h2⟩
  · by_cases w : b = a
    · subst w; exact hd x e
    · exact rd_upd (s.dz b x e) w
/-- a frozen dict under a lock: told as somebody else's -/
theorem SR.lockIn (s : SR K F M H) {d : Addr} {u : HO} {od : Obj} (hd : F.d d = some u) (h : H d = some (.frz od u)) : SR K (F.hide d (.frz od u)) M H ∧ Same F.p (F.hide d (.frz od u)).p := by
  obtain ⟨h1, h2, dc⟩ := s.df d u hd
  refine ⟨s.hide h1 h2 h (fun _ z => nomatch z) (fun v hv => by rw [hd] at hv; cases hv; exact ⟨od, rfl⟩), fun b o e => ?_⟩
  show upd F.p d _ b = some o
  by_cases w : b = d
  · subst w
    have := s.pz _ _ e
    rw [h] at this
    rw [upd_same]; exact this
  · rw [upd_ne w]; exact e
theorem SR.lockOn (s : SR K F M H) {d : Addr} {u : HO} (hd : F.d d = some u) (h : H d = some u) (od : Obj) : SR K F M (upd H d (.frz od u)) ∧ F.p d = none := by
  obtain ⟨h1, h2, dc⟩ := s.df d u hd
  have hp : F.p d = none := by
    cases e : F.p d with
    | none => rfl
    | some o =>
      have a := s.pz _ _ e
      rw [h] at a; cases a
      obtain ⟨od', z⟩ := (s.pf d _ e).2.2.2 u hd
      exact absurd z ((dco_no dc).1 _ _)
  exact ⟨s.over h1 hp h2 fun v hv => by rw [hd] at hv; cases hv; exact .inr ⟨od, upd_same⟩, hp⟩
theorem SR.lockOff (s : SR K F M H) {d : Addr} {u : HO} (hd : F.d d = some u) (hp : F.p d = none) : SR K F M (upd H d u) := by
  obtain ⟨h1, h2, dc⟩ := s.df d u hd
  exact s.over h1 hp h2 fun v hv => by rw [hd] at hv; cases hv; exact .inl upd_same
end
def tOrLock (t : TE) : TE := fun σ H Q => t σ H Q ∨ tLockE t σ H Q
theorem pe_orLock {X : Cx} {e : Expr} {t : TE} (h : PE X e t) : PE X e (tOrLock t) := ⟨fun pins s σ H Q I q => q.elim (fun q => h.run pins s σ H Q I q) fun q => (pe_lock h).run pins s σ H Q I q⟩
def tOrLockS (t : TS) : TS := fun D σ H => t D σ H ∨ tLock t D σ H
theorem ps_orLock {X : Cx} {st : Stmt} {t : TS} (h : PS X st t) : PS X st (tOrLockS t) := ⟨fun pins s σ H D I q => q.elim (fun q => h.run pins s σ H D I q) fun q => (ps_lock h).run pins s σ H D I q⟩
section
variable {K : PySem.W.Frag} {F0 : FZ}
/-- an expression that runs under a lock of the dict at d -/
theorem le_lockE {t : TE} {F : FZ} {γ : G} {M : Mp} {σ : L2.St} {H : Hp} {Q' : DK} {Q : VK} {d : Addr} {u : HO} (e0 : Bs F0 F) (s : SR K F M H) (g : GR K F γ σ) (hd : F.d d = some u)
    (h : ∀ (od : Obj) (F1 : FZ) (H1 : Hp) (Q1 : VK), Bs F0 F1 → SR K F1 M H1 → GR K F1 γ σ → F1.f = F.f → F1.d = F.d → F1.p d = some (.frz od u) → H1 d = some (.frz od u) → (∀ F2 dd v M1 H2, FLe F1 F2 → SR K F2 M1 H2 → Rp K F2 dd v → Q' dd M1 → Q1 v H2) → t σ H1 Q1)
    (k : ∀ F1 dd v M1 H1, FLe F F1 → SR K F1 M1 H1 → Rp K F1 dd v → Q' dd M1 → Q v H1) : tOrLock t σ H Q := by
  have gg : ∀ od, GR K (F.hide d (.frz od u)) γ σ := fun od => GR.monoS (F := F) (F' := F.hide d (.frz od u)) (Sm.rfl' (F := F)) g
  have fin : ∀ {F2 : FZ} {M1 : Mp} {H2 : Hp} {od : Obj}, FLe (F.hide d (.frz od u)) F2 → Same F.p (F.hide d (.frz od u)).p → SR K F2 M1 H2 → SR K ⟨F2.f, F.p, F2.d⟩ M1 H2 ∧ FLe F ⟨F2.f, F.p, F2.d⟩ ∧ H2 d = some (.frz od u) := fun {F2 M1 H2 od} e2 sp s2 =>
    ⟨s2.lessP (by rw [e2.e]; exact sp), ⟨e2.s, rfl⟩, s2.pz _ _ (by rw [e2.e]; exact upd_same)⟩
  rcases s.dz d u hd with hz | ⟨od, hz⟩
  · refine .inr ⟨d, u, hz, (dco_no (s.df d u hd).2.2).2.2, fun od => ?_⟩
    obtain ⟨s1, hp⟩ := s.lockOn hd hz od
    obtain ⟨s2, sp⟩ := s1.lockIn hd upd_same
    refine h od (F.hide d (.frz od u)) _ _ ⟨e0.f, e0.p.trans sp⟩ s2 (gg od) rfl rfl upd_same upd_same fun F2 dd v M1 H2 e2 s2 r2 q2 => ?_
    obtain ⟨z1, z2, z3⟩ := fin e2 sp s2
    refine ⟨z3, k ⟨F2.f, F.p, F2.d⟩ dd v M1 _ z2 (z1.lockOff (z2.s.2 _ _ hd) hp) (Rp.monoS (F := F2) (F' := ⟨F2.f, F.p, F2.d⟩) Sm.rfl' r2) q2⟩
  · obtain ⟨s2, sp⟩ := s.lockIn hd hz
    refine .inl (h od (F.hide d (.frz od u)) H Q ⟨e0.f, e0.p.trans sp⟩ s2 (gg od) rfl rfl upd_same hz fun F2 dd v M1 H2 e2 s2 r2 q2 => ?_)
    obtain ⟨z1, z2, z3⟩ := fin e2 sp s2
    exact k ⟨F2.f, F.p, F2.d⟩ dd v M1 _ z2 z1 (Rp.monoS (F := F2) (F' := ⟨F2.f, F.p, F2.d⟩) Sm.rfl' r2) q2
/-- a statement that runs under a lock of the dict at d -/
theorem ls_lockS {t : TS} {F : FZ} {γ : G} {M : Mp} {σ : L2.St} {H : Hp} {D' : DEnds} {D0 : Ends} {d : Addr} {u : HO} (e0 : Bs F0 F) (s : SR K F M H) (g : GR K F γ σ) (hd : F.d d = some u)
    (h : ∀ (od : Obj) (F1 : FZ) (H1 : Hp) (D1 : Ends), Bs F0 F1 → SR K F1 M H1 → GR K F1 γ σ → F1.f = F.f → F1.d = F.d → F1.p d = some (.frz od u) → H1 d = some (.frz od u) → ER K F1 D' D1 → t D1 σ H1)
    (er : ER K F D' D0) : tOrLockS t D0 σ H := by
  have gg : ∀ od, GR K (F.hide d (.frz od u)) γ σ := fun od => GR.monoS (F := F) (F' := F.hide d (.frz od u)) (Sm.rfl' (F := F)) g
  have fin : ∀ {F2 : FZ} {M1 : Mp} {H2 : Hp} {od : Obj}, FLe (F.hide d (.frz od u)) F2 → Same F.p (F.hide d (.frz od u)).p → SR K F2 M1 H2 → SR K ⟨F2.f, F.p, F2.d⟩ M1 H2 ∧ FLe F ⟨F2.f, F.p, F2.d⟩ ∧ H2 d = some (.frz od u) := fun {F2 M1 H2 od} e2 sp s2 =>
    ⟨s2.lessP (by rw [e2.e]; exact sp), ⟨e2.s, rfl⟩, s2.pz _ _ (by rw [e2.e]; exact upd_same)⟩
  have g2 : ∀ {F2 : FZ} {γ2 : G} {σ2 : L2.St}, GR K F2 γ2 σ2 → GR K ⟨F2.f, F.p, F2.d⟩ γ2 σ2 := fun {F2 γ2 σ2} x => GR.monoS (F := F2) (F' := ⟨F2.f, F.p, F2.d⟩) Sm.rfl' x
  have r2' : ∀ {F2 : FZ} {dd : D} {v : V}, Rp K F2 dd v → Rp K ⟨F2.f, F.p, F2.d⟩ dd v := fun {F2 dd v} x => Rp.monoS (F := F2) (F' := ⟨F2.f, F.p, F2.d⟩) Sm.rfl' x
  rcases s.dz d u hd with hz | ⟨od, hz⟩
  · refine .inr ⟨d, u, hz, (dco_no (s.df d u hd).2.2).2.2, fun od => ?_⟩
    obtain ⟨s1, hp⟩ := s.lockOn hd hz od
    obtain ⟨s2, sp⟩ := s1.lockIn hd upd_same
    refine h od (F.hide d (.frz od u)) _ _ ⟨e0.f, e0.p.trans sp⟩ s2 (gg od) rfl rfl upd_same upd_same ⟨fun F2 γ2 M1 σ2 H2 e2 s2 x2 q2 => ?_, fun F2 dd v M1 H2 e2 s2 r2 q2 => ?_, fun F2 γ2 M1 σ2 H2 e2 s2 x2 q2 => ?_, fun F2 γ2 M1 σ2 H2 e2 s2 x2 q2 => ?_⟩
    · obtain ⟨z1, z2, z3⟩ := fin e2 sp s2
      exact ⟨z3, er.nx _ γ2 M1 σ2 _ z2 (z1.lockOff (z2.s.2 _ _ hd) hp) (g2 x2) q2⟩
    · obtain ⟨z1, z2, z3⟩ := fin e2 sp s2
      exact ⟨z3, er.rt _ dd v M1 _ z2 (z1.lockOff (z2.s.2 _ _ hd) hp) (r2' r2) q2⟩
    · obtain ⟨z1, z2, z3⟩ := fin e2 sp s2
      exact ⟨z3, er.bk _ γ2 M1 σ2 _ z2 (z1.lockOff (z2.s.2 _ _ hd) hp) (g2 x2) q2⟩
    · obtain ⟨z1, z2, z3⟩ := fin e2 sp s2
      exact ⟨z3, er.ct _ γ2 M1 σ2 _ z2 (z1.lockOff (z2.s.2 _ _ hd) hp) (g2 x2) q2⟩
  · obtain ⟨s2, sp⟩ := s.lockIn hd hz
    refine .inl (h od (F.hide d (.frz od u)) H D0 ⟨e0.f, e0.p.trans sp⟩ s2 (gg od) rfl rfl upd_same hz ⟨fun F2 γ2 M1 σ2 H2 e2 s2 x2 q2 => ?_, fun F2 dd v M1 H2 e2 s2 r2 q2 => ?_, fun F2 γ2 M1 σ2 H2 e2 s2 x2 q2 => ?_, fun F2 γ2 M1 σ2 H2 e2 s2 x2 q2 => ?_⟩)
    · obtain ⟨z1, z2, z3⟩ := fin e2 sp s2
      exact er.nx _ γ2 M1 σ2 _ z2 z1 (g2 x2) q2
    · obtain ⟨z1, z2, z3⟩ := fin e2 sp s2
      exact er.rt _ dd v M1 _ z2 z1 (r2' r2) q2
    · obtain ⟨z1, z2, z3⟩ := fin e2 sp s2
      exact er.bk _ γ2 M1 σ2 _ z2 z1 (g2 x2) q2
    · obtain ⟨z1, z2, z3⟩ := fin e2 sp s2
      exact er.ct _ γ2 M1 σ2 _ z2 z1 (g2 x2) q2
/-- a walk over the keys of a locked dict -/
theorem jr_keys {F : FZ} {d : Addr} {od : Obj} {ps : List (Key × V)} (h : F.p d = some (.frz od (.dK ps))) : JR K F ((ps.map (·.1)).map keyD) (Itk d od ps) := by
  have hl : ((ps.map (·.1)).map keyD).length = ps.length := by simp
  refine jr_of (G := fun H => H d = some (.frz od (.dK ps))) (by rw [hl]; exact walk_keys) (fun F1 M1 H1 e s => s.pz _ _ (e.p _ _ _ h)) (fun i H hi q => ⟨q, by rw [hl] at hi; exact hi⟩) fun i x F1 M1 H1 v H2 e s hx y => ?_
  obtain ⟨rfl, k, w, hk, rfl⟩ := y
  rw [List.getElem?_map, List.getElem?_map, hk] at hx
  cases hx
  exact ⟨F1, FLe.refl _, s, keyD_rp k⟩
theorem jr_keysT {F : FZ} {d : Addr} {od : Obj} {ps : List (List Key × V)} (hz : ∀ p ∈ ps, p.1.length ≤ sizeLine) (h : F.p d = some (.frz od (.dT ps))) : JR K F ((ps.map (·.1)).map fun k => .tup (k.map keyD)) (Itkt d od ps) := by
  have hl : ((ps.map (·.1)).map fun k => D.tup (k.map keyD)).length = ps.length := by simp
  refine jr_of (G := fun H => H d = some (.frz od (.dT ps))) (by rw [hl]; exact walk_keysT) (fun F1 M1 H1 e s => s.pz _ _ (e.p _ _ _ h)) (fun i H hi q => ⟨q, by rw [hl] at hi; exact hi⟩) fun i x F1 M1 H1 v H2 e s hx y => ?_
  obtain ⟨rfl, k, w, q, hk, rfl, hq⟩ := y
  rw [List.getElem?_map, List.getElem?_map, hk] at hx
  cases hx
  obtain ⟨F2, e2, s2, r2⟩ := s.adoptT hq (by rw [List.length_map]; exact hz _ (List.mem_of_getElem? hk))
  exact ⟨F2, e2, s2, .tup r2 (keysD_rp _)⟩
end
end DL

set_option maxRecDepth 100000
set_option maxHeartbeats 2000000
namespace DL
open PySem PySem.Spec PyProof.Rows L2

/-! ### walks over a frozen dict -/
/-- a walk that wants the dict locked -/
def LIL (K : PySem.W.Frag) (F0 : FZ) (wi' : DTI) (wi : TI) : Prop := ∀ (F : FZ) (γ : G) (M : Mp) (σ : L2.St) (H : Hp) (R' : List D → Mp → Prop), Bs F0 F → SR K F M H → GR K F γ σ → wi' γ M R' →
  ∃ (d : Addr) (u : HO) (items : List D), F.d d = some u ∧ R' items M ∧ ∀ (od : Obj) (F1 : FZ) (H1 : Hp) (R : It → Hp → Prop), F1.p d = some (.frz od u) → H1 d = some (.frz od u) → Sm F F1 → (∀ J, (∀ F2, Bs F1 F2 → JR K F2 items J) → R J H1) → wi σ H1 R
def jKeys (i : Nat) : DTI := fun γ M R => match γ[i]? with
  | some (some (.dk ks _)) => R (ks.map keyD) M
  | some (some (.dt ks _)) => R (ks.map fun k => .tup (k.map keyD)) M
  | _ => False
def jVals (i : Nat) : DTI := fun γ M R => match γ[i]? with
  | some (some (.dk _ l)) => R l M
  | _ => False
def jItems (i : Nat) : DTI := fun γ M R => match γ[i]? with
  | some (some (.dk ks l)) => R ((ks.zip l).map fun q => .tup [keyD q.1, q.2]) M
  | _ => False
section
variable {K : PySem.W.Frag} {F0 : FZ} {X : Cx}
theorem lil_keys (i : Nat) : LIL K F0 (jKeys i) (iKeys (tVar i)) := by
  intro F γ M σ H R' e0 s g q
  unfold jKeys at q
  split at q
  · rename_i ks l hi
    obtain ⟨v, hv, rv⟩ := g.at' i _ hi
    cases rv with
    | dk a b => exact ⟨_, _, _, a, q, fun od F1 H1 R hp hz sm k => ⟨_, hv, _, od, rfl, .inl ⟨_, hz, k _ fun F2 b2 => jr_keys (b2.p _ _ hp)⟩⟩⟩
  · rename_i ks l hi
    obtain ⟨v, hv, rv⟩ := g.at' i _ hi
    cases rv with
    | dt a b =>
      have dc : DcO (.dT _) := (s.df _ _ a).2.2
      exact ⟨_, _, _, a, q, fun od F1 H1 R hp hz sm k => ⟨_, hv, _, od, rfl, .inr ⟨_, hz, k _ fun F2 b2 => jr_keysT dc.2 (b2.p _ _ hp)⟩⟩⟩
  · exact q.elim
theorem lil_keysM (i : Nat) : LIL K F0 (fun γ M R => ∃ ks l, γ[i]? = some (some (.dk ks l)) ∧ R (ks.map keyD) M) (iKeysM (tVar i)) := by
  intro F γ M σ H R' e0 s g q
  obtain ⟨ks, l, hi, q⟩ := q
  obtain ⟨v, hv, rv⟩ := g.at' i _ hi
  cases rv with
  | dk a b => exact ⟨_, _, _, a, q, fun od F1 H1 R hp hz sm k => ⟨_, hv, _, od, _, rfl, hz, k _ fun F2 b2 => jr_keys (b2.p _ _ hp)⟩⟩
theorem jr_vals {F : FZ} {d : Addr} {od : Obj} {ps : List (Key × V)} {l : List D} (r : RpL K F l (ps.map (·.2))) (h : F.p d = some (.frz od (.dK ps))) : JR K F l (Itd d od ps) := by
  have hl : l.length = ps.length := by have := r.length; simpa using this
  refine jr_of (G := fun H => H d = some (.frz od (.dK ps))) (by rw [hl]; exact walk_values) (fun F1 M1 H1 e s => s.pz _ _ (e.p _ _ _ h)) (fun i H hi q => ⟨q, by rw [hl] at hi; exact hi⟩) fun i x F1 M1 H1 v H2 e s hx y => ?_
  obtain ⟨rfl, k, hk⟩ := y
  obtain ⟨w, hw, rw'⟩ := r.get hx
  rw [List.getElem?_map, hk] at hw
  cases hw
  exact ⟨F1, FLe.refl _, s, Rp.monoS e.f rw'⟩
theorem lil_vals (i : Nat) : LIL K F0 (jVals i) (iVals (tVar i)) := by
  intro F γ M σ H R' e0 s g q
  unfold jVals at q
  split at q
  · rename_i ks l hi
    obtain ⟨v, hv, rv⟩ := g.at' i _ hi
    cases rv with
    | dk a b => exact ⟨_, _, _, a, q, fun od F1 H1 R hp hz sm k => ⟨_, hv, _, od, _, rfl, hz, k _ fun F2 b2 => jr_vals (RpL.monoS (sm.trans' b2.f) b) (b2.p _ _ hp)⟩⟩
  · exact q.elim
theorem jr_items {F : FZ} {d : Addr} {od : Obj} {ps : List (Key × V)} {l : List D} (r : RpL K F l (ps.map (·.2))) (h : F.p d = some (.frz od (.dK ps))) : JR K F (((ps.map (·.1)).zip l).map fun q => .tup [keyD q.1, q.2]) (Iti d od ps) := by
  have hl0 : l.length = ps.length := by have := r.length; simpa using this
  have hl : (((ps.map (·.1)).zip l).map fun q => D.tup [keyD q.1, q.2]).length = ps.length := by simp [hl0]
  refine jr_of (G := fun H => H d = some (.frz od (.dK ps))) (by rw [hl]; exact walk_items) (fun F1 M1 H1 e s => s.pz _ _ (e.p _ _ _ h)) (fun i H hi q => ⟨q, by rw [hl] at hi; exact hi⟩) fun i x F1 M1 H1 v H2 e s hx y => ?_
  obtain ⟨T, u, w, rfl, hT, rfl, h1, h2⟩ := y
  rw [List.getElem?_map] at hx
  obtain ⟨q, hq, rfl⟩ := Option.map_eq_some_iff.mp hx
  obtain ⟨hq1, hq2⟩ := List.getElem?_zip_eq_some.mp hq
  rw [List.getElem?_map] at hq1
  obtain ⟨kv, hkv, e1⟩ := Option.map_eq_some_iff.mp hq1
  simp only [hkv, Option.map_some, Option.some.injEq] at h1 h2
  obtain ⟨w', hw, rw'⟩ := r.get hq2
  rw [List.getElem?_map, hkv] at hw
  cases hw
  subst h1 h2
  rw [← e1]
  have ee := same_upd (o := .tup [kV kv.1, kv.2]) (s.freeF hT)
  exact ⟨_, ee, s.newF hT (show 2 ≤ sizeLine by decide), .tup upd_same (.cons (keyD_rp _) (.cons ((Rp.monoS e.f rw').mono ee) .nil))⟩
theorem lil_items (i : Nat) : LIL K F0 (jItems i) (iItems (tVar i)) := by
  intro F γ M σ H R' e0 s g q
  unfold jItems at q
  split at q
  · rename_i ks l hi
    obtain ⟨v, hv, rv⟩ := g.at' i _ hi
    cases rv with
    | dk a b => exact ⟨_, _, _, a, q, fun od F1 H1 R hp hz sm k => ⟨_, hv, _, od, _, rfl, hz, k _ fun F2 b2 => jr_items (RpL.monoS (sm.trans' b2.f) b) (b2.p _ _ hp)⟩⟩
  · exact q.elim

theorem Bs.trans {F F1 F2 : FZ} (a : Bs F F1) (b : Bs F1 F2) : Bs F F2 := ⟨a.f.trans' b.f, a.p.trans b.p⟩
theorem LG.base {F1 : FZ} {g' : DTG} {g : TG} (h : LG K F0 g' g) (b : Bs F0 F1) : LG K F1 g' g := fun F γ M σ H d v Q' Q e0 => h F γ M σ H d v Q' Q (b.trans e0)
theorem LT.base {F1 : FZ} {t' : DTT} {t : TT} (h : LT K F0 t' t) (b : Bs F0 F1) : LT K F1 t' t := fun F γ M σ H Q' Q e0 => h F γ M σ H Q' Q (b.trans e0)
theorem LE.base {F1 : FZ} {t' : DTE} {t : TE} (h : LE K F0 t' t) (b : Bs F0 F1) : LE K F1 t' t := fun F γ M σ H Q' Q e0 => h F γ M σ H Q' Q (b.trans e0)
theorem LS.base {F1 : FZ} {t' : DTS} {t : TS} (h : LS K F0 t' t) (b : Bs F0 F1) : LS K F1 t' t := fun F γ M σ H D' D e0 => h F γ M σ H D' D (b.trans e0)
/-- known items -/
theorem li_const {items : List D} {J : It} (h : ∀ F, Bs F0 F → JR K F items J) : LI K F0 (fun _ M R => R items M) (fun _ H R => R J H) := fun F γ M σ H R' R e0 s g q k => k F items J M H (FLe.refl F) s (h F e0) q
theorem ls_for {wi : TI} {wi' : DTI} {g : TG} {g' : DTG} {tb : TS} {tb' : DTS} (hi : LI K F0 wi' wi) (hg : LG K F0 g' g) (hb : LS K F0 tb' tb) : LS K F0 (dFor wi' g' tb') (tFor wi g tb) := by
  intro F γ M σ H D' D0 e0 s gr q er
  refine hi F γ M σ H _ _ e0 s gr q fun F1 items J M1 H1 e1 s1 j1 q1 => ?_
  obtain ⟨I, h0, step, fin⟩ := q1
  refine ⟨fun i m σ H => m = items.length - i ∧ i ≤ items.length ∧ ∃ F2 γ2 M2, FLe F1 F2 ∧ SR K F2 M2 H ∧ GR K F2 γ2 σ ∧ I i γ2 M2, ⟨items.length, by simp, Nat.zero_le _, F1, γ, M1, FLe.refl F1, s1, gr.mono e1, h0⟩, ?_⟩
  rintro i m σ2 H2 ⟨rfl, hi', F2, γ2, M2, e2, s2, g2, q2⟩
  have j2 := j1 i F2 M2 H2 e2.bj s2
  by_cases hlt : i < items.length
  · have hd : items[i]? = some items[i] := List.getElem?_eq_getElem hlt
    obtain ⟨go, y⟩ := j2.2 _ hd
    refine .inr ⟨go, fun σ' H' => ∃ F2 γ2 M2, FLe F1 F2 ∧ SR K F2 M2 H' ∧ GR K F2 γ2 σ' ∧ I (i + 1) γ2 M2, fun σ' H' h => ⟨items.length - (i + 1), by omega, rfl, hlt, h⟩, fun x H3 yy => ?_⟩
    obtain ⟨F3, e3, s3, r3⟩ := y x H3 yy
    refine hg F3 γ2 M2 σ2 H3 _ x _ _ ((e0.tr e1).tr (e2.trans e3)) s3 (g2.mono e3) r3 (step i _ γ2 M2 hd q2) fun F4 γ4 M4 σ4 H4 e4 s4 g4 q4 => ?_
    refine hb F4 γ4 M4 σ4 H4 _ _ (((e0.tr e1).tr (e2.trans e3)).tr e4) s4 g4 q4 ⟨?_, fun F5 d v M5 H5 e5 => er.rt F5 d v M5 H5 ((e1.trans ((e2.trans e3).trans e4)).trans e5), fun F5 γ5 M5 σ5 H5 e5 => er.nx F5 γ5 M5 σ5 H5 ((e1.trans ((e2.trans e3).trans e4)).trans e5), ?_⟩
    · intro F5 γ5 M5 σ5 H5 e5 s5 g5 q5
      exact ⟨F5, γ5, M5, (((e2.trans e3).trans e4).trans e5), s5, g5, q5⟩
    · intro F5 γ5 M5 σ5 H5 e5 s5 g5 q5
      exact ⟨F5, γ5, M5, (((e2.trans e3).trans e4).trans e5), s5, g5, q5⟩
  · have e : i = items.length := by omega
    subst e
    exact .inl ⟨j2.1 (Nat.le_refl _), er.nx F2 γ2 M2 σ2 H2 (e1.trans e2) s2 g2 (fin γ2 M2 q2)⟩
/-- a loop over a frozen dict -/
theorem ls_forL {wi : TI} {wi' : DTI} {g : TG} {g' : DTG} {tb : TS} {tb' : DTS} (hi : LIL K F0 wi' wi) (hg : LG K F0 g' g) (hb : LS K F0 tb' tb) : LS K F0 (dFor wi' g' tb') (tOrLockS (tFor wi g tb)) := by
  intro F γ M σ H D' D0 e0 s gr q er
  obtain ⟨d, u, items, hd, q, walk⟩ := hi F γ M σ H _ e0 s gr q
  refine ls_lockS e0 s gr hd (fun od F1 H1 D1 b1 s1 g1 ef ed hp hz er1 => ?_) er
  refine walk od F1 H1 _ hp hz ⟨by rw [ef]; exact Same.refl _, by rw [ed]; exact Same.refl _⟩ fun J hJ => ?_
  have b2 := b1
  exact ls_for (F0 := F1) (wi' := fun _ M R => R items M) (wi := fun _ H R => R J H) (li_const hJ) (hg.base b1) (hb.base b1) F1 γ M σ H1 D' D1 (Bs.refl _) s1 g1 q er1
theorem le_lcL {wi : TI} {wi' : DTI} {g : TG} {g' : DTG} {tt : TT} {tt' : DTT} {te : TE} {te' : DTE} {vs : List Nat} (hi : LIL K F0 wi' wi) (hg : LG K F0 g' g) (hw : GW vs g) (ht : LT K F0 tt' tt) (he : LE K F0 te' te) : LE K F0 (dLc wi' g' tt' te' vs) (tOrLock (tLc wi g tt te vs)) := by
  intro F γ M σ H Q' Q e0 s gr q k
  obtain ⟨d, u, items, hd, q, walk⟩ := hi F γ M σ H _ e0 s gr q
  refine le_lockE e0 s gr hd (fun od F1 H1 Q1 b1 s1 g1 ef ed hp hz k1 => ?_) k
  refine walk od F1 H1 _ hp hz ⟨by rw [ef]; exact Same.refl _, by rw [ed]; exact Same.refl _⟩ fun J hJ => ?_
  exact le_lc (F0 := F1) (wi' := fun _ M R => R items M) (wi := fun _ H R => R J H) (li_const hJ) (hg.base b1) hw (ht.base b1) (he.base b1) F1 γ M σ H1 Q' Q1 (Bs.refl _) s1 g1 q k1
theorem le_lcLM {wi : TI} {wi' : DTI} {g : TG} {g' : DTG} {tt : TT} {tt' : DTT} {te : TE} {te' : DTE} {vs : List Nat} (hi : LIL K F0 wi' wi) (hg : LG K F0 g' g) (hw : GW vs g) (ht : LT K F0 tt' tt) (he : LE K F0 te' te) : LE K F0 (dLcM wi' g' tt' te' vs) (tOrLock (tLc wi g tt te vs)) := by
  intro F γ M σ H Q' Q e0 s gr q k
  obtain ⟨d, u, items, hd, q, walk⟩ := hi F γ M σ H _ e0 s gr q
  refine le_lockE e0 s gr hd (fun od F1 H1 Q1 b1 s1 g1 ef ed hp hz k1 => ?_) k
  refine walk od F1 H1 _ hp hz ⟨by rw [ef]; exact Same.refl _, by rw [ed]; exact Same.refl _⟩ fun J hJ => ?_
  exact le_lcM (F0 := F1) (wi' := fun _ M R => R items M) (wi := fun _ H R => R J H) (li_const hJ) (hg.base b1) hw (ht.base b1) (he.base b1) F1 γ M σ H1 Q' Q1 (Bs.refl _) s1 g1 q k1
theorem ls_asgLock {t : TE} {t' : DTE} {g : TG} {g' : DTG} (hg : LG K F0 g' g) (h : ∀ (F : FZ) (γ : G) (M : Mp) (σ : L2.St) (H : Hp) (Q' : DK), Bs F0 F → SR K F M H → GR K F γ σ → t' γ M Q' → ∃ (d : Addr) (u : HO), F.d d = some u ∧
    ∀ (od : Obj) (F1 : FZ) (H1 : Hp) (Q1 : VK), Bs F0 F1 → SR K F1 M H1 → GR K F1 γ σ → F1.f = F.f → F1.d = F.d → F1.p d = some (.frz od u) → H1 d = some (.frz od u) → (∀ F2 dd v M1 H2, FLe F1 F2 → SR K F2 M1 H2 → Rp K F2 dd v → Q' dd M1 → Q1 v H2) → t σ H1 Q1) :
    LS K F0 (dAsg t' g') (tOrLockS (tAsg t g)) := by
  intro F γ M σ H D' D0 e0 s gr q er
  obtain ⟨d, u, hd, run⟩ := h F γ M σ H _ e0 s gr q
  refine ls_lockS e0 s gr hd (fun od F1 H1 D1 b1 s1 g1 ef ed hp hz er1 => ?_) er
  refine run od F1 H1 _ b1 s1 g1 ef ed hp hz fun F2 dd v M1 H2 e2 s2 r2 q2 => ?_
  exact hg F2 γ M1 σ H2 dd v _ _ (b1.tr e2) s2 (g1.mono e2) r2 q2 fun F3 γ3 M3 σ3 H3 e3 s3 g3 q3 => er1.nx F3 γ3 M3 σ3 H3 (e2.trans e3) s3 g3 q3
theorem ls_setLcL {wi : TI} {wi' : DTI} {g g2 : TG} {g' g2' : DTG} {tt : TT} {tt' : DTT} {te : TE} {te' : DTE} {vs : List Nat} (hi : LIL K F0 wi' wi) (hg : LG K F0 g' g) (hw : GW vs g) (ht : LT K F0 tt' tt) (he : LE K F0 te' te) (hg2 : LG K F0 g2' g2) : LS K F0 (dAsg (dLc wi' g' tt' te' vs) g2') (tOrLockS (tAsg (tLc wi g tt te vs) g2)) :=
  ls_asgLock hg2 fun F γ M σ H Q' e0 s gr q => by
    obtain ⟨d, u, items, hd, q, walk⟩ := hi F γ M σ H _ e0 s gr q
    refine ⟨d, u, hd, fun od F1 H1 Q1 b1 s1 g1 ef ed hp hz k1 => ?_⟩
    refine walk od F1 H1 _ hp hz ⟨by rw [ef]; exact Same.refl _, by rw [ed]; exact Same.refl _⟩ fun J hJ => ?_
    exact le_lc (F0 := F1) (wi' := fun _ M R => R items M) (wi := fun _ H R => R J H) (li_const hJ) (hg.base b1) hw (ht.base b1) (he.base b1) F1 γ M σ H1 Q' Q1 (Bs.refl _) s1 g1 q k1
theorem ls_setLcLM {wi : TI} {wi' : DTI} {g g2 : TG} {g' g2' : DTG} {tt : TT} {tt' : DTT} {te : TE} {te' : DTE} {vs : List Nat} (hi : LIL K F0 wi' wi) (hg : LG K F0 g' g) (hw : GW vs g) (ht : LT K F0 tt' tt) (he : LE K F0 te' te) (hg2 : LG K F0 g2' g2) : LS K F0 (dAsg (dLcM wi' g' tt' te' vs) g2') (tOrLockS (tAsg (tLc wi g tt te vs) g2)) :=
  ls_asgLock hg2 fun F γ M σ H Q' e0 s gr q => by
    obtain ⟨d, u, items, hd, q, walk⟩ := hi F γ M σ H _ e0 s gr q
    refine ⟨d, u, hd, fun od F1 H1 Q1 b1 s1 g1 ef ed hp hz k1 => ?_⟩
    refine walk od F1 H1 _ hp hz ⟨by rw [ef]; exact Same.refl _, by rw [ed]; exact Same.refl _⟩ fun J hJ => ?_
    exact le_lcM (F0 := F1) (wi' := fun _ M R => R items M) (wi := fun _ H R => R J H) (li_const hJ) (hg.base b1) hw (ht.base b1) (he.base b1) F1 γ M σ H1 Q' Q1 (Bs.refl _) s1 g1 q k1
end
/-- a walked dict: how the kit walks it -/
structure DIL (X : Cx) (F0 : FZ) (tg iter : Expr) (wi : TI) (wi' : DTI) : Prop where
  pi : PI X tg iter wi
  le : LIL X.K F0 wi' wi
section
variable {X : Cx} {F0 : FZ} {tg e : Expr} {i : Nat} {pos apos cpos : Pos}
theorem dil_keys (h : DE X F0 e (tVar i) (dVar i)) : DIL X F0 tg e (iKeys (tVar i)) (jKeys i) := ⟨pi_keys h.pe, lil_keys i⟩
theorem dil_vals (h : DE X F0 e (tVar i) (dVar i)) (hbase : attributeBase e "values" X.env (eval e X.env) = eval e X.env := by rfl) (hline : (apos.endLine == cpos.line) = true := by rfl) : DIL X F0 tg (.Call (.Attribute e "values" apos) [] [] cpos) (iVals (tVar i)) (jVals i) := ⟨pi_values h.pe hbase hline, lil_vals i⟩
theorem dil_items {elts : List Expr} {kk : Nat} (h : DE X F0 e (tVar i) (dVar i)) (hbase : attributeBase e "items" X.env (eval e X.env) = eval e X.env := by rfl) (hline : (apos.endLine == cpos.line) = true := by rfl) : DIL X F0 (.Tuple elts kk pos) (.Call (.Attribute e "items" apos) [] [] cpos) (iItems (tVar i)) (jItems i) := ⟨pi_items h.pe hbase hline, lil_items i⟩
variable {iter elt : Expr} {body : List Stmt} {ifs : List Expr} {scope : Scope} {own : List (Str × Nat)} {spos py : Pos} {wi : TI} {wi' : DTI} {g : TG} {g' : DTG} {tb : TS} {tb' : DTS} {tt' : DTT} {te' : DTE}
theorem ds_forL (hp : PassesOwn (model X.prog X.w) X.A X.env X.xe) (hc : X.calm = true) (hi : DIL X F0 tg iter wi wi') (hg : DG X F0 tg g g') (hb : DB X F0 body tb tb') (hs : ∀ x, foldedSetIterable iter X.env x = pure x := by intro _; rfl) : DS X F0 (.For tg iter body [] pos) (tOrLockS (tFor wi g tb)) (dFor wi' g' tb') :=
  ⟨ps_orLock (ps_for hp hc hi.pi hg.pg hb.ps hs), ls_forL hi.le hg.le hb.le⟩
theorem dx_lcL (hc : X.calm = true) (hN : X.N.Nodup) (hi : DIL X F0 tg iter wi wi') (ok : BlkOk X.N X.env.scope scope own) (hg : Blk X scope fun Y => DGx Y F0 (own.map (·.2)) tg g') (ht : Blk X scope fun Y => DTx Y F0 ifs tt') (he : Blk X scope fun Y => DEx Y F0 elt te') (hs : ∀ x, foldedSetIterable iter X.env x = pure x := by intro _; rfl) :
    DE X F0 (.ListComp elt [⟨tg, iter, ifs, 0⟩] scope pos) (tOrLock (tLc wi (lfG X.K F0 (own.map (·.2)) g') (lfT X.K F0 tt') (lfE X.K F0 te') (own.map (·.2)))) (dLc wi' g' tt' te' (own.map (·.2))) :=
  ⟨pe_orLock (pe_lc hc hN hi.pi ok (fun s H C cl fp => (hg s H C cl fp).pg) (fun s H C cl fp => (ht s H C cl fp).pt) (fun s H C cl fp => (he s H C cl fp).pe) hs), le_lcL hi.le lg_lfG gw_lfG (le_lfT _) (le_lfE _)⟩
theorem dx_lcLM (hc : X.calm = true) (hN : X.N.Nodup) (hi : DIL X F0 tg iter wi wi') (ok : BlkOk X.N X.env.scope scope own) (hg : Blk X scope fun Y => DGx Y F0 (own.map (·.2)) tg g') (ht : Blk X scope fun Y => DTx Y F0 ifs tt') (he : Blk X scope fun Y => DEx Y F0 elt te') (hs : ∀ x, foldedSetIterable iter X.env x = pure x := by intro _; rfl) :
    DE X F0 (.ListComp elt [⟨tg, iter, ifs, 0⟩] scope pos) (tOrLock (tLc wi (lfG X.K F0 (own.map (·.2)) g') (lfT X.K F0 tt') (lfE X.K F0 te') (own.map (·.2)))) (dLcM wi' g' tt' te' (own.map (·.2))) :=
  ⟨pe_orLock (pe_lc hc hN hi.pi ok (fun s H C cl fp => (hg s H C cl fp).pg) (fun s H C cl fp => (ht s H C cl fp).pt) (fun s H C cl fp => (he s H C cl fp).pe) hs), le_lcLM hi.le lg_lfG gw_lfG (le_lfT _) (le_lfE _)⟩
theorem dx_setLcL (j : Nat) {y : Str} (hc : X.calm = true) (hN : X.N.Nodup) (hsw : swapsWith (.ListComp elt [⟨tg, iter, ifs, 0⟩] scope pos) (some (.Name y py)) spos.line X.env = pure true) (hi : DIL X F0 tg iter wi wi') (ok : BlkOk X.N X.env.scope scope own) (hg : Blk X scope fun Y => DGx Y F0 (own.map (·.2)) tg g') (ht : Blk X scope fun Y => DTx Y F0 ifs tt') (he : Blk X scope fun Y => DEx Y F0 elt te')
    (hs : ∀ x, foldedSetIterable iter X.env x = pure x := by intro _; rfl) (hy : X.N[j]? = some y := by rfl) (hyl : X.env.scope.names.lookup y = some .local := by rfl) : DS X F0 (.Assign [.Name y py] (.ListComp elt [⟨tg, iter, ifs, 0⟩] scope pos) spos) (tOrLockS (tAsg (tLc wi (lfG X.K F0 (own.map (·.2)) g') (lfT X.K F0 tt') (lfE X.K F0 te') (own.map (·.2))) (gName j))) (dAsg (dLc wi' g' tt' te' (own.map (·.2))) (hName j)) :=
  ⟨ps_orLock (ps_setLc hc hN hy hyl hsw hi.pi ok (fun s H C cl fp => (hg s H C cl fp).pg) (fun s H C cl fp => (ht s H C cl fp).pt) (fun s H C cl fp => (he s H C cl fp).pe) hs), ls_setLcL hi.le lg_lfG gw_lfG (le_lfT _) (le_lfE _) (dg_name (X := X) (F0 := F0) (pos := pos) j hN hy (Or.inl hyl) (.inr hyl)).le⟩
theorem dx_setLcLM (j : Nat) {y : Str} (hc : X.calm = true) (hN : X.N.Nodup) (hsw : swapsWith (.ListComp elt [⟨tg, iter, ifs, 0⟩] scope pos) (some (.Name y py)) spos.line X.env = pure true) (hi : DIL X F0 tg iter wi wi') (ok : BlkOk X.N X.env.scope scope own) (hg : Blk X scope fun Y => DGx Y F0 (own.map (·.2)) tg g') (ht : Blk X scope fun Y => DTx Y F0 ifs tt') (he : Blk X scope fun Y => DEx Y F0 elt te')
    (hs : ∀ x, foldedSetIterable iter X.env x = pure x := by intro _; rfl) (hy : X.N[j]? = some y := by rfl) (hyl : X.env.scope.names.lookup y = some .local := by rfl) : DS X F0 (.Assign [.Name y py] (.ListComp elt [⟨tg, iter, ifs, 0⟩] scope pos) spos) (tOrLockS (tAsg (tLc wi (lfG X.K F0 (own.map (·.2)) g') (lfT X.K F0 tt') (lfE X.K F0 te') (own.map (·.2))) (gName j))) (dAsg (dLcM wi' g' tt' te' (own.map (·.2))) (hName j)) :=
  ⟨ps_orLock (ps_setLc hc hN hy hyl hsw hi.pi ok (fun s H C cl fp => (hg s H C cl fp).pg) (fun s H C cl fp => (ht s H C cl fp).pt) (fun s H C cl fp => (he s H C cl fp).pe) hs), ls_setLcLM hi.le lg_lfG gw_lfG (le_lfT _) (le_lfE _) (dg_name (X := X) (F0 := F0) (pos := pos) j hN hy (Or.inl hyl) (.inr hyl)).le⟩
end
end DL

set_option maxRecDepth 100000
set_option maxHeartbeats 2000000
namespace DL
open PySem PySem.Spec PyProof.Rows L2

theorem goesNB {X : Cx} {P : Program} {w : World} (hp : X.prog = P := by rfl) (hw : X.w = w := by rfl) : GoesA (L2.CX P w) X DXK.no := by
  subst hp hw
  exact goesNA
/-! ### walks over a changeable list: it is out of reach meanwhile -/
section
variable {K : PySem.W.Frag} {F0 : FZ} {X : Cx}
theorem mdel_le {M : Mp} {p : Addr} : MLe (mdel M p) M := fun a o h => by
  by_cases e : a = p
  · rw [e, mdel_same] at h; cases h
  · rw [mdel_ne e] at h; exact h
theorem SR.lockL {F : FZ} {M : Mp} {H : Hp} (s : SR K F M H) {p : Addr} {l : List D} {xs : List V} (h : M p = some (.lst l)) (hx : H p = some (.lst xs)) (od : Obj) : SR K (F.hide p (.frz od (.lst xs))) (mdel M p) (upd H p (.frz od (.lst xs))) ∧ Same F.p (F.hide p (.frz od (.lst xs))).p := by
  have hp := s.notP h
  have hd := s.notD h
  have hf := s.dj p _ h
  have s2 := (s.less mdel_le).over (a := p) (o := .frz od (.lst xs)) hf hp mdel_same fun u e => by rw [hd] at e; cases e
  exact ⟨s2.hide hf mdel_same upd_same (fun _ z => nomatch z) (fun u e => by rw [hd] at e; cases e), fun b o e => by show upd F.p p _ b = some o; rw [upd_ne (ne_of_none e hp)]; exact e⟩
theorem SR.unlockL {F F2 : FZ} {M1 : Mp} {H2 : Hp} {p : Addr} {l : List D} {xs : List V} {od : Obj} (s : SR K F2 M1 H2) (e : F2.p = upd F.p p (.frz od (.lst xs))) (hp : F.p p = none) (r : RpL K F2 l xs) (hz : xs.length ≤ sizeLine) : SR K ⟨F2.f, F.p, F2.d⟩ (mset M1 p (.lst l)) (upd H2 p (.lst xs)) ∧ H2 p = some (.frz od (.lst xs)) ∧ M1 p = none := by
  obtain ⟨z1, z2, z3, z4⟩ := s.unhide (u := .lst xs) e hp (fun _ _ z => by cases z; rfl)
  exact ⟨z1.own z3 hp (z1.noL0 upd_same) upd_same (.lst (RpL.monoS (F := F2) (F' := ⟨F2.f, F.p, F2.d⟩) Sm.rfl' r) hz), z2, z4⟩
theorem jr_hid {F : FZ} {p : Addr} {l : List D} {xs : List V} {od : Obj} (h : F.p p = some (.frz od (.lst xs))) (r : RpL K F l xs) : JR K F l (Itl K p) := by
  have hl := r.length
  refine jr_of (G := fun H => SqL K H p xs) (Y := YAt xs) (by rw [hl]; exact walk_list) (fun F1 M1 H1 e s => .inl (.inr ⟨od, s.pz _ _ (e.p _ _ _ h)⟩)) (fun i H hi q => ⟨xs, q, by omega⟩) fun i d F1 M1 H1 x H2 e s hd y => ?_
  obtain ⟨e2, hx⟩ := y
  subst e2
  obtain ⟨v, h1, h2⟩ := r.get hd
  rw [hx] at h1; cases h1
  exact ⟨F1, FLe.refl _, s, Rp.monoS e.f h2⟩
def dLcH (i : Nat) (g : DTG) (tt : DTT) (te : DTE) (vs : List Nat) : DTE := fun γ M Q => ∃ p l, γ[i]? = some (some (.ref p)) ∧ M p = some (.lst l) ∧ dLcI g tt te vs γ l (mdel M p) fun r M' => M' p = none → Q r (mset M' p (.lst l))
theorem le_lcH (i : Nat) {g : TG} {g' : DTG} {tt : TT} {tt' : DTT} {te : TE} {te' : DTE} {vs : List Nat} (hg : LG K F0 g' g) (hw : GW vs g) (ht : LT K F0 tt' tt) (he : LE K F0 te' te) : LE K F0 (dLcH i g' tt' te' vs) (tLockE (tLc (iSeq K (tVar i)) g tt te vs)) := by
  intro F γ M σ H Q' Q e0 s gr q k
  obtain ⟨p, l, hi, hm, q⟩ := q
  obtain ⟨v, hv, rv⟩ := gr.at' i _ hi
  cases rv
  obtain ⟨u, h1, h2⟩ := s.mu p _ hm
  cases h2 with
  | lst rl hz =>
    rename_i xs
    have hp := s.notP hm
    refine ⟨p, .lst xs, h1, trivial, fun od => ?_⟩
    obtain ⟨s1, sp⟩ := s.lockL hm h1 od
    have b1 : Bs F0 (F.hide p (.frz od (.lst xs))) := ⟨e0.f, e0.p.trans sp⟩
    have rl1 : RpL K (F.hide p (.frz od (.lst xs))) l xs := RpL.monoS (F := F) (F' := F.hide p (.frz od (.lst xs))) (Sm.rfl' (F := F)) rl
    refine ⟨.ref p, hv, .inl ⟨p, rfl, ⟨xs, .inl (.inr ⟨od, upd_same⟩)⟩, ?_⟩⟩
    have hl : l.length ≤ sizeLine := by rw [rl.length]; exact hz
    refine le_lc (F0 := F.hide p (.frz od (.lst xs))) (wi' := fun _ M R => R l M) (wi := fun _ H R => R (Itl K p) H) (li_const fun F2 b2 => jr_hid (b2.p _ _ upd_same) (rl1.monoS b2.f)) (hg.base b1) hw (ht.base b1) (he.base b1) (F.hide p (.frz od (.lst xs))) γ (mdel M p) σ _ (fun r M' => M' p = none → Q' r (mset M' p (.lst l))) (fun v H' => H' p = some (.frz od (.lst xs)) ∧ Q v (upd H' p (.lst xs))) (Bs.refl _) s1 (GR.monoS (F := F) (F' := F.hide p (.frz od (.lst xs))) (Sm.rfl' (F := F)) gr) ⟨hl, q⟩ fun F2 dd v M1 H2 e2 s2 r2 q2 => ?_
    obtain ⟨z1, z2, z3⟩ := s2.unlockL (F := F) (by rw [e2.e]; rfl) hp (rl1.mono e2) hz
    exact ⟨z2, k ⟨F2.f, F.p, F2.d⟩ dd v _ _ ⟨e2.s, rfl⟩ z1 (Rp.monoS (F := F2) (F' := ⟨F2.f, F.p, F2.d⟩) Sm.rfl' r2) (q2 z3)⟩
def dForH (i : Nat) (g : DTG) (tb : DTS) : DTS := fun D γ M => ∃ p l, γ[i]? = some (some (.ref p)) ∧ M p = some (.lst l) ∧ dForI g tb { nx := fun γ' M' => M' p = none → D.nx γ' (mset M' p (.lst l)), rt := fun d M' => M' p = none → D.rt d (mset M' p (.lst l)), bk := fun γ' M' => M' p = none → D.bk γ' (mset M' p (.lst l)), ct := fun γ' M' => M' p = none → D.ct γ' (mset M' p (.lst l)) } γ l (mdel M p)
theorem ls_forH (i : Nat) {g : TG} {g' : DTG} {tb : TS} {tb' : DTS} (hg : LG K F0 g' g) (hb : LS K F0 tb' tb) : LS K F0 (dForH i g' tb') (tLock (tFor (iSeq K (tVar i)) g tb)) := by
  intro F γ M σ H D' D0 e0 s gr q er
  obtain ⟨p, l, hi, hm, q⟩ := q
  obtain ⟨v, hv, rv⟩ := gr.at' i _ hi
  cases rv
  obtain ⟨u, h1, h2⟩ := s.mu p _ hm
  cases h2 with
  | lst rl hz =>
    rename_i xs
    have hp := s.notP hm
    refine ⟨p, .lst xs, h1, trivial, fun od => ?_⟩
    obtain ⟨s1, sp⟩ := s.lockL hm h1 od
    have b1 : Bs F0 (F.hide p (.frz od (.lst xs))) := ⟨e0.f, e0.p.trans sp⟩
    have rl1 : RpL K (F.hide p (.frz od (.lst xs))) l xs := RpL.monoS (F := F) (F' := F.hide p (.frz od (.lst xs))) (Sm.rfl' (F := F)) rl
    refine ⟨.ref p, hv, .inl ⟨p, rfl, ⟨xs, .inl (.inr ⟨od, upd_same⟩)⟩, ?_⟩⟩
    have back : ∀ {F2 : FZ} {M1 : Mp} {H2 : Hp}, FLe (F.hide p (.frz od (.lst xs))) F2 → SR K F2 M1 H2 → SR K ⟨F2.f, F.p, F2.d⟩ (mset M1 p (.lst l)) (upd H2 p (.lst xs)) ∧ H2 p = some (.frz od (.lst xs)) ∧ M1 p = none := fun {F2 M1 H2} e2 s2 => s2.unlockL (F := F) (by rw [e2.e]; rfl) hp (rl1.mono e2) hz
    have g2 : ∀ {F2 : FZ} {γ2 : G} {σ2 : L2.St}, GR K F2 γ2 σ2 → GR K ⟨F2.f, F.p, F2.d⟩ γ2 σ2 := fun {F2 γ2 σ2} x => GR.monoS (F := F2) (F' := ⟨F2.f, F.p, F2.d⟩) Sm.rfl' x
    refine ls_for (F0 := F.hide p (.frz od (.lst xs))) (wi' := fun _ M R => R l M) (wi := fun _ H R => R (Itl K p) H) (li_const fun F2 b2 => jr_hid (b2.p _ _ upd_same) (rl1.monoS b2.f)) (hg.base b1) (hb.base b1) (F.hide p (.frz od (.lst xs))) γ (mdel M p) σ _ _ ⟨fun σ' H' => H' p = some (.frz od (.lst xs)) ∧ D0.nx σ' (upd H' p (.lst xs)), fun v H' => H' p = some (.frz od (.lst xs)) ∧ D0.rt v (upd H' p (.lst xs)), fun σ' H' => H' p = some (.frz od (.lst xs)) ∧ D0.bk σ' (upd H' p (.lst xs)), fun σ' H' => H' p = some (.frz od (.lst xs)) ∧ D0.ct σ' (upd H' p (.lst xs))⟩ (Bs.refl _) s1 (GR.monoS (F := F) (F' := F.hide p (.frz od (.lst xs))) (Sm.rfl' (F := F)) gr) q ⟨fun F2 γ2 M1 σ2 H2 e2 s2 x2 q2 => ?_, fun F2 dd v M1 H2 e2 s2 r2 q2 => ?_, fun F2 γ2 M1 σ2 H2 e2 s2 x2 q2 => ?_, fun F2 γ2 M1 σ2 H2 e2 s2 x2 q2 => ?_⟩
    · obtain ⟨z1, z2, z3⟩ := back e2 s2
      exact ⟨z2, er.nx ⟨F2.f, F.p, F2.d⟩ γ2 _ σ2 _ ⟨e2.s, rfl⟩ z1 (g2 x2) (q2 z3)⟩
    · obtain ⟨z1, z2, z3⟩ := back e2 s2
      exact ⟨z2, er.rt ⟨F2.f, F.p, F2.d⟩ dd v _ _ ⟨e2.s, rfl⟩ z1 (Rp.monoS (F := F2) (F' := ⟨F2.f, F.p, F2.d⟩) Sm.rfl' r2) (q2 z3)⟩
    · obtain ⟨z1, z2, z3⟩ := back e2 s2
      exact ⟨z2, er.bk ⟨F2.f, F.p, F2.d⟩ γ2 _ σ2 _ ⟨e2.s, rfl⟩ z1 (g2 x2) (q2 z3)⟩
    · obtain ⟨z1, z2, z3⟩ := back e2 s2
      exact ⟨z2, er.ct ⟨F2.f, F.p, F2.d⟩ γ2 _ σ2 _ ⟨e2.s, rfl⟩ z1 (g2 x2) (q2 z3)⟩
end
section
variable {X : Cx} {F0 : FZ} {tg iter elt : Expr} {body : List Stmt} {ifs : List Expr} {scope : Scope} {own : List (Str × Nat)} {pos : Pos} {g : TG} {g' : DTG} {tb : TS} {tb' : DTS} {tt' : DTT} {te' : DTE} {i : Nat}
theorem ds_forH (hp : PassesOwn (model X.prog X.w) X.A X.env X.xe) (hc : X.calm = true) (hi : DE X F0 iter (tVar i) (dVar i)) (hg : DG X F0 tg g g') (hb : DB X F0 body tb tb') (hs : ∀ x, foldedSetIterable iter X.env x = pure x := by intro _; rfl) : DS X F0 (.For tg iter body [] pos) (tLock (tFor (iSeq X.K (tVar i)) g tb)) (dForH i g' tb') :=
  ⟨ps_lock (ps_for hp hc (pi_seq hi.pe) hg.pg hb.ps hs), ls_forH i hg.le hb.le⟩
theorem dx_lcH (hc : X.calm = true) (hN : X.N.Nodup) (hi : DE X F0 iter (tVar i) (dVar i)) (ok : BlkOk X.N X.env.scope scope own) (hg : Blk X scope fun Y => DGx Y F0 (own.map (·.2)) tg g') (ht : Blk X scope fun Y => DTx Y F0 ifs tt') (he : Blk X scope fun Y => DEx Y F0 elt te') (hs : ∀ x, foldedSetIterable iter X.env x = pure x := by intro _; rfl) :
    DE X F0 (.ListComp elt [⟨tg, iter, ifs, 0⟩] scope pos) (tLockE (tLc (iSeq X.K (tVar i)) (lfG X.K F0 (own.map (·.2)) g') (lfT X.K F0 tt') (lfE X.K F0 te') (own.map (·.2)))) (dLcH i g' tt' te' (own.map (·.2))) :=
  ⟨pe_lock (pe_lc hc hN (pi_seq hi.pe) ok (fun s H C cl fp => (hg s H C cl fp).pg) (fun s H C cl fp => (ht s H C cl fp).pt) (fun s H C cl fp => (he s H C cl fp).pe) hs), le_lcH i lg_lfG gw_lfG (le_lfT _) (le_lfE _)⟩
end
end DL

set_option maxRecDepth 100000
set_option maxHeartbeats 2000000
namespace DL
open PySem PySem.Spec PyProof.Rows L2

/-! ### == of lists that may change -/
def resV (M : Mp) : D → D
  | .ref p => (match M p with
    | some (.lst l) => .lst l
    | _ => .ref p)
  | d => d
theorem res_ref {M : Mp} {p : Addr} {l : List D} (h : M p = some (.lst l)) : resV M (.ref p) = .lst l := by simp only [resV, h]
theorem res_dp {K : PySem.W.Frag} {F : FZ} {M : Mp} {H : Hp} {d : D} {v : V} (s : SR K F M H) (r : Rp K F d v) (h : (resV M d).ok 60 = true) : Dp K H v (resV M d).py := by
  cases r with
  | ref p =>
    simp only [resV] at h ⊢
    split at h
    · rename_i l hm
      obtain ⟨w, h1, h2⟩ := s.mu p _ hm
      cases h2 with
      | lst b z =>
        have hl : D.okL l 59 = true := by simpa [D.ok] using h
        simp only [D.py]
        exact .lst (SqL.of h1) (RpL.dp s.fz b hl)
    · simp [D.ok] at h
  | non => exact Rp.dp s.fz .non h
  | bl b => exact Rp.dp s.fz (.bl b) h
  | int i => exact Rp.dp s.fz (.int i) h
  | str x => exact Rp.dp s.fz (.str x) h
  | ty n => exact Rp.dp (K := K) (F := F) s.fz (.ty n) h
  | tup a b => exact Rp.dp (K := K) s.fz (.tup a b) h
  | kt a b => exact Rp.dp (K := K) s.fz (.kt a b) h
  | lst a b => exact Rp.dp (K := K) s.fz (.lst a b) h
  | ls a b => exact Rp.dp (K := K) s.fz (.ls a b) h
  | dk a b => exact Rp.dp (K := K) s.fz (.dk a b) h
  | dt a b => exact Rp.dp (K := K) s.fz (.dt a b) h
section
variable {X : Cx} {K : PySem.W.Frag} {F0 : FZ} {a b : Expr} {ta tb : TE} {ta' tb' : DTE} {pos : Pos}
def dEqM (neg : Bool) : DR2 := fun x y M Q => (resV M x).ok 60 = true ∧ (resV M y).ok 60 = true ∧ Q (.bl (if neg then !D.eq (resV M x) (resV M y) else D.eq (resV M x) (resV M y))) M
theorem l2_eqM : L2r K F0 (dEqM false) (rEqD K) := by
  intro F M H d e x y Q' Q e0 s r1 r2 q k
  exact ⟨_, _, res_dp s r1 q.1, res_dp s r2 q.2.1, D.ok_shaped q.1, D.ok_shaped q.2.1, k F _ _ M H (FLe.refl F) s (.bl _) q.2.2⟩
theorem l2_neM : L2r K F0 (dEqM true) (rNeD K) := by
  intro F M H d e x y Q' Q e0 s r1 r2 q k
  exact ⟨_, _, res_dp s r1 q.1, res_dp s r2 q.2.1, D.ok_shaped q.1, D.ok_shaped q.2.1, k F _ _ M H (FLe.refl F) s (.bl _) q.2.2⟩
theorem de_eqM {n : Nat} (hr : Room n X.A) (ha : DE X F0 a ta ta') (hb : DE X F0 b tb tb') : DE X F0 (.Compare a [.Eq] [b] pos) (tOp (rEqD X.K) ta tb) (dOp (dEqM false) ta' tb') := de_cmp (op_eqD hr.units) l2_eqM ha hb (nomark _)
theorem de_neM {n : Nat} (hr : Room n X.A) (ha : DE X F0 a ta ta') (hb : DE X F0 b tb tb') : DE X F0 (.Compare a [.NotEq] [b] pos) (tOp (rNeD X.K) ta tb) (dOp (dEqM true) ta' tb') := de_cmp (op_neD hr.units) l2_neM ha hb (nomark _)
theorem dt_eqM {n : Nat} (hr : Room n X.A) (ha : DE X F0 a ta ta') (hb : DE X F0 b tb tb') : DT X F0 (.Compare a [.Eq] [b] pos) (tTest (tOp (rEqD X.K) ta tb)) (dTest (dOp (dEqM false) ta' tb')) := dt_cmp (op_eqD hr.units) l2_eqM ha hb (nomark _)
theorem dt_neM {n : Nat} (hr : Room n X.A) (ha : DE X F0 a ta ta') (hb : DE X F0 b tb tb') : DT X F0 (.Compare a [.NotEq] [b] pos) (tTest (tOp (rNeD X.K) ta tb)) (dTest (dOp (dEqM true) ta' tb')) := dt_cmp (op_neD hr.units) l2_neM ha hb (nomark _)
end
end DL

set_option maxRecDepth 100000
set_option maxHeartbeats 2000000
namespace DL
open PySem PySem.Spec PyProof.Rows L2

/-! ### != of instances whose class has an own __eq__ and no own __ne__ -/
/-- the class at C leaves != to object -/
structure NeOf (K : PySem.W.Frag) (C : Addr) : Prop where
  ne : PySem.W.findIn K (.ref C) "__ne__" = some (some (.builtin "object.__ne__"))
  hm : PySem.W.mroIn K C (.type "object") = some true
section
variable {prog : Program} {w : World} {A : Around} {E : Value → Shared → Prop} {s : Shared} {K : PySem.W.Frag} {x C f : Addr} {ox : Obj} {od : Option Obj} {b : Value}
theorem objNe_entry (hu : A.units < cLine) (X : K.In s.heap) (I : PySem.W.InstAt s.heap x ox C od) (hs : PySem.W.findIn K (.ref C) "__eq__" = some (some (.ref f))) (hf : PySem.W.isFn K (.ref f) = true) {Q : Fin → Shared → Prop}
    (h : wpAny (model prog w) A (call (.ref f) [.ref x, b]) (fun v s' => ∃ c, v = .bool c ∧ Q (.done (.ret (.bool (!c)))) s') E s) : wpAny (model prog w) A (Builtin.«object.__ne__» ⟨[.ref x, b], []⟩) Q E s := by
  have one : wpAny (model prog w) A (callSpecialIfBound? (.ref x) "__eq__" [b]) (fun r s' => ∃ c, r = some (.bool c) ∧ Q (.done (.ret (.bool (!c)))) s') E s :=
    PySem.W.ifBound_K X I hs hf (wpAny_mono h (fun v s' z => by
      obtain ⟨c, e, q⟩ := z
      subst e
      exact ⟨c, rfl, q⟩) fun _ _ e => e)
  unfold Builtin.«object.__ne__»
  repeat (first
    | with_reducible refine wpAny_cRoomFor hu ?_
    | (refine wpAny_bind (m := callSpecialIfBound? (.ref x) (Str.ofString "__eq__") [b]) (wpAny_mono one (fun r s' z => by
        obtain ⟨c, e, q⟩ := z
        subst e
        repeat (first | exact q | exact wpAny_pure q | exact wpAny_truthy_bool q | (refine wpAny_bind (m := truthy (.bool _)) (wpAny_truthy_bool ?_)) | wp_step)) fun _ _ e => e))
    | wp_step)
theorem ifBound_ne (X : K.In s.heap) (I : PySem.W.InstAt s.heap x ox C od) (N : NeOf K C) {args : List Value} {Q : Option Value → Shared → Prop}
    (h : wpAny (model prog w) A (call (.builtin "object.__ne__") (.ref x :: args)) (fun v => Q (some v)) E s) : wpAny (model prog w) A (callSpecialIfBound? (.ref x) "__ne__" args) Q E s := by
  simp only [callSpecialIfBound?, bindSpecialIfBound?]
  refine wpAny_holding (wpAny_bind (wpAny_bind (wpAny_bind (I.type.here ((PySem.W.looks_findIn X N.ne).here ?_)))))
  refine wpAny_bind (wpAny_askSetting (wpAny_ite ?_))
  have fin : wpAny (model prog w) A (call (.builtin "object.__ne__") ([.ref x] ++ args) >>= fun v => pure (some v)) Q E s := wpAny_bind (wpAny_mono h (fun v s' h' => wpAny_pure h') fun _ _ h' => h')
  split
  · exact wpAny_bind (wpAny_of_eq (F.cmp_object.ne.bind _) (wpAny_pure (by exact fin)))
  · exact wpAny_tryCatch (wpAny_bind (wpAny_of_eq (F.cmp_object.ne.bind _) (wpAny_pure (by exact fin))))
theorem cmp_ne (hu : A.units + 1 < cLine) (X : K.In s.heap) (I : PySem.W.InstAt s.heap x ox C od) (hb : PySem.W.Looks (model prog w) s.heap (typeOf b) (.ref C)) (N : NeOf K C)
    (hs : PySem.W.findIn K (.ref C) "__eq__" = some (some (.ref f))) (hf : PySem.W.isFn K (.ref f) = true) {Q : Value → Shared → Prop}
    (h : wpAny (model prog w) A.in1 (call (.ref f) [.ref x, b]) (fun v s' => ∃ c, v = .bool c ∧ Q (.bool (!c)) s') E s) : wpAny (model prog w) A (richCompare .NotEq (.ref x) b) Q E s := by
  have one : wpAny (model prog w) A (tryCompare (.ref x) "__ne__" b) (fun r s' => ∃ v, r = some v ∧ Q v s') E s := by
    unfold tryCompare
    refine wpAny_bind (ifBound_ne X I N (wpAny_call (codeAny_call_builtin F.cmp_object.ne.plain F.cmpEntry_ne (PySem.W.check_slot F.cmpKind_ne F.cmpSplit_ne (I.type.andThen (PySem.W.looks_mroIn X N.hm)) (F.cmpArgs_ne _ _)
      (objNe_entry (A := A.in1) hu X I hs hf (wpAny_mono h (fun v s' z => ?_) fun _ _ e => e))))))
    obtain ⟨c, e, q⟩ := z
    subst e
    first | exact ⟨c, rfl, wpAny_pure ⟨_, rfl, q⟩⟩ | exact ⟨c, rfl, ⟨_, rfl, q⟩⟩
  unfold richCompare
  simp only [oneThing_ref]
  refine wpAny_holding (wpAny_bind (wpAny_cRoomFor (Nat.lt_of_succ_lt hu) ?_))
  refine wpAny_bind (I.type.here (wpAny_bind (hb.here ?_)))
  rw [show (Value.ref C != Value.ref C) = false from by simp]
  simp only [Bool.false_eq_true, if_false]
  refine wpAny_bind (wpAny_pure ?_)
  simp only [Bool.false_eq_true, if_false]
  refine wpAny_bind (wpAny_mono one (fun r s' z => ?_) fun _ _ e => e)
  obtain ⟨v, e, q⟩ := z
  subst e
  exact wpAny_pure q
end
section
variable {X : Cx} {F0 : FZ} {a b : Expr} {ta tb : TE} {ta' tb' : DTE} {pos : Pos}
def rOwnNe (K : PySem.W.Frag) (C : Addr) (sp : DSp) : R2 := fun x y H Q => ∃ (p q : Addr) (dx dy : Addr) (fs gs : List (Str × V)), x = .ref p ∧ y = .ref q ∧ H p = some (.ins C dx fs) ∧ H q = some (.ins C dy gs) ∧ liftSp K sp [.ref p, .ref q] H (fun v H' => ∃ b, v = .bl b ∧ Q (.bl (!b)) H') fun _ _ _ => False
theorem op_ownNe {k j : Nat} {C : Addr} {sp : DSp} (c : DEqM X.prog X.w X.K X.mg X.base k C sp) (N : NeOf X.K C) (hr : Room j X.A) (hk : k + 1 ≤ j := by decide) : OpR X (compareOp .NotEq) (rOwnNe X.K C sp) := by
  rintro pins s σ H x y v u Q I rx ry ⟨p, q, dx, dy, fs, gs, rfl, rfl, ha, hb', hs⟩
  obtain ⟨f, fd, ps, F, hse, hf, hb⟩ := c.ex
  cases rx
  cases ry
  show wpAny (model X.prog X.w) X.A (richCompare .NotEq (.ref p) (.ref q)) (EP X pins σ Q) X.xe s
  obtain ⟨mA, J, _⟩ := ins_get I.hok ha
  obtain ⟨mB, J', _⟩ := ins_get I.hok hb'
  obtain ⟨od, J, _⟩ := J.look
  obtain ⟨od', J', _⟩ := J'.look
  have hr2 : Room k X.A.in1 := (hr.mono hk).in1
  refine cmp_ne hr2.units0 I.kIn J J'.type N hse hf ?_
  have e0 : Env0 X.prog X.w X.K X.mg X.base X.A.in1 X.stack s H := I.env0.in1
  have hl := F.len _ _ _ _ hs
  have r2 : Vals [V.ref p, V.ref q] [Value.ref p, Value.ref q] := .cons rfl (.cons rfl .nil)
  refine wpAny_call (codeAny_mono (F.run X.A.in1 X.stack s H ⟨[.ref p, .ref q], []⟩ [.ref p, .ref q] [.ref p, .ref q] _ _ hr2 e0 (by
    have := hb s [.ref p, .ref q] I.kIn (by simpa using hl)
    simpa using this) r2 hs) fun r s' hq => ?_)
  cases r with
  | error e => exact pass0' (X := X) (E := fun _ _ _ => False) pins σ H s e s' I hq
  | ok fl =>
    cases fl with
    | ret w =>
      obtain ⟨z, H', I', rz, bb, ez, ex⟩ := I.after hq
      subst ez
      obtain rfl : w = .bool bb := rz
      exact ⟨bb, rfl, .bl (!bb), H', I', rfl, ex⟩
    | next => exact False.elim hq
    | brk => exact False.elim hq
    | cont => exact False.elim hq
def dOwnNe (C : Addr) (sp : DSp) : DR2 := fun x y M Q => match x, y with
  | .ref p, .ref q => (∃ fs, M p = some (.ins C fs)) ∧ (∃ gs, M q = some (.ins C gs)) ∧ sp [.ref p, .ref q] M (fun d M1 => ∃ b, d = .bl b ∧ Q (.bl (!b)) M1) DXK.no
  | _, _ => False
theorem l2_ownNe {K : PySem.W.Frag} {C : Addr} {sp : DSp} : L2r K F0 (dOwnNe C sp) (rOwnNe K C sp) := by
  intro F M H d e x y Q' Q e0 s r1 r2 q k
  unfold dOwnNe at q
  split at q
  · obtain ⟨⟨fs, h1⟩, ⟨gs, h2⟩, q⟩ := q
    cases r1; cases r2
    obtain ⟨dx, fs', a1, _⟩ := s.ins h1
    obtain ⟨dy, gs', a2, _⟩ := s.ins h2
    refine ⟨_, _, dx, dy, fs', gs', rfl, rfl, a1, a2, F, _, M, _, DXK.no, s, .cons (.ref _) (.cons (.ref _) .nil), q, fun F1 d v M1 H1 e1 s1 r ⟨b, eb, q1⟩ => ?_, fun c d H1 ⟨_, _, _, _, _, _, z⟩ => z⟩
    subst eb
    cases r
    exact ⟨b, rfl, k F1 _ _ M1 H1 e1 s1 (.bl _) q1⟩
  · exact q.elim
theorem de_ownNe {k j : Nat} {C : Addr} {sp : DSp} (c : DEqM X.prog X.w X.K X.mg X.base k C sp) (N : NeOf X.K C) (hr : Room j X.A) (ha : DE X F0 a ta ta') (hb : DE X F0 b tb tb') (hk : k + 1 ≤ j := by decide) : DE X F0 (.Compare a [.NotEq] [b] pos) (tOp (rOwnNe X.K C sp) ta tb) (dOp (dOwnNe C sp) ta' tb') := de_cmp (op_ownNe c N hr hk) l2_ownNe ha hb (nomark _)
theorem dt_ownNe {k j : Nat} {C : Addr} {sp : DSp} (c : DEqM X.prog X.w X.K X.mg X.base k C sp) (N : NeOf X.K C) (hr : Room j X.A) (ha : DE X F0 a ta ta') (hb : DE X F0 b tb tb') (hk : k + 1 ≤ j := by decide) : DT X F0 (.Compare a [.NotEq] [b] pos) (tTest (tOp (rOwnNe X.K C sp) ta tb)) (dTest (dOp (dOwnNe C sp) ta' tb')) := dt_cmp (op_ownNe c N hr hk) l2_ownNe ha hb (nomark _)
end
end DL

set_option maxRecDepth 100000
set_option maxHeartbeats 2000000
namespace DL
open PySem PySem.Spec PyProof.Rows L2

/-! ### the place of an int in a list of ints -/
section
variable {X : Cx} {K : PySem.W.Frag} {F0 : FZ} {o e : Expr} {to : TE} {to' : DTE} {apos cpos : Pos}
theorem rpl_ints {F : FZ} : ∀ {ns : List Int} {xs : List V}, RpL K F (ns.map .int) xs → xs = ns.map V.int
  | [], _, .nil => rfl
  | n :: ns, _, .cons r t => by
    cases r
    rw [rpl_ints t]; rfl
def dIndex : DRM := fun x ds M Q => match ds with
  | [.int i] => ∃ (ns : List Int) (j : Nat), lstOf M x = some (ns.map .int) ∧ ns[j]? = some i ∧ (∀ m, m < j → ns[m]? ≠ some i) ∧ Q (.int (j : Int)) M
  | _ => False
theorem lm_index : LM K F0 dIndex (rIndex K) := by
  intro F M H o x ds vs Q' Q e0 s r rs q k
  unfold dIndex at q
  split at q
  · rename_i i
    obtain ⟨ns, j, hl, hj, hno, q⟩ := q
    obtain ⟨p, xs, rfl, h1, h2, h3⟩ := lst_of s r hl
    obtain rfl := rpl_ints h2
    cases rs with
    | cons r1 r2 =>
      cases r2
      cases r1
      refine ⟨p, _, .int i, j, .int i, rfl, rfl, SqL.of h1, rfl, ?_, by rw [List.getElem?_map, hj]; rfl, by simp [eqV], fun m z hm hz => ?_, k F _ _ M H (FLe.refl F) s (.int _) q⟩
      · rw [List.all_eq_true]
        intro y hy
        obtain ⟨n, _, rfl⟩ := List.mem_map.mp hy
        rfl
      · rw [List.getElem?_map] at hz
        obtain ⟨n, hn, rfl⟩ := Option.map_eq_some_iff.mp hz
        have : n ≠ i := fun e => hno m hm (by rw [hn, e])
        simp [eqV, this]
  · exact q.elim
theorem de_index {j : Nat} {ta : TA} {ta' : DTA} (hr : Room j X.A) (ho : DE X F0 o to to') (ha : DA X F0 [e] ta ta') (hbase : attributeBase o "index" X.env (eval o X.env) = eval o X.env := by rfl)
    (hfew : ((backTo cpos (starEach [e] X.env)).all (fun x => !x.1) && (backToKw cpos (keywordEach [] X.env)).all (fun x => x.1.isSome) && decide ([e].length + ([] : List Keyword).length + (if ([] : List Keyword).isEmpty then 0 else 1) < 30)) = true := by rfl)
    (hline : (apos.endLine == cpos.line) = true := by rfl) (hs : starEach [e] X.env = (false, eval e X.env) :: starEach [] X.env := by rfl) : DE X F0 (.Call (.Attribute o "index" apos) [e] [] cpos) (tBM X.K "list" (rIndex X.K) to ta) (dBM "list" dIndex to' ta') :=
  de_bm PySem.F.plainAttrs_list PySem.F.slot_list_index PySem.F.type_list_index mt_index lm_index ho ha (by decide) hbase hfew hline hs rfl
end
end DL

set_option maxRecDepth 100000
set_option maxHeartbeats 2000000
namespace DL
open PySem PySem.Spec PyProof.Rows L2

/-! ### tuples of the written part, by a global name -/
section
variable {X : Cx} {K : PySem.W.Frag} {F0 : FZ}
theorem ktup_of {a : Addr} {od : Option Addr} {its : Array Value} {n : Nat} {sl : Array (Option Value)} {xs : List V} (h : K.lookup a = some ⟨.type "tuple", od, .seq its n, sl⟩) (hz : its.size ≤ sizeLine) (r : Vals xs its.toList) : KTup K a xs := ⟨_, its, n, h, rfl, rfl, hz, r⟩
/-- the tuple behind a global name -/
structure GT (K : PySem.W.Frag) (mg : Str → Option Value) (x : Str) (ds : List D) : Prop where
  ex : ∃ (a : Addr) (xs : List V), mg x = some (.ref a) ∧ KTup K a xs ∧ ∀ F : FZ, RpL K F ds xs
theorem de_globK {x : Str} {a : Addr} {xs : List V} {ds : List D} {pos : Pos} (hm : X.mg x = some (.ref a)) (hk : KTup X.K a xs) (hr : ∀ F : FZ, RpL X.K F ds xs) (hg : Gl X x := by rfl) (hd : (x == ("__debug__" : Str)) = false := by decide) : DE X F0 (.Name x pos) (tC (.ref a)) (dC (.kt ds)) :=
  ⟨pe_glob hg hm rfl hd, fun F γ M σ H Q' Q e0 s g q k => k F (.kt ds) (.ref a) M H (FLe.refl F) s (.kt hk (hr F)) q⟩
end

/-! ### sorted, of a dict of few ints -/
section
variable {X : Cx} {K : PySem.W.Frag} {F0 : FZ} {e : Expr} {pos : Pos}
def dSortD : DRC := fun ds M Q => match ds with
  | [.ref p] => ∃ (kvs : List (Key × D)) (ks : List Int), M p = some (.dK kvs) ∧ kvs.map (·.1) = ks.map .inl ∧ ks.length < 64 ∧ ∀ ns' : List Int, ns'.Perm ks → ns'.Pairwise (· ≤ ·) → Q (.lst (ns'.map .int)) M
  | [.dk k0 _] => ∃ ks : List Int, k0 = ks.map .inl ∧ ks.length < 64 ∧ ∀ ns' : List Int, ns'.Perm ks → ns'.Pairwise (· ≤ ·) → Q (.lst (ns'.map .int)) M
  | _ => False
def rSortDI : List V → Hp → VK → Prop := fun xs H Q => ∃ (a : Addr) (kvs : List (Key × V)) (ks : List Int), xs = [.ref a] ∧ Rd H a (.dK kvs) ∧ kvs.map (·.1) = ks.map Sum.inl ∧ ks.length < 64 ∧
    ∀ (ys : List Int) (p : Addr), ys.Perm ks → ys.Pairwise (· ≤ ·) → H p = none → Q (.ref p) (upd H p (.lst (ys.map V.int)))
theorem kvr_keysD {κ : Type} {F : FZ} : ∀ {l : List (κ × D)} {m : List (κ × V)}, KVR K F l m → l.map (·.1) = m.map (·.1) := fun h => (kvr_parts h).1
theorem lc_sortD : LC K F0 dSortD rSortDI := by
  intro F M H ds vs Q' Q e0 s r q k
  unfold dSortD at q
  split at q
  · rename_i p
    obtain ⟨kvs, ks, hm, hk, h64, q⟩ := q
    cases r with
    | cons r1 r2 =>
      cases r2
      cases r1
      obtain ⟨u, h1, h2⟩ := s.mu p _ hm
      cases h2 with
      | dK b z =>
        refine ⟨p, _, ks, rfl, .inl h1, by rw [← kvr_keysD b]; exact hk, h64, fun ns' a' p1 p2 hp => ?_⟩
        have e2 := same_upd (o := .lst (ns'.map V.int)) (s.freeF hp)
        have hsl := sizeLine_eq
        exact k _ _ _ _ _ e2 (s.newF hp (by show (ns'.map V.int).length ≤ sizeLine; rw [List.length_map, p1.length_eq]; omega)) (.lst upd_same (RpL.ofInt ns')) (q ns' p1 p2)
  · obtain ⟨ks, hk, h64, q⟩ := q
    cases r with
    | cons r1 r2 =>
      cases r2
      cases r1 with
      | dk a b =>
        refine ⟨_, _, ks, rfl, s.dz _ _ a, hk, h64, fun ns' a' p1 p2 hp => ?_⟩
        have e2 := same_upd (o := .lst (ns'.map V.int)) (s.freeF hp)
        have hsl := sizeLine_eq
        exact k _ _ _ _ _ e2 (s.newF hp (by show (ns'.map V.int).length ≤ sizeLine; rw [List.length_map, p1.length_eq]; omega)) (.lst upd_same (RpL.ofInt ns')) (q ns' p1 p2)
  · exact q.elim
theorem de_sortD {t : TA} {t' : DTA} {p : Pos} (hm : X.mg "sorted" = none) (ha : DA X F0 [e] t t') (hc : X.calm = true := by rfl) (hg : Gl X "sorted" := by rfl) (he : starEach [e] X.env = (false, eval e X.env) :: starEach [] X.env := by rfl) : DE X F0 (.Call (.Name "sorted" p) [e] [] pos) (tCB rSortDI t) (dCB dSortD t') :=
  de_blt (call_sortedDI hc) lc_sortD hm ha (by decide +kernel) hg (by decide) (by decide) he rfl
end
end DL

set_option maxRecDepth 100000
set_option maxHeartbeats 2000000
namespace DL
open PySem PySem.Spec PyProof.Rows L2

/-! ### data in order: sorted, <, <=, >, >= -/
abbrev leD (a b : D) : Bool := !PySem.W.dataLt b.py a.py
def rSortX (K : PySem.W.Frag) : List V → Hp → VK → Prop := fun vs H Q => ∃ (a : Addr) (ps : List (V × D)), vs = [V.ref a] ∧ SqL K H a (ps.map (·.1)) ∧ (∀ p ∈ ps, Dp K H p.1 p.2.py ∧ p.2.py.depth ≤ 60) ∧
    (ps.length ≤ 1 ∨ PySem.W.AllAlike (ps.map fun p => p.2.py) ∧ PySem.W.Sortable (ps.map fun p => p.2.py)) ∧ ∀ p, H p = none → Q (.ref p) (upd H p (.lst ((ps.mergeSort fun a b => leD a.2 b.2).map (·.1))))
theorem eachOf {h : Heap} {R : V × D → Value → Prop} : ∀ {ps : List (V × D)} {us : List Value}, Vals (ps.map (·.1)) us → (∀ p u, p ∈ ps → RelV p.1 u → R p u) → PySem.W.EachIs (fun u p => R p u) us ps
  | [], _, .nil, _ => .nil
  | p :: ps, _, .cons r t, k => .cons (k p _ List.mem_cons_self r) (eachOf (h := h) t fun q u hq => k q u (List.mem_cons_of_mem _ hq))
theorem valsOf : ∀ {ps : List (V × D)} {us : List Value}, PySem.W.EachIs (fun u (p : V × D) => RelV p.1 u) us ps → Vals (ps.map (·.1)) us
  | _, _, .nil => .nil
  | _, _, .cons r t => .cons r (valsOf t)
section
variable {X : Cx}
theorem short_perm {α : Type} : ∀ {l m : List α}, l.Perm m → m.length ≤ 1 → l = m
  | l, [], h, _ => List.Perm.eq_nil h
  | l, [a], h, _ => List.perm_singleton.mp h
  | _, _ :: _ :: _, _, h => absurd h (by simp)
theorem cr_sortX (hu : X.A.units + 64 < cLine) : CallR X (.builtin "sorted") (rSortX X.K) := by
  intro pins s σ H vs us Q I r h
  obtain ⟨a, ps, rfl, hs, hp, hal, q⟩ := h
  obtain ⟨its, rv, hl, hz⟩ := I.list hs
  rw [Vals.ref1 r]
  rw [List.length_map] at hz
  have nl := rv.length
  rw [List.length_map] at nl
  have hlen : ((ps.mergeSort fun a b => leD a.2 b.2).map (·.1)).length ≤ sizeLine := by
    rw [List.length_map, List.length_mergeSort]
    exact hz
  rcases hal with h1 | ⟨hal, hk⟩
  · refine SrtO.sorted_ord (ltv := fun _ _ => false) ⟨fun x y h => (by cases h), fun x y z _ _ => rfl⟩ hl.isList (by rw [← nl]; exact hz) (fun h2 => absurd h2 (by omega)) fun out _ ho => ?_
    have e : out = its := short_perm ho.perm (by omega)
    subst e
    obtain ⟨ep, he'⟩ := PyProof.Rows.sortedAll_at s.heap out out.toArray
    have e2 : (ps.mergeSort fun a b => leD a.2 b.2) = ps := short_perm (List.mergeSort_perm _ _) h1
    rw [e2] at hlen q
    exact ⟨.ref _, upd H (s.heap.objs.size + 1) (.lst (ps.map (·.1))), I.laid (t' := s.toks) (fun _ _ => PyProof.Rows.sortedAll_old) (Nat.le_succ _) ⟨hlen, out, ep, rv, he'⟩, rfl, q _ (I.hok.fresh (Nat.le_succ _))⟩
  · refine PySem.W.sorted_data (enc := fun p : V × D => p.2.py) (R := fun u p => RelV p.1 u) hl.isList (eachOf (h := s.heap) rv fun p u _ z => z) (eachOf (h := s.heap) rv fun p u hm z => Dp.reads I _ _ _ (hp p hm).1 z) hal hk hz (fun b hb => by have := (hp b hb).2; omega) fun out ho eo => ?_
    obtain ⟨ep, he'⟩ := PyProof.Rows.sortedAll_at s.heap its out.toArray
    have ex : (PySem.W.dataLe false fun p : V × D => p.2.py) = fun a b => leD a.2 b.2 := by rw [PySem.W.dataLe_eq] <;> rfl
    rw [ex] at eo
    exact ⟨.ref _, upd H (s.heap.objs.size + 1) (.lst ((ps.mergeSort fun a b => leD a.2 b.2).map (·.1))), I.laid (t' := s.toks) (fun _ _ => PyProof.Rows.sortedAll_old) (Nat.le_succ _) ⟨hlen, out, ep, valsOf eo, he'⟩, rfl, q _ (I.hok.fresh (Nat.le_succ _))⟩
end
theorem rp_zip {K : PySem.W.Frag} {F : FZ} : ∀ {l : List D} {xs : List V}, RpL K F l xs → (∀ p ∈ xs.zip l, Rp K F p.2 p.1) ∧ (xs.zip l).map (·.1) = xs ∧ (xs.zip l).map (·.2) = l
  | [], _, .nil => ⟨fun _ h => (by cases h), rfl, rfl⟩
  | d :: l, _, .cons r t => by
    obtain ⟨h1, h2, h3⟩ := rp_zip t
    refine ⟨fun p hp => ?_, ?_, ?_⟩
    · rcases List.mem_cons.mp hp with rfl | hp
      · exact r
      · exact h1 p hp
    · rw [List.zip_cons_cons, List.map_cons, h2]
    · rw [List.zip_cons_cons, List.map_cons, h3]
theorem rp_unzip {K : PySem.W.Frag} {F : FZ} : ∀ {ps : List (V × D)}, (∀ p ∈ ps, Rp K F p.2 p.1) → RpL K F (ps.map (·.2)) (ps.map (·.1))
  | [], _ => .nil
  | p :: ps, h => .cons (h p List.mem_cons_self) (rp_unzip fun q hq => h q (List.mem_cons_of_mem _ hq))
/-- sorted(xs) of data alike -/
def dSortX : DRC := fun ds M Q => match ds with
  | [x] => ∃ l, lstOf M x = some l ∧ D.okL l 59 = true ∧ (l.length ≤ 1 ∨ PySem.W.AllAlike (l.map D.py) ∧ PySem.W.Sortable (l.map D.py)) ∧ Q (.lst (l.mergeSort leD)) M
  | _ => False
section
variable {X : Cx} {K : PySem.W.Frag} {F0 : FZ} {a b e : Expr} {ta tb : TE} {ta' tb' : DTE} {pos : Pos}
theorem lc_sortX : LC K F0 dSortX (rSortX K) := by
  intro F M H ds vs Q' Q e0 s r q k
  unfold dSortX at q
  split at q
  · obtain ⟨l, hd, ok, hal, q⟩ := q
    cases r with
    | cons r1 r2 =>
      cases r2
      obtain ⟨p, xs, rfl, a1, b1, z1⟩ := lst_of s r1 hd
      obtain ⟨h1, h2, h3⟩ := rp_zip b1
      have em : (xs.zip l).map (fun p => p.2.py) = l.map D.py := by
        have : (fun p : V × D => p.2.py) = D.py ∘ (·.2) := rfl
        rw [this, ← List.map_map, h3]
      refine ⟨p, xs.zip l, rfl, by rw [h2]; exact SqL.of a1, fun p hp => ?_, by rw [em, ← List.length_map (f := (·.2)), h3]; exact hal, fun p2 hp2 => ?_⟩
      · have hm : p.2 ∈ l := by rw [← h3]; exact List.mem_map_of_mem hp
        have o1 := okL_iff.mp ok _ hm
        exact ⟨(h1 p hp).dp s.fz o1, by have := (D.ok_lay o1).2; omega⟩
      · have e3 : ((xs.zip l).mergeSort fun a b => leD a.2 b.2).map (·.2) = l.mergeSort leD := by
          rw [List.map_mergeSort (s := leD) (fun _ _ _ _ => rfl), h3]
        have e2 := same_upd (o := .lst (((xs.zip l).mergeSort fun a b => leD a.2 b.2).map (·.1))) (s.freeF hp2)
        refine k _ _ _ _ _ e2 (s.newF hp2 ?_) (.lst upd_same ?_) q
        · show (((xs.zip l).mergeSort fun a b => leD a.2 b.2).map (·.1)).length ≤ sizeLine
          rw [List.length_map, List.length_mergeSort, ← List.length_map (f := (·.1)), h2]; exact z1
        · rw [← e3]
          exact (rp_unzip fun p hp => h1 p ((List.mergeSort_perm _ _).mem_iff.mp hp)).mono e2
  · exact q.elim
theorem de_sortX {n : Nat} {t : TA} {t' : DTA} {p : Pos} (hm : X.mg "sorted" = none) (ha : DA X F0 [e] t t') (hr : Room n X.A) (hg : Gl X "sorted" := by rfl) (he : starEach [e] X.env = (false, eval e X.env) :: starEach [] X.env := by rfl) : DE X F0 (.Call (.Name "sorted" p) [e] [] pos) (tCB (rSortX X.K) t) (dCB dSortX t') :=
  de_blt (cr_sortX hr.units) lc_sortX hm ha (by decide +kernel) hg (by decide) (by decide) he rfl
def rCmpX (K : PySem.W.Frag) (f : PyData → PyData → Bool) : R2 := fun x y H Q => ∃ d e, Dp K H x d ∧ Dp K H y e ∧ PySem.W.alike d e = true ∧ d ≠ .none ∧ d.depth ≤ 60 ∧ Q (.bl (f d e)) H
theorem op_ltX (hu : X.A.units + 64 < cLine) : OpR X (compareOp .Lt) (rCmpX X.K PySem.W.dataLt) := by
  rintro pins s σ H x y v u Q I rx ry ⟨d, e, hd, he, al, nn, dp, q⟩
  obtain ⟨as, r1⟩ := Dp.reads I d x v hd rx; obtain ⟨bs, r2⟩ := Dp.reads I e y u he ry
  exact PySem.W.lt_data r1 r2 al nn (by have := Nat.min_le_left d.depth e.depth; omega) ⟨.bl _, H, I, rfl, q⟩
theorem op_gtX (hu : X.A.units + 64 < cLine) : OpR X (compareOp .Gt) (rCmpX X.K fun d e => PySem.W.dataLt e d) := by
  rintro pins s σ H x y v u Q I rx ry ⟨d, e, hd, he, al, nn, dp, q⟩
  obtain ⟨as, r1⟩ := Dp.reads I d x v hd rx; obtain ⟨bs, r2⟩ := Dp.reads I e y u he ry
  exact PySem.W.gt_data r1 r2 al nn (by have := Nat.min_le_left d.depth e.depth; omega) ⟨.bl _, H, I, rfl, q⟩
theorem op_leX (hu : X.A.units + 64 < cLine) : OpR X (compareOp .LtE) (rCmpX X.K fun d e => !PySem.W.dataLt e d) := by
  rintro pins s σ H x y v u Q I rx ry ⟨d, e, hd, he, al, nn, dp, q⟩
  obtain ⟨as, r1⟩ := Dp.reads I d x v hd rx; obtain ⟨bs, r2⟩ := Dp.reads I e y u he ry
  exact PySem.W.le_data r1 r2 al nn (by have := Nat.min_le_left d.depth e.depth; omega) ⟨.bl _, H, I, rfl, q⟩
theorem op_geX (hu : X.A.units + 64 < cLine) : OpR X (compareOp .GtE) (rCmpX X.K fun d e => !PySem.W.dataLt d e) := by
  rintro pins s σ H x y v u Q I rx ry ⟨d, e, hd, he, al, nn, dp, q⟩
  obtain ⟨as, r1⟩ := Dp.reads I d x v hd rx; obtain ⟨bs, r2⟩ := Dp.reads I e y u he ry
  exact PySem.W.ge_data r1 r2 al nn (by have := Nat.min_le_left d.depth e.depth; omega) ⟨.bl _, H, I, rfl, q⟩
def dCmpX (f : PyData → PyData → Bool) : DR2 := fun x y M Q => x.ok 60 = true ∧ y.ok 60 = true ∧ PySem.W.alike x.py y.py = true ∧ x.py ≠ .none ∧ Q (.bl (f x.py y.py)) M
theorem l2_cmpX {f : PyData → PyData → Bool} : L2r K F0 (dCmpX f) (rCmpX K f) := by
  intro F M H d e x y Q' Q e0 s r1 r2 q k
  exact ⟨d.py, e.py, r1.dp s.fz q.1, r2.dp s.fz q.2.1, q.2.2.1, q.2.2.2.1, (D.ok_lay q.1).2, k F _ _ M H (FLe.refl F) s (.bl _) q.2.2.2.2⟩
theorem de_ltX {n : Nat} (hr : Room n X.A) (ha : DE X F0 a ta ta') (hb : DE X F0 b tb tb') : DE X F0 (.Compare a [.Lt] [b] pos) (tOp (rCmpX X.K PySem.W.dataLt) ta tb) (dOp (dCmpX PySem.W.dataLt) ta' tb') := de_cmp (op_ltX hr.units) l2_cmpX ha hb (nomark _)
theorem de_gtX {n : Nat} (hr : Room n X.A) (ha : DE X F0 a ta ta') (hb : DE X F0 b tb tb') : DE X F0 (.Compare a [.Gt] [b] pos) (tOp (rCmpX X.K fun d e => PySem.W.dataLt e d) ta tb) (dOp (dCmpX fun d e => PySem.W.dataLt e d) ta' tb') := de_cmp (op_gtX hr.units) l2_cmpX ha hb (nomark _)
theorem de_leX {n : Nat} (hr : Room n X.A) (ha : DE X F0 a ta ta') (hb : DE X F0 b tb tb') : DE X F0 (.Compare a [.LtE] [b] pos) (tOp (rCmpX X.K fun d e => !PySem.W.dataLt e d) ta tb) (dOp (dCmpX fun d e => !PySem.W.dataLt e d) ta' tb') := de_cmp (op_leX hr.units) l2_cmpX ha hb (nomark _)
theorem de_geX {n : Nat} (hr : Room n X.A) (ha : DE X F0 a ta ta') (hb : DE X F0 b tb tb') : DE X F0 (.Compare a [.GtE] [b] pos) (tOp (rCmpX X.K fun d e => !PySem.W.dataLt d e) ta tb) (dOp (dCmpX fun d e => !PySem.W.dataLt d e) ta' tb') := de_cmp (op_geX hr.units) l2_cmpX ha hb (nomark _)
end
theorem dIfS_then {c : DTT} {t u : DTS} {D0 : DEnds} {γ : G} {M : Mp} (P : Bool → Mp → Prop) (h : ∀ K : Bool → Mp → Prop, (∀ b M', P b M' → K b M') → c γ M K) (ht : ∀ M', P true M' → t D0 γ M') (hf : ∀ M', P false M' → u D0 γ M') : dIfS c t u D0 γ M := by
  refine h _ fun b M' p => ?_
  cases b with
  | true => rw [if_pos rfl]; exact ht M' p
  | false => rw [if_neg Bool.false_ne_true]; exact hf M' p
/-! ### rows of ints -/
def rowD (l : List Int) : D := .tup (l.map .int)
theorem py_ints : ∀ l : List Int, D.pyL (l.map .int) = l.map .int
  | [] => rfl
  | x :: l => by rw [List.map_cons, List.map_cons, D.pyL, py_ints l]; rfl
theorem lt_rowD (l m : List Int) : PySem.W.dataLt (rowD l).py (rowD m).py = decide (l < m) := by
  simp only [rowD, D.py, py_ints]
  rw [PySem.W.dataLt_tuple]
  exact PySem.W.dataLt_ints l m
theorem le_rowD (l m : List Int) : leD (rowD l) (rowD m) = decide (l ≤ m) := by
  unfold leD
  rw [lt_rowD]
  by_cases h : m < l
  · rw [decide_eq_true h, decide_eq_false (List.not_le.mpr h)]; rfl
  · rw [decide_eq_false h, decide_eq_true (List.not_lt.mp h)]; rfl
theorem alike_rowD (l m : List Int) : PySem.W.alike (rowD l).py (rowD m).py = true := by
  simp only [rowD, D.py, py_ints, PySem.W.alike]
  exact PySem.W.alike_ints l m
theorem allAlike_rowD (ls : List (List Int)) : PySem.W.AllAlike ((ls.map rowD).map D.py) := by
  rw [List.map_map]
  exact PySem.W.AllAlike.of fun a b => alike_rowD a b
theorem sortable_rowD {ls : List (List Int)} (h : ∀ l ∈ ls, l ≠ []) : PySem.W.Sortable ((ls.map rowD).map D.py) := .inl fun d hd => by
  rw [List.map_map] at hd
  obtain ⟨l, hl, rfl⟩ := List.mem_map.mp hd
  obtain ⟨x, r, rfl⟩ := List.exists_cons_of_ne_nil (h l hl)
  exact ⟨.int x, D.pyL (r.map .int), rfl⟩
def srtR (ls : List (List Int)) : List (List Int) := ls.mergeSort fun a b => decide (a ≤ b)
theorem sort_rowD (ls : List (List Int)) : (ls.map rowD).mergeSort leD = (srtR ls).map rowD := by
  unfold srtR
  rw [← List.map_mergeSort (s := leD) fun a _ b _ => (le_rowD a b).symm]
theorem sortH_rowD {ls : List (List Int)} (h : ls.length ≤ 1 ∨ ∀ l ∈ ls, l ≠ []) : (ls.map rowD).length ≤ 1 ∨ PySem.W.AllAlike ((ls.map rowD).map D.py) ∧ PySem.W.Sortable ((ls.map rowD).map D.py) := by
  rcases h with h | h
  · exact .inl (by rw [List.length_map]; exact h)
  · exact .inr ⟨allAlike_rowD ls, sortable_rowD h⟩
theorem srtR_perm (ls : List (List Int)) : (srtR ls).Perm ls := List.mergeSort_perm _ _
theorem srtR_pw (ls : List (List Int)) : (srtR ls).Pairwise (· ≤ ·) := by
  have h := List.pairwise_mergeSort (le := fun a b : List Int => decide (a ≤ b)) (fun a b c h1 h2 => by simp only [decide_eq_true_eq] at *; exact List.le_trans h1 h2) (fun a b => by simp only [Bool.or_eq_true, decide_eq_true_eq]; exact List.le_total a b) ls
  exact h.imp fun h => by simpa using h
theorem ok_rowD (l : List Int) (n : Nat) : D.ok (rowD l) (n + 1) = true := okL_int l n
theorem okL_rowD (ls : List (List Int)) (n : Nat) : D.okL (ls.map rowD) (n + 1) = true := okL_iff.mpr fun d h => by
  obtain ⟨l, _, rfl⟩ := List.mem_map.mp h
  exact ok_rowD l n
end DL

set_option maxRecDepth 100000
set_option maxHeartbeats 4000000
namespace DL
open PySem PySem.Spec PyProof.Rows L2

/-! ### set(xs) of a list of ints, as SetR; sorted(set(..)) -/
section
variable {P : Program} {w : World} {A : Around} {E : Value → Shared → Prop} {s : Shared}
abbrev eS (w : World) : Obj := { cls := .type "set", dict := none, data := .set #[] 0 (.fresh 0 0 (!w.params.followText "set-order")) }
theorem call_set_lsR {l : Addr} {xs : Array Value} (ns : List Int) {Q : Value → Shared → Prop} (hh : A.handled = none) (hl : s.heap.IsList l xs) (hx : IntsAre xs.toList ns) (hb : ns.length + 1 < scanBound)
    (h : ∀ (h' : Heap) (tk c : Nat), SetR w h' s.heap.objs.size (fun j => decide (j ∈ ns)) c → c ≤ ns.length → (∀ b o, s.heap.get? b = some o → h'.get? b = some o) → Q (.ref s.heap.objs.size) { s with heap := h', toks := tk }) :
    wpAny (model P w) A (call (.type "set") [.ref l]) Q E s := by
  have zx : xs.size = ns.length := by rw [← IntsAre.length hx, Array.length_toList]
  obtain ⟨c, tl, hmro⟩ := F.called_set.mro
  have m1 := F.called_set.made; have m2 := F.called_set.sub
  refine wpAny_call (codeAny_of_tree (show wpAny _ _ (callAny (.type "set") _) _ _ _ from wpAny_pure ⟨Code.quiet_builtin _ (by decide +kernel), codeAny_builtin F.entry_type_call ?_⟩))
  rw [Around.under_plain (weight_type_call_type "set" [.ref l] []) rfl]
  have m3 := F.called_set.notType; have m4 := F.called_set.canCreate; have m5 := F.typeCall_set_1 (.ref l)
  repeat' (first | assumption | wp_step)
  refine codeAny_mono (code_set_led1 (.ref l) (E := E) (Q₁ := fun u s₁ => u = .ref s.heap.objs.size ∧ s₁ = { s with heap := s.heap.push (eS w) }) ⟨rfl, rfl⟩) fun r s₁ hr => ?_
  cases r with
  | error e => exact hr
  | ok fl =>
    cases fl with
    | ret obj =>
      obtain ⟨rfl, rfl⟩ := hr
      have g0 : (s.heap.push (eS w)).get? s.heap.objs.size = some (eS w) := Heap.get?_push_size _ rfl
      have t0 : Shared.TypeIs { s with heap := s.heap.push (eS w) } (.ref s.heap.objs.size) "set" := ⟨_, g0, rfl⟩
      have m6 := F.called_set.init.lookup; have m7 := F.called_set.init.bind (.ref s.heap.objs.size)
      repeat' (first | assumption | wp_step)
      refine codeAny_mono (codeAny_call_builtin (R := wants (fun r s₂ => r = .none ∧ ∃ h' tk c, s₂ = { s with heap := h', toks := tk } ∧ SetR w h' s.heap.objs.size (fun j => decide (j ∈ ns)) c ∧ c ≤ ns.length ∧ ∀ b o, s.heap.get? b = some o → h'.get? b = some o) E) F.called_set.init.plain F.entry_set_init (check_set_init_1 t0 ?_)) fun r₂ s₂ hr₂ => ?_
      · obtain ⟨⟨ocls, od, dt, osl⟩, ho, hcl, nl, hdl⟩ := hl
        simp only at hcl hdl
        subst hcl hdl
        have ho' : (s.heap.push (eS w)).get? l = some { cls := .type "list", dict := od, data := .seq xs nl, slots := osl } := Heap.get?_push_of_some _ ho
        have m8 := F.sub_list_set; have m9 := F.sub_list_frozenset
        have m10 : (Value.type "list" == Value.type "dict") = false := by decide
        have hl1 : (s.heap.push (eS w)).IsList l xs := ⟨_, ho', rfl, nl, rfl⟩
        unfold Builtin.«set.__init__» noKeywords Builtin.Frozenset.updateFrom
        generalize hp : pyIter = pI
        wp_walk
        subst hp
        refine wpAny_pyIter_list hl1 (wpAny_bind (wpAny_runValue ?_))
        have lt : l < s.heap.objs.size := Heap.lt_size ho
        have sz : (s.heap.push (eS w)).objs.size = s.heap.objs.size + 1 := Heap.size_push ..
        have nI : l ≠ (s.heap.push (eS w)).objs.size := by rw [sz]; exact Nat.ne_of_lt (Nat.lt_succ_of_lt lt)
        have nS : s.heap.objs.size ∉ [(s.heap.push (eS w)).objs.size, l] := by
          rw [sz]; simp only [List.mem_cons, List.not_mem_nil, or_false, not_or]; exact ⟨Nat.ne_of_lt (Nat.lt_succ_self _), Nat.ne_of_gt lt⟩
        refine set_update_ints ((Walks.list (show A.in1.in1.in1.handled = none by simp [hh]) _ l nI xs).toS) s.heap.objs.size nS ns zx hb (fun i v hv => ?_) (xs.size - 0) 0 _ (by omega) (Nat.zero_le _) ⟨⟨_, Heap.get?_push_size _ rfl, rfl, rfl⟩, (hl1.push _)⟩ ⟨0, Nat.le_refl 0, setR_new_at (Heap.get?_push_of_some _ g0)⟩ fun s' c' hm hc' hS' => ?_
        · have hi : i < ns.length := by rw [← zx]; exact (Array.getElem?_eq_some_iff.mp hv).1
          obtain ⟨t, e⟩ := PyProof.Rows.IntsAre.int_at hx i v (by rw [Array.getElem?_toList]; exact hv)
          exact ⟨ns[i], t, List.getElem?_eq_getElem hi, by rw [e, List.getD_eq_getElem?_getD, List.getElem?_eq_getElem hi] <;> rfl⟩
        · obtain ⟨h', g2, d', tk', os'⟩ := s'
          obtain rfl : g2 = s.gens := hm.gens
          obtain rfl : d' = s.drawn := hm.drawn
          obtain rfl : os' = s.os := hm.os
          rw [zx] at hc'
          refine (show wpAny _ _ _ _ _ _ from wpAny_pure (show wpAny _ _ (ret Value.none) _ _ _ from wpAny_pure ⟨rfl, h', tk', c', rfl, hS', hc', fun b o e => ?_⟩))
          have lb : b < s.heap.objs.size := Heap.lt_size e
          exact hm.heap b o (by rw [sz]; simp only [List.mem_cons, List.not_mem_nil, or_false, not_or]; exact ⟨Nat.ne_of_lt lb, Nat.ne_of_lt (Nat.lt_succ_of_lt lb)⟩) (Heap.get?_push_of_some _ (Heap.get?_push_of_some _ e))
      · cases r₂ with
        | error e => exact hr₂
        | ok f2 =>
          cases f2 with
          | ret r =>
            obtain ⟨rfl, h', tk, c', rfl, z1, z2, z3⟩ := hr₂
            repeat' (first | assumption | wp_step)
            exact h _ _ _ z1 z2 z3
          | _ => exact hr₂.elim
    | _ => exact hr.elim
end
section
variable {X : Cx} {K : PySem.W.Frag} {F0 : FZ} {a : Expr} {ta : TE} {ta' : DTE} {pos : Pos}
/-- sorted(set(xs)), fewer than 64 unlike ones -/
def dSortSet (ta : DTE) : DTE := fun γ M Q => ta γ M fun x M1 => ∃ ns : List Int, seqInts M1 x = some (ns.map .int) ∧ ns.length ≤ 4000 ∧ (∀ ks : List Int, ks.Nodup → (∀ k ∈ ks, k ∈ ns) → ks.length < 64) ∧ ∀ ks : List Int, ks.Pairwise (· < ·) → (∀ k, k ∈ ks ↔ k ∈ ns) → Q (.lst (ks.map .int)) M1
def tSortSet (K : PySem.W.Frag) (ta : TE) : TE := fun σ H Q => ta σ H fun x H1 => ∃ (l : Addr) (ns : List Int), x = .ref l ∧ (SqL K H1 l (ns.map V.int) ∨ SqT K H1 l (ns.map V.int)) ∧ ns.length ≤ 4000 ∧ (∀ ks : List Int, ks.Nodup → (∀ k ∈ ks, k ∈ ns) → ks.length < 64) ∧
  ∀ (ks : List Int) (p : Addr), ks.Pairwise (· < ·) → (∀ k, k ∈ ks ↔ k ∈ ns) → H1 p = none → Q (.ref p) (upd H1 p (.lst (ks.map V.int)))
theorem pe_sortSet {p p2 q : Pos} (hm : X.mg "sorted" = none) (hm2 : X.mg "set" = none) (ha : PE X a ta) (hg : Gl X "sorted" := by rfl) (hg2 : Gl X "set" := by rfl) (hc : X.calm = true := by rfl)
    (na : starEach [a] X.env = (false, eval a X.env) :: starEach [] X.env := by rfl) : PE X (.Call (.Name "sorted" p) [.Call (.Name "set" p2) [a] [] q] [] pos) (tSortSet X.K ta) := by
  refine ⟨fun pins s σ H Q I h => Call_ (ld_blt I hg hm (show bootBuiltins "sorted" = some (.builtin "sorted") by decide +kernel) (PyProof.Rows.callWith_builtin1 (PyProof.Rows.args_cons (Call_ (ld_blt I hg2 hm2 PyProof.Rows.boot_set (PyProof.Rows.callWith_type1 (PyProof.Rows.args_cons (thn (ha.run pins s σ H _ I h) fun v s1 ⟨x, H1, I1, r1, q1⟩ => PyProof.Rows.args_nil ?_) na) na rfl))) rfl) rfl rfl))⟩
  obtain ⟨l, ns, rfl, hq, hl, h64, q1⟩ := q1
  cases r1
  have fin : ∀ (h' : Heap) (tk c : Nat), SetR X.w h' s1.heap.objs.size (fun j => decide (j ∈ ns)) c → c ≤ ns.length → (∀ b o, s1.heap.get? b = some o → h'.get? b = some o) →
      wpAny (model X.prog X.w) X.A (call (.builtin "sorted") [.ref s1.heap.objs.size]) (EP X pins σ Q) X.xe { s1 with heap := h', toks := tk } := fun h' tk c hS hle hk => by
    have I2 : Inv X pins σ H1 { s1 with heap := h', toks := tk } := I1.kept hk
    have c64 : c < 64 := by
      obtain ⟨o, es, ep, t, ho, hex, hd, _, nd, mem, _, hf, hn, _, _⟩ := hS
      have := h64 (es.toList.map L2.keyOf) nd fun k hk => by have := (mem k).mpr hk; simpa using this
      rw [List.length_map, Array.length_toList] at this
      omega
    refine sorted_set hS (I2.ok.hd hc) c64 fun s' p out c2 ks k g o hp hgt hi hs hm hlen => ?_
    have hz : (ks.map V.int).length ≤ sizeLine := by rw [List.length_map, hlen, sizeLine_eq]; omega
    have hn : H1 p = none := I2.hok.fresh hp
    have J : Inv X pins σ (upd H1 p (.lst (ks.map V.int))) { ({ s1 with heap := h', toks := tk } : Shared) with heap := s'.heap, gens := s'.gens, drawn := s'.drawn, toks := s'.toks } :=
      I2.call (ch := []) (Un.laid k hp hn) (I2.hok.laid k hp ⟨hz, out.toList, c2, vals_of_ints hi, hgt⟩) (by rw [g]; exact I2.bare) (fun _ z => nomatch z)
    have e : s' = { s1 with heap := s'.heap, gens := s'.gens, drawn := s'.drawn, toks := s'.toks } := by
      cases s'; cases s1; cases o; rfl
    rw [e]
    exact ⟨.ref p, _, J, rfl, q1 ks p hs (fun k => (hm k).trans (by simp)) hn⟩
  rcases hq with hq | hq
  · obtain ⟨its, r, pl, _⟩ := I1.list hq
    exact call_set_lsR ns (I1.ok.hd hc) pl.isList (by simpa using RZ.intsAre_vals r) (by unfold scanBound; omega) fun h' tk c z1 z2 z3 => PyProof.Rows.args_nil (fin h' tk c z1 z2 z3)
  · obtain ⟨its, r, pl, _⟩ := I1.tuple hq
    exact call_set_tupI ns (I1.ok.hd hc) pl (by simpa using RZ.intsAre_vals r) (by unfold scanBound; omega) fun h' tk c z1 z2 z3 => PyProof.Rows.args_nil (fin h' tk c z1 z2 z3)
theorem de_sortSet {p p2 q : Pos} (hm : X.mg "sorted" = none) (hm2 : X.mg "set" = none) (ha : DE X F0 a ta ta') (hg : Gl X "sorted" := by rfl) (hg2 : Gl X "set" := by rfl) (hc : X.calm = true := by rfl)
    (na : starEach [a] X.env = (false, eval a X.env) :: starEach [] X.env := by rfl) : DE X F0 (.Call (.Name "sorted" p) [.Call (.Name "set" p2) [a] [] q] [] pos) (tSortSet X.K ta) (dSortSet ta') := ⟨pe_sortSet hm hm2 ha.pe hg hg2 hc na, fun F γ M σ H Q' Q e0 s g q k => by
  refine ha.le F γ M σ H _ _ e0 s g q fun F1 d1 v1 M1 H1 e1 s1 r1 q1 => ?_
  obtain ⟨ns, h1, h3, h64, q1⟩ := q1
  obtain ⟨p, xs, rfl, h4, h5⟩ := seq_rp s1 r1 h1
  have z := RpL.int ns h5
  subst z
  refine ⟨p, ns, rfl, h4, h3, h64, fun ks p2 h6 h7 hp => ?_⟩
  have e2 := same_upd (o := .lst (ks.map V.int)) (s1.freeF hp)
  have kl : ks.length < 64 := h64 ks (h6.imp fun {a b} h e => by omega) fun k hk => (h7 k).mp hk
  have hsl := sizeLine_eq
  exact k _ _ _ _ _ (e1.trans e2) (s1.newF hp (by show (ks.map V.int).length ≤ sizeLine; rw [List.length_map]; omega)) (.lst upd_same (RpL.ofInt ks)) (q1 ks h6 h7)⟩
end
/-! ### sorted(d), a new list to be changed -/
section
variable {X : Cx} {K : PySem.W.Frag} {F0 : FZ} {e : Expr} {pos : Pos}
def dSortDM : DRC := fun ds M Q => dSortD ds M (toM Q)
theorem lc_sortDM : LC K F0 dSortDM rSortDI := by
  intro F M H ds vs Q' Q e0 s r q k
  unfold dSortDM dSortD at q
  have hsl := sizeLine_eq
  split at q
  · rename_i p
    obtain ⟨kvs, ks, hm, hk, h64, q⟩ := q
    cases r with
    | cons r1 r2 =>
      cases r2; cases r1
      obtain ⟨u, h1, h2⟩ := s.mu p _ hm
      cases h2 with
      | dK b z =>
        exact ⟨p, _, ks, rfl, .inl h1, by rw [← kvr_keysD b]; exact hk, h64, fun ns' a' p1 p2 hp => k F _ _ _ _ (FLe.refl F) (s.putN hp (.lst (RpL.ofInt ns') (by rw [List.length_map, p1.length_eq]; omega))) (.ref a') (q ns' p1 p2 a' (s.freeM hp))⟩
  · obtain ⟨ks, hk, h64, q⟩ := q
    cases r with
    | cons r1 r2 =>
      cases r2
      cases r1 with
      | dk a b =>
        exact ⟨_, _, ks, rfl, s.dz _ _ a, hk, h64, fun ns' a' p1 p2 hp => k F _ _ _ _ (FLe.refl F) (s.putN hp (.lst (RpL.ofInt ns') (by rw [List.length_map, p1.length_eq]; omega))) (.ref a') (q ns' p1 p2 a' (s.freeM hp))⟩
  · exact q.elim
theorem de_sortDM {t : TA} {t' : DTA} {p : Pos} (hm : X.mg "sorted" = none) (ha : DA X F0 [e] t t') (hc : X.calm = true := by rfl) (hg : Gl X "sorted" := by rfl) (he : starEach [e] X.env = (false, eval e X.env) :: starEach [] X.env := by rfl) : DE X F0 (.Call (.Name "sorted" p) [e] [] pos) (tCB rSortDI t) (dCB dSortDM t') :=
  de_blt (call_sortedDI hc) lc_sortDM hm ha (by decide +kernel) hg (by decide) (by decide) he rfl
end
end DL

set_option maxRecDepth 100000
set_option maxHeartbeats 2000000
namespace DL
open PySem PySem.Spec PyProof.Rows L2

/-! ### ==, != of an instance with an own __eq__ and a thing of another kind -/
section
open PySem.SeqAt PySem.MeetsSeq PySem.AutoSeq1
abbrev NotI (s : Shared) (p : Addr) (T : String) : Prop := ∀ M : Model, PySem.W.Looks M s.heap (isInstance (.ref p) (.type T)) false
theorem tup_dec (l p : Addr) (xs : Array Value) (n : Nat) (dd : Option Addr) (sl : Array (Option Value)) :
    Meets (Builtin.«tuple.__eq__» ⟨[.ref l, .ref p], []⟩) (fun _ R s => s.heap.get? l = some { cls := .type "tuple", dict := dd, data := .seq xs n, slots := sl } ∧ NotI s p "tuple" ∧ R (.ok (.ret .notImplemented)) s) :=
  .of_wp fun P w A R s h => by
    obtain ⟨hp, g, d, tk, os⟩ := s; obtain ⟨hl, hN, h⟩ := h
    have no : ∀ (B : Around) (E : Value → Shared → Prop) (Q : Bool → Shared → Prop), Q false ⟨hp, g, d, tk, os⟩ → wpAny (model P w) B (isInstance (.ref p) (.type "tuple")) Q E ⟨hp, g, d, tk, os⟩ := fun B E Q q => hN (model P w) B Q E ⟨hp, g, d, tk, os⟩ (fun _ _ e => e) q
    wp_walk using no, wpAny_loadPart' hl
    exact ⟨_, rfl, h⟩
theorem lst_dec (l p : Addr) (xs : Array Value) (n : Nat) (dd : Option Addr) (sl : Array (Option Value)) :
    Meets (Builtin.«list.__eq__» ⟨[.ref l, .ref p], []⟩) (fun _ R s => s.heap.get? l = some { cls := .type "list", dict := dd, data := .seq xs n, slots := sl } ∧ NotI s p "list" ∧ R (.ok (.ret .notImplemented)) s) :=
  .of_wp fun P w A R s h => by
    obtain ⟨hp, g, d, tk, os⟩ := s; obtain ⟨hl, hN, h⟩ := h
    have no : ∀ (B : Around) (E : Value → Shared → Prop) (Q : Bool → Shared → Prop), Q false ⟨hp, g, d, tk, os⟩ → wpAny (model P w) B (isInstance (.ref p) (.type "list")) Q E ⟨hp, g, d, tk, os⟩ := fun B E Q q => hN (model P w) B Q E ⟨hp, g, d, tk, os⟩ (fun _ _ e => e) q
    wp_walk using no, wpAny_loadPart' hl
    exact ⟨_, rfl, h⟩
theorem dct_dec (l p : Addr) (o : Obj) :
    Meets (Builtin.«dict.__eq__» ⟨[.ref l, .ref p], []⟩) (fun _ R s => s.heap.get? l = some o ∧ o.cls = .type "dict" ∧ NotI s p "dict" ∧ R (.ok (.ret .notImplemented)) s) :=
  .of_wp fun P w A R s h => by
    obtain ⟨hp, g, d, tk, os⟩ := s; obtain ⟨hl, hc, hN, h⟩ := h
    obtain ⟨oc, od, dt, osl⟩ := o
    simp only at hc
    subst hc
    have no : ∀ (B : Around) (E : Value → Shared → Prop) (Q : Bool → Shared → Prop), Q false ⟨hp, g, d, tk, os⟩ → wpAny (model P w) B (isInstance (.ref p) (.type "dict")) Q E ⟨hp, g, d, tk, os⟩ := fun B E Q q => hN (model P w) B Q E ⟨hp, g, d, tk, os⟩ (fun _ _ e => e) q
    wp_walk using no, wpAny_loadPart' hl
    exact ⟨_, rfl, h⟩
theorem int_dec (b : Int) (u : Tok) (p C dx : Addr) :
    Meets (Builtin.«int.__eq__» ⟨[.int b u, .ref p], []⟩) (fun _ R s => s.heap.get? p = some (PySem.W.instObj C dx) ∧ R (.ok (.ret .notImplemented)) s) :=
  .of_wp fun P w A R s h => by obtain ⟨hp, g, d, tk, os⟩ := s; obtain ⟨hl, h⟩ := h; wp_walk using wpAny_loadPart' hl, wpAny_load hl; exact ⟨_, rfl, h⟩
theorem bl_dec (b : Bool) (p C dx : Addr) :
    Meets (Builtin.«int.__eq__» ⟨[.bool b, .ref p], []⟩) (fun _ R s => s.heap.get? p = some (PySem.W.instObj C dx) ∧ R (.ok (.ret .notImplemented)) s) :=
  .of_wp fun P w A R s h => by obtain ⟨hp, g, d, tk, os⟩ := s; obtain ⟨hl, h⟩ := h; wp_walk using wpAny_loadPart' hl, wpAny_load hl; exact ⟨_, rfl, h⟩
theorem str_dec (b : Str) (u : Tok) (p C dx : Addr) :
    Meets (Builtin.«str.__eq__» ⟨[.str b u, .ref p], []⟩) (fun _ R s => s.heap.get? p = some (PySem.W.instObj C dx) ∧ R (.ok (.ret .notImplemented)) s) :=
  .of_wp fun P w A R s h => by obtain ⟨hp, g, d, tk, os⟩ := s; obtain ⟨hl, h⟩ := h; wp_walk using wpAny_loadPart' hl, wpAny_load hl; exact ⟨_, rfl, h⟩
end
section
variable {prog : Program} {w : World} {A : Around} {E : Value → Shared → Prop} {s : Shared} {K : PySem.W.Frag} {x C f : Addr} {ox : Obj} {od : Option Obj} {a : Value} {Ta id : String}
/-- the left one declines, then the instance's own __eq__ is asked -/
theorem refl_K (hu : A.units < cLine) (X : K.In s.heap) (I : PySem.W.InstAt s.heap x ox C od) (ha : s.TypeIs a Ta) (hsub : PySem.W.subIn K (.ref C) (.type Ta) = some false) (h1 : Slot Ta (cmpInfo .Eq).2.1 id)
    (hc : ∀ Q' : Value → Shared → Prop, Q' .notImplemented s → wpAny (model prog w) A (call (.builtin id) [a, .ref x]) Q' E s) (hs : PySem.W.findIn K (.ref C) "__eq__" = some (some (.ref f))) (hf : PySem.W.isFn K (.ref f) = true) {Q : Value → Shared → Prop}
    (h : wpAny (model prog w) A (call (.ref f) [.ref x, a]) (PySem.W.CmpBack Q) E s) : wpAny (model prog w) A (richCompare .Eq a (.ref x)) Q E s := by
  have one : wpAny (model prog w) A (tryCompare (.ref x) (cmpInfo .Eq).2.2 a) (fun r s' => ∃ v, r = some v ∧ Q v s') E s := by
    unfold tryCompare
    refine wpAny_bind (PySem.W.ifBound_K X I hs hf (wpAny_mono h (fun v s' hv => ?_) fun _ _ e => e))
    cases v <;> first | exact hv.elim | exact wpAny_pure ⟨_, rfl, hv⟩
  rcases hi : cmpInfo CmpOp.Eq with ⟨sym, nf, nr⟩
  rw [hi] at h1 one
  simp only [richCompare, hi, ha.oneThing_none]
  refine wpAny_holding (wpAny_bind (wpAny_cRoomFor hu (wpAny_bind (wpAny_typeOf ha (wpAny_bind (I.type.here ?_))))))
  rw [show (Value.type Ta != Value.ref C) = true by simp, if_pos rfl]
  refine wpAny_bind ((PySem.W.looks_subIn X hsub).here ?_)
  simp only [Bool.false_eq_true, if_false, Bool.not_false, if_true]
  refine wpAny_bind (m := tryCompare a _ (.ref x)) (wpAny_tryCompare_declines ha h1 (hc _ ⟨rfl, ?_⟩))
  refine wpAny_bind (m := tryCompare (.ref x) _ a) (wpAny_mono one (fun r s' z => ?_) fun _ _ e => e)
  obtain ⟨v, rfl, hq⟩ := z
  exact wpAny_pure hq
end
/-- the class at C is none of the built-in ones -/
structure NoB (K : PySem.W.Frag) (C : Addr) : Prop where
  n : PySem.W.subIn K (.ref C) (.type "NoneType") = some false
  b : PySem.W.subIn K (.ref C) (.type "bool") = some false
  i : PySem.W.subIn K (.ref C) (.type "int") = some false
  s : PySem.W.subIn K (.ref C) (.type "str") = some false
  t : PySem.W.subIn K (.ref C) (.type "tuple") = some false
  l : PySem.W.subIn K (.ref C) (.type "list") = some false
  d : PySem.W.subIn K (.ref C) (.type "dict") = some false
/-- a thing of a built-in kind -/
inductive Oth (K : PySem.W.Frag) (H : Hp) : V → String → Prop
  | non : Oth K H .non "NoneType"
  | bl (b : Bool) : Oth K H (.bl b) "bool"
  | int (i : Int) : Oth K H (.int i) "int"
  | str (z : Str) : Oth K H (.str z) "str"
  | tup {a : Addr} {xs : List V} (h : SqT K H a xs) : Oth K H (.ref a) "tuple"
  | lst {a : Addr} {xs : List V} (h : SqL K H a xs) : Oth K H (.ref a) "list"
  | dct {a : Addr} {kvs : List (Key × V)} (h : H a = some (.dK kvs)) : Oth K H (.ref a) "dict"
section
variable {X : Cx} {pins : List (Addr × Obj)} {σ : L2.St} {H : Hp} {s : Shared} {y : V} {u : Value} {T : String}
theorem oth_type (I : Inv X pins σ H s) (ry : RelV y u) (h : Oth X.K H y T) : s.TypeIs u T := by
  cases h with
  | non => cases ry; exact typeIs_none s
  | bl b => obtain rfl : u = .bool b := ry; exact PySem.typeIs_bool s b
  | int i => obtain ⟨t, rfl⟩ := ry; exact typeIs_int s i t
  | str z => obtain ⟨t, rfl⟩ := ry; exact typeIs_str s z t
  | tup h => cases ry; obtain ⟨its, r, ⟨o, ho, hc, _⟩, _⟩ := I.tuple h; exact ⟨o, ho, hc⟩
  | lst h => cases ry; obtain ⟨its, r, ⟨o, n, ho, hc, _⟩, _⟩ := I.list h; exact ⟨o, ho, hc⟩
  | dct h => cases ry; obtain ⟨_, _, vs, rel, dd⟩ := dk_of I.hok h; exact dd.typeIs
theorem oth_sub {C : Addr} (h : Oth X.K H y T) : PySem.W.subIn X.K (.type T) (.ref C) = some false := by cases h <;> rfl
theorem oth_nob {C : Addr} (N : NoB X.K C) (h : Oth X.K H y T) : PySem.W.subIn X.K (.ref C) (.type T) = some false := by
  cases h
  · exact N.n
  · exact N.b
  · exact N.i
  · exact N.s
  · exact N.t
  · exact N.l
  · exact N.d
theorem oth_dec {p C dx : Addr} (N : NoB X.K C) (I : Inv X pins σ H s) (hp : s.heap.get? p = some (PySem.W.instObj C dx)) (ry : RelV y u) (h : Oth X.K H y T) :
    ∃ id, Slot T (cmpInfo .Eq).2.1 id ∧ ∀ (A : Around) (E : Value → Shared → Prop) (Q : Value → Shared → Prop), Q .notImplemented s → wpAny (model X.prog X.w) A (call (.builtin id) [u, .ref p]) Q E s := by
  have no : ∀ T, PySem.W.subIn X.K (.ref C) (.type T) = some false → NotI s p T := fun T h M => by
    have ty : PySem.W.Looks M s.heap (typeOf (.ref p)) (.ref C) := (PySem.W.Looks.ld hp).andThen .now
    exact ty.andThen (PySem.W.looks_mroIn I.kIn h)
  have ht := oth_type I ry h
  cases h with
  | non => cases ry; exact ⟨_, F.slot_NoneType_eq, fun A E Q q => PySem.call_gives F.slot_NoneType_eq ht F.entry_NoneType_eq (F.args_NoneType_eq_2 _ _) (PySem.SeqAt.NoneType___eq___none_ref_0 p) q⟩
  | bl b => obtain rfl : u = .bool b := ry; exact ⟨_, F.slot_bool_eq, fun A E Q q => PySem.call_meets F.slot_bool_eq ht F.entry_int_eq (F.args_int_eq_2 _ _) (bl_dec b p C dx) ⟨hp, q⟩⟩
  | int i => obtain ⟨t, rfl⟩ := ry; exact ⟨_, F.slot_int_eq, fun A E Q q => PySem.call_meets F.slot_int_eq ht F.entry_int_eq (F.args_int_eq_2 _ _) (int_dec i t p C dx) ⟨hp, q⟩⟩
  | str z => obtain ⟨t, rfl⟩ := ry; exact ⟨_, F.slot_str_eq, fun A E Q q => PySem.call_meets F.slot_str_eq ht F.entry_str_eq (F.args_str_eq_2 _ _) (str_dec z t p C dx) ⟨hp, q⟩⟩
  | tup h =>
    cases ry
    obtain ⟨its, r, ⟨⟨cls, dd, dt, sl⟩, ho, hc, n, hd⟩, _⟩ := I.tuple h
    simp only at hc hd
    subst hc hd
    exact ⟨_, F.slot_tuple_eq, fun A E Q q => PySem.call_meets F.slot_tuple_eq ht F.entry_tuple_eq (F.args_tuple_eq_2 _ _) (tup_dec _ p its.toArray n dd sl) ⟨ho, no _ N.t, q⟩⟩
  | lst h =>
    cases ry
    obtain ⟨its, r, ⟨⟨cls, dd, dt, sl⟩, n, ho, hc, hdn, hd⟩, _⟩ := I.list h
    simp only at hc hd
    subst hc hd
    exact ⟨_, F.slot_list_eq, fun A E Q q => PySem.call_meets F.slot_list_eq ht F.entry_list_eq (F.args_list_eq_2 _ _) (lst_dec _ p its.toArray n dd sl) ⟨ho, no _ N.l, q⟩⟩
  | dct h =>
    cases ry
    obtain ⟨_, _, vs, rel, dd⟩ := dk_of I.hok h
    obtain ⟨o, ho, hc⟩ := dd.typeIs
    exact ⟨_, F.slot_dict_eq, fun A E Q q => PySem.call_meets F.slot_dict_eq ht F.entry_dict_eq (F.args_dict_eq_2 _ _) (dct_dec _ p o) ⟨ho, hc, no _ N.d, q⟩⟩
end
section
variable {prog : Program} {w : World} {A : Around} {E : Value → Shared → Prop} {s : Shared} {K : PySem.W.Frag} {x C f : Addr} {ox : Obj} {od : Option Obj} {b tb : Value}
/-- != by object's, the other one of any other kind -/
theorem cmp_neO (hu : A.units + 1 < cLine) (X : K.In s.heap) (I : PySem.W.InstAt s.heap x ox C od) (hb : PySem.W.Looks (model prog w) s.heap (typeOf b) tb) (hn : PySem.W.notFirst K C tb = true) (N : NeOf K C)
    (hs : PySem.W.findIn K (.ref C) "__eq__" = some (some (.ref f))) (hf : PySem.W.isFn K (.ref f) = true) {Q : Value → Shared → Prop}
    (h : wpAny (model prog w) A.in1 (call (.ref f) [.ref x, b]) (fun v s' => ∃ c, v = .bool c ∧ Q (.bool (!c)) s') E s) : wpAny (model prog w) A (richCompare .NotEq (.ref x) b) Q E s := by
  have one : wpAny (model prog w) A (tryCompare (.ref x) "__ne__" b) (fun r s' => ∃ v, r = some v ∧ Q v s') E s := by
    unfold tryCompare
    refine wpAny_bind (ifBound_ne X I N (wpAny_call (codeAny_call_builtin F.cmp_object.ne.plain F.cmpEntry_ne (PySem.W.check_slot F.cmpKind_ne F.cmpSplit_ne (I.type.andThen (PySem.W.looks_mroIn X N.hm)) (F.cmpArgs_ne _ _)
      (objNe_entry (A := A.in1) hu X I hs hf (wpAny_mono h (fun v s' z => ?_) fun _ _ e => e))))))
    obtain ⟨c, e, q⟩ := z
    subst e
    first | exact ⟨c, rfl, wpAny_pure ⟨_, rfl, q⟩⟩ | exact ⟨c, rfl, ⟨_, rfl, q⟩⟩
  have fin : wpAny (model prog w) A (tryCompare (.ref x) "__ne__" b) (fun r s' => ∃ v, r = some v ∧ Q v s') E s := one
  unfold richCompare
  simp only [oneThing_ref]
  refine wpAny_holding (wpAny_bind (wpAny_cRoomFor (Nat.lt_of_succ_lt hu) ?_))
  refine wpAny_bind (I.type.here (wpAny_bind (hb.here ?_)))
  split
  · rename_i q
    have e : PySem.W.subIn K tb (.ref C) = some false := by
      rcases Bool.or_eq_true_iff.mp hn with e | e
      · rw [beq_iff_eq.mp e] at q; simp at q
      · exact beq_iff_eq.mp e
    refine wpAny_bind ((PySem.W.looks_subIn X e).here ?_)
    simp only [Bool.false_eq_true, if_false]
    refine wpAny_bind (wpAny_mono one (fun r s' z => ?_) fun _ _ e => e)
    obtain ⟨v, rfl, hq⟩ := z
    exact wpAny_pure hq
  · refine wpAny_bind (wpAny_pure ?_)
    simp only [Bool.false_eq_true, if_false]
    refine wpAny_bind (wpAny_mono one (fun r s' z => ?_) fun _ _ e => e)
    obtain ⟨v, rfl, hq⟩ := z
    exact wpAny_pure hq
end
/-- the other one: of a built-in kind, or of another class of the text -/
def OthA (K : PySem.W.Frag) (C : Addr) (H : Hp) (y : V) : Prop := (∃ T, Oth K H y T) ∨ ∃ (q C2 dy : Addr) (gs : List (Str × V)), y = .ref q ∧ H q = some (.ins C2 dy gs) ∧ PySem.W.notFirst K C (.ref C2) = true
section
variable {X : Cx} {F0 : FZ} {a b : Expr} {ta tb : TE} {ta' tb' : DTE} {pos : Pos}
theorem othA_look {C : Addr} {pins : List (Addr × Obj)} {σ : L2.St} {H : Hp} {s : Shared} {y : V} {u : Value} (I : Inv X pins σ H s) (ry : RelV y u) (h : OthA X.K C H y) : ∃ tb, PySem.W.Looks (model X.prog X.w) s.heap (typeOf u) tb ∧ PySem.W.notFirst X.K C tb = true := by
  rcases h with ⟨T, h⟩ | ⟨q, C2, dy, gs, rfl, hb, n⟩
  · refine ⟨.type T, ?_, ?_⟩
    · have ld : ∀ {a : Addr}, s.TypeIs (.ref a) T → PySem.W.Looks (model X.prog X.w) s.heap (typeOf (.ref a)) (.type T) := fun {a} h => by
        obtain ⟨o, ho, hc⟩ := h
        rw [← hc]
        exact (PySem.W.Looks.ld ho).andThen .now
      have ht := oth_type I ry h
      cases h with
      | non => cases ry; exact .of_pure rfl
      | bl b => obtain rfl : u = .bool b := ry; exact .of_pure rfl
      | int i => obtain ⟨t, rfl⟩ := ry; exact .of_pure rfl
      | str z => obtain ⟨t, rfl⟩ := ry; exact .of_pure rfl
      | tup h => cases ry; exact ld ht
      | lst h => cases ry; exact ld ht
      | dct h => cases ry; exact ld ht
    · unfold PySem.W.notFirst
      rw [oth_sub h]; simp
  · cases ry
    obtain ⟨mB, J', _⟩ := ins_get I.hok hb
    obtain ⟨od', J', _⟩ := J'.look
    exact ⟨_, J'.type, n⟩
/-- what the def's run gives -/
theorem own_run {k : Nat} {sp : DSp} {pins : List (Addr × Obj)} {σ : L2.St} {H : Hp} {s : Shared} {p : Addr} {y : V} {u : Value} {Q : VK} {f : Addr} {fd : FuncData} {ps : List Str} (B : Around) (F : FnOk X.prog X.w X.K X.mg X.base CX0 k f fd ps (liftSp X.K sp)) (hb : Binds X.K fd ps []) (hr : Room k B) (e0 : Env0 X.prog X.w X.K X.mg X.base B X.stack s H) (I : Inv X pins σ H s) (ry : RelV y u)
    (hs : liftSp X.K sp [.ref p, y] H (fun v H' => ∃ b, v = .bl b ∧ Q (.bl b) H') fun _ _ _ => False) (R : Value → Shared → Prop) (hR : ∀ c s', EP X pins σ Q (.bool c) s' → R (.bool c) s') : wpAny (model X.prog X.w) B (call (.ref f) [.ref p, u]) R X.xe s := by
  have hl := F.len _ _ _ _ hs
  have r2 : Vals [V.ref p, y] [Value.ref p, u] := .cons rfl (.cons ry .nil)
  refine wpAny_call (codeAny_mono (F.run B X.stack s H ⟨[.ref p, u], []⟩ [.ref p, u] [.ref p, y] _ _ hr e0 (by
    have := hb s [.ref p, u] I.kIn (by simpa using hl)
    simpa using this) r2 hs) fun r s' hq => ?_)
  cases r with
  | error e => exact pass0' (X := X) (E := fun _ _ _ => False) pins σ H s e s' I hq
  | ok fl =>
    cases fl with
    | ret w =>
      obtain ⟨z, H', I', rz, bb, ez, ex⟩ := I.after hq
      subst ez
      obtain rfl : w = .bool bb := rz
      exact hR bb s' ⟨.bl bb, H', I', rfl, ex⟩
    | next => exact False.elim hq
    | brk => exact False.elim hq
    | cont => exact False.elim hq
def rEqAny (K : PySem.W.Frag) (C : Addr) (sp : DSp) : R2 := fun x y H Q => ∃ (p dx : Addr) (fs : List (Str × V)), x = .ref p ∧ H p = some (.ins C dx fs) ∧ OthA K C H y ∧ liftSp K sp [.ref p, y] H (fun v H' => ∃ b, v = .bl b ∧ Q (.bl b) H') fun _ _ _ => False
theorem op_eqAny {k j : Nat} {C : Addr} {sp : DSp} (c : DEqM X.prog X.w X.K X.mg X.base k C sp) (hr : Room j X.A) (hk : k ≤ j := by decide) : OpR X (compareOp .Eq) (rEqAny X.K C sp) := by
  rintro pins s σ H x y v u Q I rx ry ⟨p, dx, fs, rfl, ha, ho, hs⟩
  obtain ⟨f, fd, ps, F, hse, hf, hb⟩ := c.ex
  cases rx
  show wpAny (model X.prog X.w) X.A (richCompare .Eq (.ref p) u) (EP X pins σ Q) X.xe s
  obtain ⟨mA, J, _⟩ := ins_get I.hok ha
  obtain ⟨od, J, _⟩ := J.look
  obtain ⟨m, hF⟩ := I.fr
  obtain ⟨tb, hl, hn⟩ := othA_look I ry ho
  exact PySem.W.cmp_K (op := .Eq) (tb := tb) (hr.mono hk).units0 hF I.ok.mod.kin J hl hn hse hf (own_run X.A F hb (hr.mono hk) I.env0 I ry hs _ fun c s' h => h)
def rNeAny (K : PySem.W.Frag) (C : Addr) (sp : DSp) : R2 := fun x y H Q => ∃ (p dx : Addr) (fs : List (Str × V)), x = .ref p ∧ H p = some (.ins C dx fs) ∧ OthA K C H y ∧ liftSp K sp [.ref p, y] H (fun v H' => ∃ b, v = .bl b ∧ Q (.bl (!b)) H') fun _ _ _ => False
theorem op_neAny {k j : Nat} {C : Addr} {sp : DSp} (c : DEqM X.prog X.w X.K X.mg X.base k C sp) (N : NeOf X.K C) (hr : Room j X.A) (hk : k + 1 ≤ j := by decide) : OpR X (compareOp .NotEq) (rNeAny X.K C sp) := by
  rintro pins s σ H x y v u Q I rx ry ⟨p, dx, fs, rfl, ha, ho, hs⟩
  obtain ⟨f, fd, ps, F, hse, hf, hb⟩ := c.ex
  cases rx
  show wpAny (model X.prog X.w) X.A (richCompare .NotEq (.ref p) u) (EP X pins σ Q) X.xe s
  obtain ⟨mA, J, _⟩ := ins_get I.hok ha
  obtain ⟨od, J, _⟩ := J.look
  obtain ⟨tb, hl, hn⟩ := othA_look I ry ho
  have hr2 : Room k X.A.in1 := (hr.mono hk).in1
  refine cmp_neO hr2.units0 I.kIn J hl hn N hse hf ?_
  exact own_run (Q := fun v H' => ∃ b, v = .bl b ∧ Q (.bl (!b)) H') X.A.in1 F hb hr2 I.env0.in1 I ry (by
    obtain ⟨F1, ds, M, Q', E', s1, r1, q1, k1, k2⟩ := hs
    exact ⟨F1, ds, M, Q', E', s1, r1, q1, fun F2 d v M1 H1 e1 s2 r2 q2 => by
      obtain ⟨b, e, q⟩ := k1 F2 d v M1 H1 e1 s2 r2 q2
      exact ⟨b, e, b, rfl, q⟩, k2⟩) _ fun c s' ⟨v, H', I', rv, b, ev, q⟩ => by
    subst ev
    obtain rfl : c = b := by
      have : Value.bool c = Value.bool b := rv
      injection this
    exact ⟨c, rfl, .bl (!c), H', I', rfl, q⟩
def rEqRef (K : PySem.W.Frag) (C : Addr) (sp : DSp) : R2 := fun x y H Q => ∃ (q dy : Addr) (gs : List (Str × V)), y = .ref q ∧ H q = some (.ins C dy gs) ∧ (∃ T, Oth K H x T) ∧ liftSp K sp [.ref q, x] H (fun v H' => ∃ b, v = .bl b ∧ Q (.bl b) H') fun _ _ _ => False
theorem op_eqRef {k j : Nat} {C : Addr} {sp : DSp} (c : DEqM X.prog X.w X.K X.mg X.base k C sp) (N : NoB X.K C) (hr : Room j X.A) (hk : k ≤ j := by decide) : OpR X (compareOp .Eq) (rEqRef X.K C sp) := by
  rintro pins s σ H x y v u Q I rx ry ⟨q, dy, gs, rfl, ha, ⟨T, ho⟩, hs⟩
  obtain ⟨f, fd, ps, F, hse, hf, hb⟩ := c.ex
  cases ry
  show wpAny (model X.prog X.w) X.A (richCompare .Eq v (.ref q)) (EP X pins σ Q) X.xe s
  obtain ⟨mA, J, _⟩ := ins_get I.hok ha
  obtain ⟨id, hslot, hdec⟩ := oth_dec N I J.1 rx ho
  obtain ⟨od, J, _⟩ := J.look
  exact refl_K (hr.mono hk).units0 I.kIn J (oth_type I rx ho) (oth_nob N ho) hslot (fun Q' h => hdec _ _ Q' h) hse hf (own_run X.A F hb (hr.mono hk) I.env0 I rx hs _ fun c s' h => h)
/-- the other one, as data -/
def othD (M : Mp) : D → Bool
  | .non => true
  | .bl _ => true
  | .int _ => true
  | .str _ => true
  | .tup _ => true
  | .kt _ => true
  | .lst _ => true
  | .ref p => (match M p with
    | some (.lst _) => true
    | some (.dK _) => true
    | _ => false)
  | _ => false
theorem othD_rp {K : PySem.W.Frag} {F : FZ} {M : Mp} {H : Hp} {d : D} {v : V} (s : SR K F M H) (r : Rp K F d v) (h : othD M d = true) : ∃ T, Oth K H v T := by
  cases r with
  | non => exact ⟨_, .non⟩
  | bl b => exact ⟨_, .bl b⟩
  | int i => exact ⟨_, .int i⟩
  | str x => exact ⟨_, .str x⟩
  | tup a b => exact ⟨_, .tup (s.sqT a)⟩
  | kt a b => exact ⟨_, .tup a.sqT⟩
  | lst a b => exact ⟨_, .lst (SqL.of (s.fz _ _ a))⟩
  | ref p =>
    simp only [othD] at h
    split at h
    · rename_i hm
      obtain ⟨u, h1, h2⟩ := s.mu _ _ hm
      cases h2; exact ⟨_, .lst (SqL.of h1)⟩
    · rename_i hm
      obtain ⟨u, h1, h2⟩ := s.mu _ _ hm
      cases h2; exact ⟨_, .dct h1⟩
    · cases h
  | _ => simp [othD] at h
def dOthA (K : PySem.W.Frag) (C : Addr) (M : Mp) (y : D) : Prop := othD M y = true ∨ ∃ q C2 gs, y = .ref q ∧ M q = some (.ins C2 gs) ∧ PySem.W.notFirst K C (.ref C2) = true
theorem dOthA_rp {K : PySem.W.Frag} {F : FZ} {M : Mp} {H : Hp} {C : Addr} {d : D} {v : V} (s : SR K F M H) (r : Rp K F d v) (h : dOthA K C M d) : OthA K C H v := by
  rcases h with h | ⟨q, C2, gs, rfl, h, n⟩
  · exact .inl (othD_rp s r h)
  · cases r
    obtain ⟨dy, gs', h1, _⟩ := s.ins h
    exact .inr ⟨q, C2, dy, gs', rfl, h1, n⟩
def dEqAny (K : PySem.W.Frag) (C : Addr) (sp : DSp) : DR2 := fun x y M Q => ∃ p fs, x = .ref p ∧ M p = some (.ins C fs) ∧ dOthA K C M y ∧ sp [.ref p, y] M (fun d M1 => ∃ b, d = .bl b ∧ Q (.bl b) M1) DXK.no
def dNeAny (K : PySem.W.Frag) (C : Addr) (sp : DSp) : DR2 := fun x y M Q => ∃ p fs, x = .ref p ∧ M p = some (.ins C fs) ∧ dOthA K C M y ∧ sp [.ref p, y] M (fun d M1 => ∃ b, d = .bl b ∧ Q (.bl (!b)) M1) DXK.no
def dEqRef (C : Addr) (sp : DSp) : DR2 := fun x y M Q => ∃ q gs, y = .ref q ∧ M q = some (.ins C gs) ∧ othD M x = true ∧ sp [.ref q, x] M (fun d M1 => ∃ b, d = .bl b ∧ Q (.bl b) M1) DXK.no
theorem l2_eqAny {C : Addr} {sp : DSp} : L2r X.K F0 (dEqAny X.K C sp) (rEqAny X.K C sp) := by
  intro F M H d e x y Q' Q e0 s r1 r2 q k
  obtain ⟨p, fs, rfl, h1, h2, q⟩ := q
  cases r1
  obtain ⟨dx, fs', a1, _⟩ := s.ins h1
  exact ⟨p, dx, fs', rfl, a1, dOthA_rp s r2 h2, F, _, M, _, DXK.no, s, .cons (.ref _) (.cons r2 .nil), q, fun F1 d v M1 H1 e1 s1 r ⟨b, eb, q1⟩ => by
    subst eb
    cases r
    exact ⟨b, rfl, k F1 _ _ M1 H1 e1 s1 (.bl _) q1⟩, fun c d H1 ⟨_, _, _, _, _, _, z⟩ => z⟩
theorem l2_neAny {C : Addr} {sp : DSp} : L2r X.K F0 (dNeAny X.K C sp) (rNeAny X.K C sp) := by
  intro F M H d e x y Q' Q e0 s r1 r2 q k
  obtain ⟨p, fs, rfl, h1, h2, q⟩ := q
  cases r1
  obtain ⟨dx, fs', a1, _⟩ := s.ins h1
  exact ⟨p, dx, fs', rfl, a1, dOthA_rp s r2 h2, F, _, M, _, DXK.no, s, .cons (.ref _) (.cons r2 .nil), q, fun F1 d v M1 H1 e1 s1 r ⟨b, eb, q1⟩ => by
    subst eb
    cases r
    exact ⟨b, rfl, k F1 _ _ M1 H1 e1 s1 (.bl _) q1⟩, fun c d H1 ⟨_, _, _, _, _, _, z⟩ => z⟩
theorem l2_eqRef {C : Addr} {sp : DSp} : L2r X.K F0 (dEqRef C sp) (rEqRef X.K C sp) := by
  intro F M H d e x y Q' Q e0 s r1 r2 q k
  obtain ⟨p, fs, rfl, h1, h2, q⟩ := q
  cases r2
  obtain ⟨dx, fs', a1, _⟩ := s.ins h1
  exact ⟨p, dx, fs', rfl, a1, othD_rp s r1 h2, F, _, M, _, DXK.no, s, .cons (.ref _) (.cons r1 .nil), q, fun F1 d v M1 H1 e1 s1 r ⟨b, eb, q1⟩ => by
    subst eb
    cases r
    exact ⟨b, rfl, k F1 _ _ M1 H1 e1 s1 (.bl _) q1⟩, fun c d H1 ⟨_, _, _, _, _, _, z⟩ => z⟩
/-- either of two rules -/
def dOr2 (r r' : DR2) : DR2 := fun x y M Q => r x y M Q ∨ r' x y M Q
theorem l2_or2 {r r' : DR2} {t t' : R2} (h : L2r X.K F0 r t) (h' : L2r X.K F0 r' t') : L2r X.K F0 (dOr2 r r') (fun x y H Q => t x y H Q ∨ t' x y H Q) := by
  intro F M H d e x y Q' Q e0 s r1 r2 q k
  rcases q with q | q
  · exact .inl (h F M H d e x y Q' Q e0 s r1 r2 q k)
  · exact .inr (h' F M H d e x y Q' Q e0 s r1 r2 q k)
end
end DL

set_option maxRecDepth 100000
set_option maxHeartbeats 2000000
namespace DL
open PySem PySem.Spec PyProof.Rows L2

/-! ### the things of two own classes, held against anything -/
structure Apart (K : PySem.W.Frag) (C D : Addr) : Prop where
  nc : NoB K C
  nd : NoB K D
  cc : PySem.W.subIn K (.ref C) (.ref C) = some true
  dd : PySem.W.subIn K (.ref D) (.ref D) = some true
  cd : PySem.W.subIn K (.ref C) (.ref D) = some false
  dc : PySem.W.subIn K (.ref D) (.ref C) = some false
theorem notFirst_self {K : PySem.W.Frag} {C : Addr} : PySem.W.notFirst K C (.ref C) = true := by
  unfold PySem.W.notFirst; simp
theorem Apart.fCD {K : PySem.W.Frag} {C D : Addr} (h : Apart K C D) : PySem.W.notFirst K C (.ref D) = true := by
  unfold PySem.W.notFirst; rw [h.dc]; simp
theorem Apart.fDC {K : PySem.W.Frag} {C D : Addr} (h : Apart K C D) : PySem.W.notFirst K D (.ref C) = true := by
  unfold PySem.W.notFirst; rw [h.cd]; simp
theorem Apart.kCD {K : PySem.W.Frag} {C D : Addr} (h : Apart K C D) (i : IsC K D) : PySem.W.kitOne K (.ref C) (.ref D) = some false := kit_other i h.cc h.cd
theorem Apart.kDC {K : PySem.W.Frag} {C D : Addr} (h : Apart K C D) (i : IsC K C) : PySem.W.kitOne K (.ref D) (.ref C) = some false := kit_other i h.dd h.dc
section
variable {X : Cx} {F0 : FZ} {a b : Expr} {ta tb : TE} {ta' tb' : DTE} {pos : Pos} {k1 k2 j : Nat} {C D : Addr} {sp1 sp2 : DSp}
abbrev dEqA2 (K : PySem.W.Frag) (C : Addr) (sp1 : DSp) (D : Addr) (sp2 : DSp) : DR2 := dOr2 (dEqAny K C sp1) (dEqAny K D sp2)
abbrev dNeA2 (K : PySem.W.Frag) (C : Addr) (sp1 : DSp) (D : Addr) (sp2 : DSp) : DR2 := dOr2 (dNeAny K C sp1) (dNeAny K D sp2)
abbrev dEqR2 (C : Addr) (sp1 : DSp) (D : Addr) (sp2 : DSp) : DR2 := dOr2 (dEqRef C sp1) (dEqRef D sp2)
theorem de_eqA2 (c1 : DEqM X.prog X.w X.K X.mg X.base k1 C sp1) (c2 : DEqM X.prog X.w X.K X.mg X.base k2 D sp2) (hr : Room j X.A) (ha : DE X F0 a ta ta') (hb : DE X F0 b tb tb') (h1 : k1 ≤ j := by decide) (h2 : k2 ≤ j := by decide) : DE X F0 (.Compare a [.Eq] [b] pos) (tOp (fun x y H Q => rEqAny X.K C sp1 x y H Q ∨ rEqAny X.K D sp2 x y H Q) ta tb) (dOp (dEqA2 X.K C sp1 D sp2) ta' tb') := de_cmp (OpR.or (op_eqAny c1 hr h1) (op_eqAny c2 hr h2)) (l2_or2 l2_eqAny l2_eqAny) ha hb (nomark _)
theorem dt_eqA2 (c1 : DEqM X.prog X.w X.K X.mg X.base k1 C sp1) (c2 : DEqM X.prog X.w X.K X.mg X.base k2 D sp2) (hr : Room j X.A) (ha : DE X F0 a ta ta') (hb : DE X F0 b tb tb') (h1 : k1 ≤ j := by decide) (h2 : k2 ≤ j := by decide) : DT X F0 (.Compare a [.Eq] [b] pos) (tTest (tOp (fun x y H Q => rEqAny X.K C sp1 x y H Q ∨ rEqAny X.K D sp2 x y H Q) ta tb)) (dTest (dOp (dEqA2 X.K C sp1 D sp2) ta' tb')) := dt_cmp (OpR.or (op_eqAny c1 hr h1) (op_eqAny c2 hr h2)) (l2_or2 l2_eqAny l2_eqAny) ha hb (nomark _)
theorem de_neA2 (c1 : DEqM X.prog X.w X.K X.mg X.base k1 C sp1) (c2 : DEqM X.prog X.w X.K X.mg X.base k2 D sp2) (n1 : NeOf X.K C) (n2 : NeOf X.K D) (hr : Room j X.A) (ha : DE X F0 a ta ta') (hb : DE X F0 b tb tb') (h1 : k1 + 1 ≤ j := by decide) (h2 : k2 + 1 ≤ j := by decide) : DE X F0 (.Compare a [.NotEq] [b] pos) (tOp (fun x y H Q => rNeAny X.K C sp1 x y H Q ∨ rNeAny X.K D sp2 x y H Q) ta tb) (dOp (dNeA2 X.K C sp1 D sp2) ta' tb') := de_cmp (OpR.or (op_neAny c1 n1 hr h1) (op_neAny c2 n2 hr h2)) (l2_or2 l2_neAny l2_neAny) ha hb (nomark _)
theorem dt_neA2 (c1 : DEqM X.prog X.w X.K X.mg X.base k1 C sp1) (c2 : DEqM X.prog X.w X.K X.mg X.base k2 D sp2) (n1 : NeOf X.K C) (n2 : NeOf X.K D) (hr : Room j X.A) (ha : DE X F0 a ta ta') (hb : DE X F0 b tb tb') (h1 : k1 + 1 ≤ j := by decide) (h2 : k2 + 1 ≤ j := by decide) : DT X F0 (.Compare a [.NotEq] [b] pos) (tTest (tOp (fun x y H Q => rNeAny X.K C sp1 x y H Q ∨ rNeAny X.K D sp2 x y H Q) ta tb)) (dTest (dOp (dNeA2 X.K C sp1 D sp2) ta' tb')) := dt_cmp (OpR.or (op_neAny c1 n1 hr h1) (op_neAny c2 n2 hr h2)) (l2_or2 l2_neAny l2_neAny) ha hb (nomark _)
theorem de_eqR2 (c1 : DEqM X.prog X.w X.K X.mg X.base k1 C sp1) (c2 : DEqM X.prog X.w X.K X.mg X.base k2 D sp2) (AP : Apart X.K C D) (hr : Room j X.A) (ha : DE X F0 a ta ta') (hb : DE X F0 b tb tb') (h1 : k1 ≤ j := by decide) (h2 : k2 ≤ j := by decide) : DE X F0 (.Compare a [.Eq] [b] pos) (tOp (fun x y H Q => rEqRef X.K C sp1 x y H Q ∨ rEqRef X.K D sp2 x y H Q) ta tb) (dOp (dEqR2 C sp1 D sp2) ta' tb') := de_cmp (OpR.or (op_eqRef c1 AP.nc hr h1) (op_eqRef c2 AP.nd hr h2)) (l2_or2 l2_eqRef l2_eqRef) ha hb (nomark _)
theorem dt_eqR2 (c1 : DEqM X.prog X.w X.K X.mg X.base k1 C sp1) (c2 : DEqM X.prog X.w X.K X.mg X.base k2 D sp2) (AP : Apart X.K C D) (hr : Room j X.A) (ha : DE X F0 a ta ta') (hb : DE X F0 b tb tb') (h1 : k1 ≤ j := by decide) (h2 : k2 ≤ j := by decide) : DT X F0 (.Compare a [.Eq] [b] pos) (tTest (tOp (fun x y H Q => rEqRef X.K C sp1 x y H Q ∨ rEqRef X.K D sp2 x y H Q) ta tb)) (dTest (dOp (dEqR2 C sp1 D sp2) ta' tb')) := dt_cmp (OpR.or (op_eqRef c1 AP.nc hr h1) (op_eqRef c2 AP.nd hr h2)) (l2_or2 l2_eqRef l2_eqRef) ha hb (nomark _)
end
end DL

set_option maxRecDepth 100000
set_option maxHeartbeats 2000000
namespace DL
open PySem PySem.Spec PyProof.Rows L2

/-! ### an error's __init__: super().__init__("..") and one field -/
/-- the context of such a body -/
def cxEi (CX : CXT) (P : Program) (w : World) (K : PySem.W.Frag) (mg : Str → Option Value) (base : Heap) (N : List Str) (qual : Str) (scope : Scope) (f : Addr) (cd : Value) (cc : Addr) (A : Around) (outer : List Env) (s : Shared) (H : Hp) (E : XK) : Cx where
  prog := P
  w := w
  K := K
  mg := mg
  base := base
  A := A.deeper (PySem.W.ksEnv qual scope s.heap.objs.size f cd cc)
  N := N
  s_0 := s
  H_0 := H
  env := PySem.W.ksEnv qual scope s.heap.objs.size f cd cc
  outer := outer
  stack := PySem.W.ksEnv qual scope s.heap.objs.size f cd cc :: outer
  ex := []
  calm := true
  fn := fun _ => false
  pn := []
  xe := fun e s' => wpAny (model P w) (A.deeper (PySem.W.ksEnv qual scope s.heap.objs.size f cd cc)) (leaving (PySem.W.ksEnv qual scope s.heap.objs.size f cd cc) e) (fun _ s'' => CX outer H s E e s'') (fun e' s'' => CX outer H s E e' s'') s'
/-- what an error's class and its __init__ must be -/
structure EiC (P : Program) (K : PySem.W.Frag) (mg : Str → Option Value) (f C cda cc : Addr) (qual : Str) (fd : FuncData) (fld pn : Str) : Prop where
  ex : ∃ (z : Str) (params : Arguments) (body : List Stmt) (scope : Scope) (dV kV doc pm ct oc ccl cl : Value) (an od cdd cld : Option Addr) (osl ccs csl : Array (Option Value)) (vs : Array Value) (file : Str) (tf : Tok) (ar : Arg) (nk : Nat) (p0 p1 p2 p3 p4 p5 p6 p7 p8 p9 : Pos),
    fd = PySem.W.ksFn "__init__" qual params body scope dV kV doc pm an (.ref cda) ct cc ∧ K.lookup f = some ⟨oc, od, .func fd, osl⟩ ∧ K.lookup cda = some ⟨ccl, cdd, .fields vs, ccs⟩ ∧ vs[2]? = some (.str file tf) ∧ ((P.main.file : Str) == file) = true ∧
    K.lookup cc = some ⟨cl, cld, .cell (some (.ref C)), csl⟩ ∧
    body = [.Expr (.Call (.Attribute (.Call (.Name "super" p0) [] [] p1) "__init__" p2) [.Constant (.str z) nk p3] [] p4) p5, .Assign [.Attribute (.Name "self" p6) fld p7] (.Name pn p8) p9] ∧ z.length ≤ 1000 ∧
    (params.posonlyargs ++ params.args).head? = some ar ∧ ar.arg = ("self" : Str) ∧ scope.kind = .function ∧ scope.isCoroutine = false ∧ scope.isGenerator = false ∧ (∀ x ∈ scope.names, x.2 ≠ .cell) ∧ (∀ x ∈ scope.names, x.2 = .free → x.1 = ("__class__" : Str)) ∧
    scope.names.lookup ("self" : Str) = some .local ∧ scope.names.lookup pn = some .local ∧ scope.names.lookup ("super" : Str) = some .globalImplicit ∧ scope.names.lookup ("__class__" : Str) = some .free ∧
    (∀ L, ∃ pl : Sem Bool, eval (.Call (.Attribute (.Call (.Name "super" p0) [] [] p1) "__init__" p2) [.Constant (.str z) nk p3] [] p4) (PySem.W.ksEnv qual scope L f (.ref cda) cc) = (do
      let ov ← attributeBase (.Call (.Name "super" p0) [] [] p1) "__init__" (PySem.W.ksEnv qual scope L f (.ref cda) cc) (eval (.Call (.Name "super" p0) [] [] p1) (PySem.W.ksEnv qual scope L f (.ref cda) cc))
      standAt p2.atName
      let (fx, first) ← holding [ov] (getMethod ov "__init__" pl)
      callWith p4 fx first (backTo p4 (starEach [.Constant (.str z) nk p3] (PySem.W.ksEnv qual scope L f (.ref cda) cc))) [])) ∧
    (∀ L, interactive (PySem.W.ksEnv qual scope L f (.ref cda) cc) = false) ∧
    (∀ L, swapsWith (.Call (.Attribute (.Call (.Name "super" p0) [] [] p1) "__init__" p2) [.Constant (.str z) nk p3] [] p4) none p5.line (PySem.W.ksEnv qual scope L f (.ref cda) cc) = pure false) ∧
    (∀ L, swapsWith (.Name pn p8) (some (.Attribute (.Name "self" p6) fld p7)) p9.line (PySem.W.ksEnv qual scope L f (.ref cda) cc) = pure false) ∧ (pn == ("__debug__" : Str)) = false ∧ (pn == ("__classdict__" : Str)) = false
  cd : PySem.W.codeIn K (.ref cda) qual = true
  sup : PySem.W.ks_superIn K C C "__init__" = some (some (.builtin "ValueError.__init__"))
  ve : PySem.W.subIn K (.ref C) (.type "ValueError") = some true
  mro : PySem.W.mroIn K C (.ref C) = some true
  any : PySem.W.nsIn K cStatics "thirdparty.any" = some none
  mgs : mg "super" = none
  top : (P.main.scope.names.lookup ("super" : Str)).isSome = false
  T : OexC K C
  no : PySem.W.findIn K (.ref C) fld = some none
  ne : pn ≠ ("self" : Str)
def spEi (C : Addr) (fld : Str) : Sp := fun vs H Q _ => ∃ a v, vs = [.ref a, v] ∧ H a = some (exo a C none) ∧ ∀ dx, H dx = none → dx ≠ a → Q .non (upd (upd H dx (exd dx [(fld, v)])) a (exo a C (some dx)))
section
open PySem.W
variable {prog : Program} {w : World} {A : Around} {E : Value → Shared → Prop} {h : Heap} {g : Array GenState} {d : Drawn} {t : Nat} {os : OsState}
variable {nm q : Str} {C N : Addr} {bs bm : List Value} {hdct : Bool} {sn : List Str} {sub : List Value} {ab : Bool} {col : Option Bool} {dd : Option Addr} {k0 k1 k2 k3 k5 : Option Value}
theorem call_kx {u e t0 : Addr} {rest : List Value} {Q : Value → Shared → Prop}
    (hC : h.get? C = some (excClassObj nm q C N bs bm hdct sn sub ab col dd k0 k1 k2 k3 k5 "ValueError.__new__")) (he : h.get? e = some (excObj C t0 none .none)) (hu : h.get? u = some (kxs_mw "ValueError.__init__" e)) (hrest : rest.length ≤ sizeLine)
    (hq : ∀ h' t1, (∀ b o, b ≠ e → h.get? b = some o → h'.get? b = some o) → h'.get? e = some (excObj C t1 none .none) → Q .none ⟨h', g, d, t, os⟩) :
    wpAny (model prog w) A (call (.ref u) rest) Q E ⟨h, g, d, t, os⟩ := by
  refine wpAny_call (codeAny_of_tree ?_)
  show wpAny _ A.in1 (callAny (.ref u) ⟨rest, []⟩) _ _ _
  simp only [callAny]
  refine wpAny_bind (wpAny_load hu ?_)
  simp only [kxs_mw, show (Value.type "method-wrapper" == Value.type "method" || Value.type "method-wrapper" == Value.type "builtin_function_or_method" || Value.type "method-wrapper" == Value.type "method-wrapper") = true by decide, if_true]
  refine KFB.if_so (by decide) ?_
  refine wpAny_bind (check_bound_init F.excBase_ValueError.toExcCallFacts hC he rfl ?_)
  refine wpAny_bind (wpAny_pure (wpAny_pure ?_))
  refine ⟨plainId_quiet F.excBase_ValueError.init.plain _, codeAny_builtin F.excBase_ValueError.initEntry ?_⟩
  exact exc_init_tree (cls := .ref C) (t0 := t0) (dv := none) (c2 := .none) (c3 := .none) (b4 := .bool false) he hrest fun h' k e' _ => hq h' _ k e'
end
section
variable {P : Program} {w : World} {K : PySem.W.Frag} {mg : Str → Option Value} {base : Heap} {CX : CXT} {f C cda cc : Addr} {qual fld pn : Str} {fd : FuncData} {k : Nat}
theorem fn_ei (h : EiC P K mg f C cda cc qual fd fld pn) : FnOk P w K mg base CX (k + 1) f fd ["self", pn] (spEi C fld) := by
  obtain ⟨⟨z, params, body, scope, dV, kV, doc, pm, ct, oc, ccl, cl, an, od, cdd, cld, osl, ccs, csl, vs, file, tf, ar, nk, p0, p1, p2, p3, p4, p5, p6, p7, p8, p9, rfl, lk, hcode, hvs, hfile, hcell, hbody, hz, hp, har, hk, hco, hgen, hncell, hfree, ks1, ks2, ks3, ks4, hev, hin, hsw, hsw2, hd1, hd2⟩, hcd, hsup, hve, hmro, hany, hmgs, htop, T, hno, hne⟩ := h
  refine ⟨fun vs H Q E h => ?_, fun A outer s H args us vs2 Q E hr e0 hb r hsp => ?_⟩
  · obtain ⟨a, v, rfl, _⟩ := h; rfl
  obtain ⟨a, v, rfl, ha, q⟩ := hsp
  have KX : K.In s.heap := e0.mod.kin.keeps fun b o e => (e0.bs b o e).1
  have lim : s.heap.NoLimit := e0.mod.nolimit.keeps fun b o e => (e0.bs b o e).1
  obtain ⟨ua, uv, rfl, ra, rv⟩ : ∃ ua uv, us = [ua, uv] ∧ RelV (V.ref a) ua ∧ RelV v uv := by
    cases r with
    | cons r1 r2 =>
      cases r2 with
      | cons r2 r3 => cases r3; exact ⟨_, _, rfl, r1, r2⟩
  obtain rfl : ua = Value.ref a := ra
  refine PySem.ks_codeAny_call_defAt (binds := [("self", .ref a), (pn, uv)]) hr.depth (KX _ _ lk) rfl lim (PySem.W.codeRec_of KX hcd) rfl hb hncell (fun x hx => ?_) (fun h₀ hns kk => ?_) hco hgen hk
  · rcases List.mem_cons.mp hx with rfl | hx
    · exact ks1
    · rw [List.mem_singleton.mp hx]; exact ks2
  have ecall : callEnv (PySem.W.ksFn "__init__" qual params body scope dV kV doc pm an (.ref cda) ct cc) s.heap.objs.size f = PySem.W.ksEnv qual scope s.heap.objs.size f (.ref cda) cc := rfl
  rw [ecall]
  subst hbody
  have KH : K.In h₀ := KX.keeps kk
  generalize hs1 : ({ s with heap := h₀, toks := s.toks + ([("self", Value.ref a), (pn, uv)] : List (Str × Value)).length } : Shared) = s1
  have hh1 : s1.heap = h₀ := by rw [← hs1]
  have I : Inv (cxEi CX P w K mg base ["self", pn] qual scope f (.ref cda) cc A outer s H E) [] [some (.ref a), some v] H s1 := by
    rw [← hs1]
    have lk1 : ∀ x c, ([(("__class__" : Str), cc)] : List (Str × Addr)).lookup x = some c → x = "__class__" ∧ c = cc := fun x c h => by
      have h2 := PySem.mem_of_lookup h
      have h3 := List.mem_singleton.mp h2
      exact ⟨congrArg Prod.fst h3, congrArg Prod.snd h3⟩
    refine ⟨⟨e0.mod, hk, rfl, rfl, Nat.le_refl _, fun x y c h1 h2 => (lk1 x c h1).1.trans (lk1 y c h2).1.symm, fun x hx => ?_, fun x c h _ => (by cases h), fun _ => hr.hd, Around.frames_deeper e0.frames, .inr ⟨rfl, rfl⟩, fun b z => absurd (show b ∈ ([] : List Addr) from z) (by simp), e0.bs, e0.bsz, fun b _ _ z => absurd (show b ∈ ([] : List Addr) from z) (by simp), fun b z => absurd (show b ∈ ([] : List Addr) from z) (by simp), e0.funs, e0.frf⟩,
      rfl, e0.bare, Un.kept kk, ⟨_, hns, fun i x v' h1 h2 h3 => ?_⟩, fun x c h => ?_, e0.hok.fresh (Nat.le_refl _), fun x c h => ?_, fun p hp => absurd (show p ∈ ([] : List (Addr × Obj)) from hp) (by simp), e0.hok.kept kk, rfl⟩
    · have e : x = "__class__" := by
        rcases hx with hx | hx
        · exact absurd rfl (hncell _ (PySem.mem_of_lookup hx))
        · exact hfree _ (PySem.mem_of_lookup hx) rfl
      exact ⟨cc, by rw [e]; rfl⟩
    · match i, h1, h2 with
      | 0, h1, h2 =>
        cases h1; cases h2
        exact ⟨_, rfl, .inl ⟨ks1, by show ([(pn, uv), (("self" : Str), Value.ref a)] : List (Str × Value)).lookup ("self" : Str) = _; rw [List.lookup_cons, show (("self" : Str) == pn) = false from beq_eq_false_iff_ne.mpr (Ne.symm hne)]; rfl⟩⟩
      | 1, h1, h2 =>
        cases h1; cases h2
        exact ⟨uv, rv, .inl ⟨ks2, by show ([(pn, uv), (("self" : Str), Value.ref a)] : List (Str × Value)).lookup pn = _; rw [List.lookup_cons, beq_self_eq_true]⟩⟩
      | i + 2, h1, _ => cases h1
    · obtain ⟨_, rfl⟩ := lk1 x c h
      exact ⟨_, _, KH _ _ hcell, rfl⟩
    · obtain ⟨_, rfl⟩ := lk1 x c h
      exact (e0.bs _ _ (e0.mod.kin _ _ hcell)).2
  clear hs1
  have nsL : s1.heap.Ns (PySem.W.ksEnv qual scope s.heap.objs.size f (.ref cda) cc).locals (fun x => ([(("self" : Str), Value.ref a), (pn, uv)] : List (Str × Value)).reverse.lookup x) := by rw [hh1]; exact hns
  have K1 : K.In s1.heap := by rw [hh1]; exact KH
  clear hns KH
  subst hh1
  obtain ⟨t1, hao⟩ := exo_at I.hok ha
  obtain ⟨nmC, qC, NC, bsC, bmC, snC, subC, abC, colC, ddC, k0, k1, k2, k3, k5, hC, hbmC⟩ := T.cls
  have hcl : PySem.W.clsIn K C = some { name := nmC, bases := bsC, mro := .ref C :: bmC, ns := NC, qualname := qC, hasDict := true, slotNames := snC, subclasses := subC, abstract := abC, collection := colC, hasDel := false } := by unfold PySem.W.clsIn; rw [hC] <;> rfl
  have hsupA := hsup
  unfold PySem.W.ks_superIn at hsupA
  rw [hcl] at hsupA
  obtain ⟨mb, hb1, hb2⟩ := I.mod.blt
  have gN : s1.heap.Ns (PySem.W.ksEnv qual scope s.heap.objs.size f (.ref cda) cc).globals mg := I.mod.glob.keeps I.bk
  have bN : s1.heap.Ns (PySem.W.ksEnv qual scope s.heap.objs.size f (.ref cda) cc).builtins mb := hb1.keeps I.bk
  obtain ⟨pl, hev⟩ := hev s.heap.objs.size
  refine PySem.ks_wpAt_execs_cons (PySem.ks_wpAt_Expr_any (hi := hin _) (hs := hsw _) (PySem.ks_wpAt_MethodCall (he := hev) (PySem.ks_wpAt_super_base (env := PySem.W.ksEnv qual scope s.heap.objs.size f (.ref cda) cc) ks3 ks4 rfl rfl (K1 _ _ lk) rfl hp rfl (K1 _ _ hcode) rfl hvs hfile htop ?_)))
  refine PySem.W.ks_loadName_global hk ks3 (Calls.loadGlobal_builtin (env := PySem.W.ksEnv qual scope s.heap.objs.size f (.ref cda) cc) gN hmgs bN ((hb2 "super" (by decide +kernel)).trans (show bootBuiltins "super" = some (.type "super") by first | rfl | kernel_rfl)) ⟨rfl, ?_⟩)
  refine wpAny_loadName_free hk ks4 rfl ⟨_, K1 _ _ hcell, rfl⟩ ?_
  rw [har]
  refine wpAny_loadName_local hk ks1 nsL (v := .ref a) (by show ([(pn, uv), (("self" : Str), Value.ref a)] : List (Str × Value)).lookup ("self" : Str) = _; rw [List.lookup_cons, show (("self" : Str) == pn) = false from beq_eq_false_iff_ne.mpr (Ne.symm hne)]; rfl) ?_
  obtain ⟨hp1, g1, d1, tk1, os1⟩ := s1
  refine PySem.ks_wpAny_isType_cls (K1 _ _ hC) rfl ⟨rfl, ?_⟩
  refine PySem.ks_wpAny_call_super (K1 _ _ hC) rfl hao rfl (fun c e => nomatch e) (PySem.W.looks_mroIn K1 hmro) (fun h2 hso kk2 => ?_)
  have K2 : K.In h2 := K1.keeps kk2
  have I2 : Inv (cxEi CX P w K mg base ["self", pn] qual scope f (.ref cda) cc A outer s H E) [] [some (.ref a), some v] H ⟨h2, g1, d1, tk1 + 1, os1⟩ := I.kept (t' := tk1 + 1) kk2
  have J2 : PySem.W.InstAt h2 a (PySem.W.excObj C t1 none .none) C none := ⟨kk2 _ _ hao, rfl, rfl, trivial⟩
  refine PySem.W.kxs_getMethod PySem.W.kxs_ValueError hso (PySem.W.looks_opaque K2 hany) (l₀ := .ref C :: bmC) (fun A Q E s k q => wpAny_bind ((PySem.W.looks_clsIn K2 hcl) A _ E s k (wpAny_pure q))) rfl K2 hsupA (J2.type.andThen (PySem.W.looks_subIn K2 hve)) (PySem.W.ks_ne K2 J2 hcl) (by decide) ?_
  have kk3 : ∀ b o, h2.get? b = some o → (h2.push (PySem.W.kxs_mw "ValueError.__init__" a)).get? b = some o := fun b o e => Heap.get?_push_of_some _ e
  have hmw : (h2.push (PySem.W.kxs_mw "ValueError.__init__" a)).get? h2.objs.size = some (PySem.W.kxs_mw "ValueError.__init__" a) := Heap.get?_push_at rfl rfl
  have I3 := I2.kept (t' := tk1 + 1 + 1) kk3
  generalize h2.push (PySem.W.kxs_mw "ValueError.__init__" a) = h3 at kk3 hmw I3 ⊢
  have K3 : K.In h3 := K2.keeps kk3
  show wpAny _ _ (callWith p4 (.ref h2.objs.size) [] ((false, eval (.Constant (.str z) nk p3) (PySem.W.ksEnv qual scope s.heap.objs.size f (.ref cda) cc)) :: []) []) _ _ _
  refine PySem.W.kxs_callWith (i := "ValueError.__init__") (x := a) rfl (Calls.evalArgs_plain (Calls.spliced_cons (wpAny_Constant_str (Calls.spliced_nil ⟨hmw, ?_⟩))))
  refine call_kx (K3 _ _ hC) (kk3 _ _ (kk2 _ _ hao)) hmw (by show 1 ≤ sizeLine; decide) fun h4 t2 kk4 hx4 => ?_
  have eu : upd H a (exo a C none) = H := by
    funext b
    by_cases hb : b = a
    · rw [hb, upd_same, ha]
    · rw [upd_ne hb]
  have I4 := I3.write (t' := tk1 + 1 + 1) (x := a) (e := a) (o := exo a C none) (by rw [ha]; exact True.intro) (.inl rfl) kk4 ⟨_, hx4⟩ (exo_ok hx4)
  rw [eu] at I4
  have ps : PSs (cxEi CX P w K mg base ["self", pn] qual scope f (.ref cda) cc A outer s H E) [.Assign [.Attribute (.Name "self" p6) fld p7] (.Name pn p8) p9] (tOst K fld (tVar 0) (tVar 1)) :=
    pss_one (ps_ost (X := cxEi CX P w K mg base ["self", pn] qual scope f (.ref cda) cc A outer s H E) (pe_var (i := 0) rfl (.inl ks1)) (pe_var (i := 1) rfl (.inl ks2) hd1 hd2) (hs := hsw2 _))
  refine PySem.wpAt_of_wpAny (wpAny_mono (ps.run [] _ [some (.ref a), some v] H { nx := fun _ H' => Q .non H', rt := Q } I4 ⟨v, rfl, .ref a, rfl, a, C, rfl, T, hno, .inl ⟨ha, q⟩⟩) (fun fl s' hs => ?_) fun e s' hs => hs)
  cases fl with
  | ret u =>
    obtain ⟨v', σ', H', J, rv, q⟩ := hs
    exact ⟨v', H', J.os, J.bare, J.base, J.hok, rv, q⟩
  | next =>
    obtain ⟨σ', H', J, q⟩ := hs
    exact ⟨V.non, H', J.os, J.bare, J.base, J.hok, rfl, q⟩
  | brk =>
    obtain ⟨_, _, _, q⟩ := hs
    exact False.elim q
  | cont =>
    obtain ⟨_, _, _, q⟩ := hs
    exact False.elim q
end
end DL

set_option maxRecDepth 100000
set_option maxHeartbeats 2000000
namespace DL
open PySem PySem.Spec PyProof.Rows L2

/-! ### raise C(e), C with an __init__ of its own and one field -/
structure EiCls (P : Program) (K : PySem.W.Frag) (mg : Str → Option Value) (x : Str) (C : Addr) (fld : Str) : Prop where
  ex : ∃ f cda cc qual fd pn, EiC P K mg f C cda cc qual fd fld pn ∧ PySem.W.findIn K (.ref C) "__init__" = some (some (.ref f)) ∧ PySem.W.typeIn K (.ref f) = some (.type "function") ∧ Binds K fd ["self", pn] []
  gC : mg x = some (.ref C)
def dRaiseF (C : Addr) (fld : Str) (E : DXG) (t : DTE) : DTS := fun _ γ M => t γ M fun d M1 => E γ (.ref C) (some [(fld, d)]) M1
section
variable {X : Cx} {F0 : FZ} {C : Addr} {x fld : Str} {p pos pos2 : Pos} {e : Expr} {te : TE} {te' : DTE} {j : Nat} {E : DXG}
theorem ds_raiseF (S : EiCls X.prog X.K X.mg x C fld) (hc : X.calm = true) (hr : Room j X.A) (tk : L2.Takes X (lXW X.K F0 E)) (he : DE X F0 e te te') (h2 : 2 ≤ j := by decide) (hg : Gl X x := by rfl) (hdb : (x == ("__debug__" : Str)) = false := by decide)
    (hs : starEach [e] X.env = (false, eval e X.env) :: starEach [] X.env := by rfl) : DS X F0 (.Raise (some (.Call (.Name x p) [e] [] pos)) none pos2) (fun _ σ H => tMkO C (spEi C fld) [] (tCons te tNil) σ H fun cls d H' => lXW X.K F0 E cls d σ H') (dRaiseF C fld E te') := by
  obtain ⟨⟨f, cda, cc, qual, fd, pn, h, hi, ht, hb⟩, gC⟩ := S
  have F1 : FnOk X.prog X.w X.K X.mg X.base CX0 1 f fd ["self", pn] (spEi C fld) := fn_ei (k := 0) h
  have m := pmk_oex (X := X) (x := x) (p := p) (pos := pos) h.T hi ht F1 (hr.mono h2) hb .nil pass0' hg gC (pa_cons he.pe pa_nil hs) hdb hs (by rfl)
  refine ⟨L2.ps_raise hc tk m, fun F γ M σ H D' D e0 s g q er => ?_⟩
  refine he.le F γ M σ H _ _ e0 s g q fun F1 d v M1 H1 e1 s1 r1 q1 => ?_
  refine ⟨by simp, fun a ha => ⟨a, v, rfl, upd_same, fun dx hdx hne => ⟨rfl, dx, [(fld, v)], upd_same, by rw [upd_ne hne, upd_same], by rw [upd_ne hne] at hdx; exact hdx, ?_⟩⟩⟩
  have hdx1 : H1 dx = none := by rw [upd_ne hne] at hdx; exact hdx
  have eH : upd (del (upd (upd (upd H1 a (exo a C none)) dx (exd dx [(fld, v)])) a (exo a C (some dx))) a) dx (.xd [(fld, v)]) = upd H1 dx (.xd [(fld, v)]) := by
    funext b
    by_cases hb : b = dx
    · rw [hb, upd_same, upd_same]
    · rw [upd_ne hb, upd_ne hb]
      by_cases hba : b = a
      · rw [hba, del_same, ha]
      · rw [del_ne hba, upd_ne hba, upd_ne hb, upd_ne hba]
  rw [eH]
  have b1 := e0.tr e1
  exact ⟨⟨F1.f, F0.p, F1.d⟩, γ, M1, some [(fld, d)], ⟨b1.f, rfl⟩, GR.monoS (F := F1) (F' := ⟨F1.f, F0.p, F1.d⟩) Sm.rfl' (g.mono e1), (s1.other hdx1).lessP b1.p, ⟨_, upd_same, .cons ⟨rfl, Rp.monoS (F := F1) (F' := ⟨F1.f, F0.p, F1.d⟩) Sm.rfl' r1⟩ .nil⟩, q1⟩
end
/-! ### C(..), the __init__ raising: within a try, or in a def that raises -/
def tMakeS (C : Addr) (sp : Sp) (E : L2.St → XK) (t : TA) : TE := fun σ H Q => t σ H fun vs H1 => ∀ x dx, H1 x = none → H1 dx = none → dx ≠ x → sp (.ref x :: vs) (upd (upd H1 dx (.own x)) x (.ins C dx [])) (fun v H2 => v = .non ∧ Q (.ref x) H2) (E σ)
section
variable {X : Cx} {CX : CXT} {k j : Nat} {f C : Addr} {fd : FuncData} {ps : List Str} {sp : Sp} {E : XK} {x : Str} {p pos : Pos} {e : Expr} {es : List Expr} {t : TA} {F0 : FZ}
theorem run_makeS {pins : List (Addr × Obj)} {σ : L2.St} {H : Hp} {s : Shared} {Q : VK} {us : List Value} {vs : List V} (M : Mk X.K C f) (F : FnOk X.prog X.w X.K X.mg X.base CX k f fd ps sp) (hr : Room (k + 1) X.A) (hb : Binds X.K fd ps [])
    (hx : PassesAt CX X σ E) (I : Inv X pins σ H s) (r : Vals vs us)
    (h : ∀ x dx, H x = none → H dx = none → dx ≠ x → sp (.ref x :: vs) (upd (upd H dx (.own x)) x (.ins C dx [])) (fun v H2 => v = .non ∧ Q (.ref x) H2) E) :
    wpAny (model X.prog X.w) X.A (call (.ref C) us) (EP X pins σ Q) X.xe s := by
  have hq := h (s.heap.objs.size + 1) s.heap.objs.size (I.hok.fresh (Nat.le_succ _)) (I.hok.fresh (Nat.le_refl _)) (Nat.ne_of_lt (Nat.lt_succ_self _))
  have I2 := Inv.made (C := C) I
  have r2 : Vals (V.ref (s.heap.objs.size + 1) :: vs) (Value.ref (s.heap.objs.size + 1) :: us) := .cons rfl r
  have hl : (Value.ref (s.heap.objs.size + 1) :: us).length = ps.length := by rw [← r2.length]; exact F.len _ _ _ _ hq
  have hb2 := hb _ (Value.ref (s.heap.objs.size + 1) :: us) I2.kIn (by rw [List.append_nil]; exact hl)
  rw [List.append_nil] at hb2
  refine wpAny_call (make_map (f := f) I.kIn M.makes M.init (beq_iff_eq.mp M.fn) (codeAny_mono (F.run _ X.stack _ _ ⟨Value.ref (s.heap.objs.size + 1) :: us, []⟩ _ _ _ E (hr.make C us []) (I2.env0.make C us []) hb2 r2 hq) fun r s' hq' => ?_))
  cases r with
  | error e => exact hx pins _ _ e s' I2 hq'
  | ok fl =>
    cases fl with
    | ret u =>
      obtain ⟨v, H', I3, rv, ev, q3⟩ := I2.after hq'
      subst ev
      exact ⟨rv, ⟨V.ref (s.heap.objs.size + 1), H', I3, rfl, q3⟩⟩
    | next => exact False.elim hq'
    | brk => exact False.elim hq'
    | cont => exact False.elim hq'
def dMakeS (C : Addr) (sp : DSp) (E : DXG) (t : DTA) : DTE := fun γ M Q => t γ M fun ds M1 => ∀ p, M1 p = none → sp (.ref p :: ds) (mset M1 p (.ins C [])) (fun v M2 => v = .non ∧ Q (.ref p) M2) (E γ)
theorem le_makeS {K : PySem.W.Frag} {sp : DSp} {E : DXG} {t' : DTA} (ha : LA K F0 t' t) : LE K F0 (dMakeS C sp E t') (tMakeS C (liftSp K sp) (lXg K F0 E) t) := by
  intro F γ M σ H Q' Q e0 s g q k
  refine ha F γ M σ H _ _ e0 s g q fun F1 ds vs M1 H1 e1 s1 r1 q1 => ?_
  intro x dx hx hdx hne
  have s2 := s1.other (o := .own x) hdx
  have hx2 : (upd H1 dx (.own x)) x = none := by rw [upd_ne (Ne.symm hne)]; exact hx
  have s3 := s2.putN (o := .ins C []) (u := .ins C dx []) hx2 (.ins .nil)
  refine ⟨F1, .ref x :: ds, _, _, E γ, s3, .cons (.ref x) r1, q1 x (s1.freeM hx), fun F2 d v M2 H2 e2 s2 r2 q2 => ?_, fun c d H1 ⟨F2, M2, fs, e2, s2, x2, h⟩ => ?_⟩
  · obtain ⟨rfl, q2⟩ := q2
    cases r2
    exact ⟨rfl, k F2 _ _ M2 H2 (e1.trans e2) s2 (.ref x) q2⟩
  · have b2 := (e0.tr e1).tr e2
    exact ⟨⟨F2.f, F0.p, F2.d⟩, γ, M2, fs, ⟨b2.f, rfl⟩, GR.monoS (F := F2) (F' := ⟨F2.f, F0.p, F2.d⟩) Sm.rfl' (g.mono (e1.trans e2)), s2.lessP b2.p, XR.mono (F := F2) (F' := ⟨F2.f, F0.p, F2.d⟩) Sm.rfl' x2, h⟩
theorem de_makeS {sp : DSp} {E : DXG} {t' : DTA} (c : DMk X.prog X.w X.K X.mg X.base (L2.CX X.prog X.w) k x C sp) (hr : Room j X.A) (tk : L2.Takes X (lXW X.K F0 E)) (ha : DA X F0 (e :: es) t t') (hk : k + 1 ≤ j := by decide) (hg : Gl X x := by rfl)
    (hdb : (x == ("__debug__" : Str)) = false := by decide) (he : starEach (e :: es) X.env = (false, eval e X.env) :: starEach es X.env := by rfl) (hpl : (backTo pos (starEach es X.env)).any (·.1) = false := by rfl) :
    DE X F0 (.Call (.Name x p) (e :: es) [] pos) (tMakeS C (liftSp X.K sp) (lXg X.K F0 E) t) (dMakeS C sp E t') := by
  obtain ⟨f, fd, ps, G, hm, mk, hb⟩ := c.ex
  refine ⟨⟨fun pins s σ H Q I h => ?_⟩, le_makeS ha.le⟩
  refine wpAny_Call_Name_kw (ld_glob I hg hm ?_ hdb)
  refine PySem.W.callWith_K (h₀ := X.base) I.ok.mod.kin mk.kp (thn (ha.pa.run pos pins s σ H _ I h) fun us s1 ⟨vs, H1, I1, r, q⟩ => ⟨I1.kIn, ?_⟩) he hpl
  exact run_makeS mk G (hr.mono hk) hb (passAt tk σ) I1 r q
end

/-! ### several except clauses, named or not -/
abbrev HSpec := Value × Option Nat × (Addr → Value → Option Addr → TS)
def endsAt (D : Ends) : Option Nat → Ends
  | none => D
  | some i => { nx := fun σ' H' => D.nx (σ'.set i none) H', rt := D.rt, bk := fun σ' H' => D.bk (σ'.set i none) H', ct := fun σ' H' => D.ct (σ'.set i none) H' }
def slotAt (σ : L2.St) (a : Addr) : Option Nat → L2.St
  | none => σ
  | some i => σ.set i (some (.ref a))
def wHs (K : PySem.W.Frag) (Wout : WX) (D : Ends) : List HSpec → WX
  | [] => Wout
  | (c, oi, ts) :: r => fun cls d σ H => ∃ b, PySem.W.exmOne K cls c = some b ∧ (b = true → ∀ a, H a = none → ts a cls d (endsAt D oi) (slotAt σ a oi) H) ∧ (b = false → wHs K Wout D r cls d σ H)
def NmOk (X : Cx) : Option Str → Option Nat → Prop
  | none, none => True
  | some n, some i => X.N[i]? = some n ∧ X.env.kindOf n = some .local
  | _, _ => False
inductive HsOk (X : Cx) : List ExceptHandler → List HSpec → Prop
  | nil : HsOk X [] []
  | cons {x : Str} {c : Value} {ts : Addr → Value → Option Addr → TS} {b₀ : Stmt} {suite : List Stmt} {np pos' : Pos} {hds : List ExceptHandler} {l : List HSpec} {nm : Option Str} {oi : Option Nat} (hn : NmOk X nm oi) (hc : Names X x c)
      (hsu : ∀ (a : Addr) (oe : Obj) (cls : Value) (d : Option Addr) (pn : List (Addr × Obj)), Zc cls d oe → (∃ vs, oe.data = .fields vs) → PSs (X.suite a ((a, oe) :: pn)) (b₀ :: suite) (ts a cls d)) (r : HsOk X hds l) :
      HsOk X (.ExceptHandler (some (.Name x np)) nm (b₀ :: suite) pos' :: hds) ((c, oi, ts) :: l)
section
variable {X : Cx} {body : List Stmt} {h₀ : ExceptHandler} {hds : List ExceptHandler} {l : List HSpec} {pos : Pos} {tb : WX → TS} {Wout : WX}
theorem ps_try_hs (hs : X.stack = X.env :: X.outer) (hf : X.env.frame = some X.env.locals) (hN : X.N.Nodup) (tk : L2.Takes X Wout)
    (hb : ∀ (W : WX) (pn : List (Addr × Obj)) (xe : Value → Shared → Prop), L2.Takes (X.tr pn xe) W → PassesOwn (model X.prog X.w) X.A X.env xe → PSs (X.tr pn xe) body (tb W))
    (hh : HsOk X (h₀ :: hds) l) : PS X (.Try body (h₀ :: hds) [] [] pos) (fun D σ H => tb (wHs X.K Wout D l) D σ H) := by
  refine ⟨fun pins s σ H D I h => ?_⟩
  have ok := I.ok
  have hfr : X.A.frames = some (X.env :: X.outer) := by rw [ok.frames, hs]
  have back : ∀ {xe : Value → Shared → Prop} (f : Flow) (s1 : Shared), SP (X.tr (X.pn ++ pins) xe) [] D f s1 → SP X pins D f s1 := fun f s1 hsp => by
    cases f with
    | ret u => obtain ⟨v, σ', H', J', r, q⟩ := hsp; exact ⟨v, σ', H', J'.ofTry ok, r, q⟩
    | next => obtain ⟨σ', H', J', q⟩ := hsp; exact ⟨σ', H', J'.ofTry ok, q⟩
    | brk => obtain ⟨σ', H', J', q⟩ := hsp; exact ⟨σ', H', J'.ofTry ok, q⟩
    | cont => obtain ⟨σ', H', J', q⟩ := hsp; exact ⟨σ', H', J'.ofTry ok, q⟩
  refine wpAny_Try_except ?_
  refine wpAny_mono ((hb (wHs X.K Wout D l) (X.pn ++ pins) (fun e s₁ => wpAny (model X.prog X.w) X.A (noteFrame e X.env) (fun _ s₂ => wpAny (model X.prog X.w) X.A (setFlight e none) (fun _ s₃ =>
    wpAny (model X.prog X.w) X.A (handleBy e X.env (h₀ :: hds)) (SP X pins D) X.xe s₃) X.xe s₂) X.xe s₁) (fun u s' xx => ?_) PassesOwn.looking).run [] s σ H D (I.toTry _) h) (fun f s1 hsp => ?_) (fun e s1 he => he)
  rotate_left
  · have b := back f s1 hsp
    cases f with
    | next => exact wpAny_execs_nil b
    | ret u => exact b
    | brk => exact b
    | cont => exact b
  obtain ⟨a, B, sI, pins', σ', H', cls, d, rfl, J', nb, up, sky, na, os, ag, w⟩ := xx
  have J : Inv X pins σ' H' sI := J'.ofTry ok
  have sky' : Sky B (X.env :: X.outer) a (Zc cls d) X.env.locals s'.heap := by rw [← hs]; exact sky
  show wpAny (model X.prog X.w) X.A (noteFrame (.ref a) X.env) _ _ _
  refine Sky.land Zc.steady hfr hf sky' fun h3 fl3 up3 => ?_
  have J3 : Inv X pins σ' H' { s' with heap := h3 } := J.landed nb fl3.1 (up.trans up3) os ag
  obtain ⟨oe3, vs3, he3, hz3, hd3⟩ := fl3.there
  have nfr : a ∉ frs (X.env :: X.outer) := fun hm => by
    obtain ⟨_, o', e', hnf⟩ := fl3.2.2.1.mem hm
    rw [he3] at e'; cases e'
    exact hnf _ hd3
  have nL : a ≠ X.env.locals := fun z => nfr (List.mem_filterMap.mpr ⟨X.env, List.mem_cons_self, by rw [hf, z]⟩)
  have nF : a ∉ X.fs := fun hm => by
    obtain ⟨e, he, q⟩ := List.mem_filterMap.mp hm
    exact nfr (List.mem_filterMap.mpr ⟨e, List.mem_cons_of_mem _ he, q⟩)
  have S3 := J3.suite he3 hd3 na nL nF
  have LT : PySem.W.Looks (model X.prog X.w) h3 (typeOf (.ref a)) cls := fun A Q E s k q => wpAny_typeOf_ref (k _ _ he3) (by rw [hz3.1]; exact q)
  -- clause by clause
  have go : ∀ {hds' : List ExceptHandler} {l' : List HSpec}, HsOk X hds' l' → wHs X.K Wout D l' cls d σ' H' → wpAny (model X.prog X.w) X.A (handleBy (.ref a) X.env hds') (SP X pins D) X.xe { s' with heap := h3 } := by
    intro hds' l' hk
    induction hk with
    | nil =>
      intro w
      refine wpAny_handleBy_nil ?_
      obtain ⟨_, _, _, oe, vs, T, oT, ts', he, hz, hd, h1, hr⟩ := id fl3
      unfold PySem.passOn
      refine wpAny_bind (wpAny_field he hd h1 ?_)
      rw [if_neg (show ¬ ((Value.ref T == Value.none) = true) from by simp)]
      have fin : wpAny (model X.prog X.w) X.A (setFlight (.ref a) X.env.frame) (fun _ s4 => wpAny (model X.prog X.w) X.A (throw (.ref a) : Sem Flow) (SP X pins D) X.xe s4) X.xe { s' with heap := h3 } := by
        rw [hf]
        refine HandSPX.setFlight_upZ fl3 fun h4 hh4 up4 => wpAny_throw (tk _ _ ?_)
        exact ⟨a, B, sI, pins, σ', H', cls, d, rfl, J, nb, (up.trans up3).trans up4, .inr (.inr (by rw [hs]; exact hh4)), na, os, ag, w⟩
      first
        | exact wpAny_bind (wpAny_pure (wpAny_bind fin))
        | exact wpAny_bind fin
    | @cons x c ts b₀ suite np pos' hds2 l2 nm oi hn hc hsu r ih =>
      intro w
      obtain ⟨b, hb1, hyes, hno⟩ := w
      refine wpAny_handleBy_cons (codeAny_handlers_test ?_) (by intro q; cases q)
      have LM := PySem.W.exm_one (M := model X.prog X.w) (J3.kIn) LT hb1
      have test : ∀ {Q : Value → Shared → Prop} {E : Value → Shared → Prop}, Q c { s' with heap := h3 } → wpAny (model X.prog X.w) (X.A.mark (some (.ref a))) (eval (.Name x np) X.env) Q E { s' with heap := h3 } := fun {Q E} q => by
        obtain ⟨hg, hdbg, hm | ⟨hm, hv, hnn⟩⟩ := hc
        · exact ld_glob (X := X.suite a ((a, oe3) :: (X.pn ++ pins))) S3 hg hm q hdbg
        · exact ld_blt (X := X.suite a ((a, oe3) :: (X.pn ++ pins))) S3 hg hm hv q hnn hdbg
      refine test (LM.here ?_)
      cases b with
      | false => exact ih (hno rfl)
      | true =>
        have q0 := hyes rfl a na
        match nm, oi, hn with
        | none, none, _ =>
          refine codeAny_handlers_suite ?_
          refine HandSPX.lands_againZ fl3 fun h4 fl4 up4 => ?_
          have J4 : Inv X pins σ' H' { s' with heap := h4 } := J.landed nb fl4.1 ((up.trans up3).trans up4) os ag
          obtain ⟨oe4, vs4, he4, hz4, hd4⟩ := fl4.there
          refine wpAny_mono ((hsu a oe4 cls d (X.pn ++ pins) hz4 ⟨_, hd4⟩).run [] _ _ H' _ (J4.suite he4 hd4 na nL nF) q0) (fun f s6 hsp => ?_) (fun _ _ z => False.elim z)
          cases f with
          | ret u => obtain ⟨v6, σ6, H6, S6, r6, q6⟩ := hsp; exact ⟨_, _, _, S6.unsuite ok, r6, q6⟩
          | next => obtain ⟨σ6, H6, S6, q6⟩ := hsp; exact ⟨_, _, S6.unsuite ok, q6⟩
          | brk => obtain ⟨σ6, H6, S6, q6⟩ := hsp; exact ⟨_, _, S6.unsuite ok, q6⟩
          | cont => obtain ⟨σ6, H6, S6, q6⟩ := hsp; exact ⟨_, _, S6.unsuite ok, q6⟩
        | some n, some i, ⟨hi, hln⟩ =>
          refine codeAny_handlers_suite_as ?_
          refine HandSPX.lands_againZ fl3 fun h4 fl4 up4 => ?_
          have J4 : Inv X pins σ' H' { s' with heap := h4 } := J.landed nb fl4.1 ((up.trans up3).trans up4) os ag
          obtain ⟨oe4, vs4, he4, hz4, hd4⟩ := fl4.there
          refine store_ok (X := X.suite a ((a, oe4) :: (X.pn ++ pins))) (v := .ref a) (J4.suite he4 hd4 na nL nF) hN hi (.inl hln) rfl (fun s5 S5 => ?_) (.inr hln)
          refine wpAny_mono ((hsu a oe4 cls d (X.pn ++ pins) hz4 ⟨_, hd4⟩).run [] s5 _ H' _ S5 q0) (fun f s6 hsp => ?_) (fun _ _ z => False.elim z)
          have end_ : ∀ {σ6 : L2.St} {H6 : Hp} {Q : Shared → Prop}, Inv (X.suite a ((a, oe4) :: (X.pn ++ pins))) [] σ6 H6 s6 → (∀ s7, Inv X pins (σ6.set i none) H6 s7 → Q s7) →
              wpAny (model X.prog X.w) X.A (do bindName X.env n .none; unbindBehindTheSuite X.env n pos') (fun _ s7 => Q s7) X.xe s6 := fun {σ6 H6 Q} S6 hq => gone_ok (S6.unsuite ok) hN hi hln hq
          cases f with
          | ret u => obtain ⟨v6, σ6, H6, S6, r6, q6⟩ := hsp; exact end_ S6 fun s7 J7 => ⟨_, _, _, J7, r6, q6⟩
          | next => obtain ⟨σ6, H6, S6, q6⟩ := hsp; exact end_ S6 fun s7 J7 => ⟨_, _, J7, q6⟩
          | brk => obtain ⟨σ6, H6, S6, q6⟩ := hsp; exact end_ S6 fun s7 J7 => ⟨_, _, J7, q6⟩
          | cont => obtain ⟨σ6, H6, S6, q6⟩ := hsp; exact end_ S6 fun s7 J7 => ⟨_, _, J7, q6⟩
  exact go hh w
end
end DL

set_option maxRecDepth 100000
set_option maxHeartbeats 2000000
namespace DL
open PySem PySem.Spec PyProof.Rows L2

/-! ### several except clauses, as data -/
abbrev DHSpec := Value × Option Nat × Bool × (Addr → Addr → Option (List (Str × D)) → DTS)
def endsD (D : DEnds) : Option Nat → DEnds
  | none => D
  | some i => { nx := fun γ' M' => D.nx (γ'.set i none) M', rt := D.rt, bk := fun γ' M' => D.bk (γ'.set i none) M', ct := fun γ' M' => D.ct (γ'.set i none) M' }
def slotD (γ : G) (a : Addr) : Option Nat → G
  | none => γ
  | some i => γ.set i (some (.ref a))
/-- what the clauses wish of an error of the body; nf: the clause knows errors without fields alone -/
def dWHs (K : PySem.W.Frag) (Eout : DXG) (D : DEnds) : List DHSpec → DXG
  | [] => Eout
  | (c, oi, nf, u) :: r => fun γ cls fs M => ∃ Dc b, cls = .ref Dc ∧ ExcC K Dc ∧ PySem.W.exmOne K cls c = some b ∧ (b = true → (nf = true → fs = none) ∧ ∀ a, M a = none → u a Dc fs (endsD D oi) (slotD γ a oi) M) ∧ (b = false → dWHs K Eout D r γ cls fs M)
def dTryHs (K : PySem.W.Frag) (l : List DHSpec) (t' : DXG → DTS) (Eout : DXG) : DTS := fun D γ M => t' (dWHs K Eout D l) D γ M
def FldAt (K : PySem.W.Frag) (F : FZ) : Option (List (Str × D)) → Option Addr → Prop
  | none, none => True
  | some l, some dd => ∃ gs, F.p dd = some (.xd gs) ∧ KVR K F l gs
  | _, _ => False
def tsOf (K : PySem.W.Frag) (nf : Bool) (u : Addr → Addr → Option (List (Str × D)) → DTS) : Addr → Value → Option Addr → TS := fun a cls d D σ H => ∃ Dc F1 fs, cls = .ref Dc ∧ ExcC K Dc ∧ (nf = true → fs = none) ∧ FldAt K F1 fs d ∧ lfS K F1 (u a Dc fs) D σ H
def hsOf (K : PySem.W.Frag) (l : List DHSpec) : List HSpec := l.map fun z => (z.1, z.2.1, tsOf K z.2.2.1 z.2.2.2)
inductive DHs (X : Cx) : List ExceptHandler → List DHSpec → Prop
  | nil : DHs X [] []
  | cons {x : Str} {c : Value} {u : Addr → Addr → Option (List (Str × D)) → DTS} {b₀ : Stmt} {suite : List Stmt} {np pos' : Pos} {hds : List ExceptHandler} {l : List DHSpec} {nm : Option Str} {oi : Option Nat} {nf : Bool} (hn : NmOk X nm oi) (hc : Names X x c)
      (hsu : ∀ (F1 : FZ) (a Dc : Addr) (fs : Option (List (Str × D))) (d : Option Addr) (oe : Obj) (pn : List (Addr × Obj)), ExcC X.K Dc → Zc (.ref Dc) d oe → (∃ vs, oe.data = .fields vs) → (nf = true → fs = none) → FldAt X.K F1 fs d → ∃ t, DB (X.suite a ((a, oe) :: pn)) F1 (b₀ :: suite) t (u a Dc fs))
      (r : DHs X hds l) : DHs X (.ExceptHandler (some (.Name x np)) nm (b₀ :: suite) pos' :: hds) ((c, oi, nf, u) :: l)
theorem DHs.ok {X : Cx} : ∀ {hds : List ExceptHandler} {l : List DHSpec}, DHs X hds l → HsOk X hds (hsOf X.K l)
  | _, _, .nil => .nil
  | _, _, .cons (u := u) (nf := nf) hn hc hsu r => .cons hn hc (fun a oe cls d pn hz hfl => ⟨fun pins s σ H D I q => by
      obtain ⟨Dc, F1, fs, rfl, hx, hnf, hfa, q⟩ := q
      obtain ⟨t, h⟩ := hsu F1 a Dc fs d oe pn hx hz hfl hnf hfa
      exact (lfS_pss h).run pins s σ H D I q⟩) r.ok
theorem SR.noX {K : PySem.W.Frag} {F : FZ} {M : Mp} {H : Hp} (s : SR K F M H) {p : Addr} {gs : List (Str × V)} (h : H p = some (.xd gs)) : F.f p = none ∧ M p = none ∧ F.d p = none := by
  refine ⟨?_, ?_, ?_⟩
  · cases e : F.f p with
    | none => rfl
    | some o =>
      have e2 := s.fz _ _ e
      rw [h] at e2; cases e2
      exact (s.ok _ _ e).elim
  · cases e : M p with
    | none => rfl
    | some o =>
      obtain ⟨u, h1, h2⟩ := s.mu _ _ e
      rw [h] at h1; cases h1
      cases h2
  · cases e : F.d p with
    | none => rfl
    | some u =>
      have r := s.dz _ _ e
      have dc := (s.df _ _ e).2.2
      rcases r with r | ⟨o, r⟩
      · rw [h] at r; cases r
        exact dc.elim
      · rw [h] at r; cases r
theorem er_hide {K : PySem.W.Frag} {F : FZ} {M : Mp} {H : Hp} {D' : DEnds} {D : Ends} {dd : Addr} {gs : List (Str × V)} (s : SR K F M H) (h : H dd = some (.xd gs)) (er : ER K F D' D) : ER K (F.hide dd (.xd gs)) D' D := by
  have sm : Same F.p (upd F.p dd (.xd gs)) := fun b o e => by
    by_cases hb : b = dd
    · subst hb
      have e2 := s.pz _ _ e
      rw [h] at e2; cases e2
      exact upd_same
    · rw [upd_ne hb]; exact e
  have low : ∀ {F2 : FZ}, FLe (F.hide dd (.xd gs)) F2 → FLe F ⟨F2.f, F.p, F2.d⟩ := fun e => ⟨e.s, rfl⟩
  have sp : ∀ {F2 : FZ}, FLe (F.hide dd (.xd gs)) F2 → Same F.p F2.p := fun e => by rw [e.e]; exact sm
  refine ⟨fun F2 γ M2 σ H2 e s2 g q => ?_, fun F2 d v M2 H2 e s2 r q => ?_, fun F2 γ M2 σ H2 e s2 g q => ?_, fun F2 γ M2 σ H2 e s2 g q => ?_⟩
  · exact er.nx ⟨F2.f, F.p, F2.d⟩ γ M2 σ H2 (low e) (s2.lessP (sp e)) (GR.monoS (F := F2) (F' := ⟨F2.f, F.p, F2.d⟩) Sm.rfl' g) q
  · exact er.rt ⟨F2.f, F.p, F2.d⟩ d v M2 H2 (low e) (s2.lessP (sp e)) (Rp.monoS (F := F2) (F' := ⟨F2.f, F.p, F2.d⟩) Sm.rfl' r) q
  · exact er.bk ⟨F2.f, F.p, F2.d⟩ γ M2 σ H2 (low e) (s2.lessP (sp e)) (GR.monoS (F := F2) (F' := ⟨F2.f, F.p, F2.d⟩) Sm.rfl' g) q
  · exact er.ct ⟨F2.f, F.p, F2.d⟩ γ M2 σ H2 (low e) (s2.lessP (sp e)) (GR.monoS (F := F2) (F' := ⟨F2.f, F.p, F2.d⟩) Sm.rfl' g) q
theorem er_ends {K : PySem.W.Frag} {F : FZ} {D' : DEnds} {D : Ends} (er : ER K F D' D) : ∀ oi, ER K F (endsD D' oi) (endsAt D oi)
  | none => er
  | some i => ⟨fun F2 γ M σ H e s g q => er.nx F2 _ M _ H e s (g.setN i) q, fun F2 d v M H e => er.rt F2 d v M H e, fun F2 γ M σ H e s g q => er.bk F2 _ M _ H e s (g.setN i) q, fun F2 γ M σ H e s g q => er.ct F2 _ M _ H e s (g.setN i) q⟩
theorem gr_slot {K : PySem.W.Frag} {F : FZ} {γ : G} {σ : L2.St} (g : GR K F γ σ) (a : Addr) : ∀ oi, GR K F (slotD γ a oi) (slotAt σ a oi)
  | none => g
  | some i => g.set (.ref a) i
section
variable {X : Cx} {F0 : FZ} {body : List Stmt} {h₀ : ExceptHandler} {hds : List ExceptHandler} {l : List DHSpec} {pos : Pos} {t' : DXG → DTS} {Eout : DXG}
theorem le_hs {K : PySem.W.Frag} {D' : DEnds} {Dn : Ends} {F : FZ} (e0 : Bs F0 F) (er : ER K F D' Dn) {cls : Value} {d : Option Addr} {σ1 : L2.St} {H1 : Hp} {F1 : FZ} {γ1 : G} {M1 : Mp} {fs : Option (List (Str × D))} (e1 : FLe F F1) (g1 : GR K F1 γ1 σ1) (s1 : SR K F1 M1 H1) (x1 : XR K F1 fs d H1) :
    ∀ (l : List DHSpec), dWHs K Eout D' l γ1 cls fs M1 → wHs K (lXW K F0 Eout) Dn (hsOf K l) cls d σ1 H1
  | [], h => by
    have b1 := e0.tr e1
    exact ⟨⟨F1.f, F0.p, F1.d⟩, γ1, M1, fs, ⟨b1.f, rfl⟩, GR.monoS (F := F1) (F' := ⟨F1.f, F0.p, F1.d⟩) Sm.rfl' g1, s1.lessP b1.p, XR.mono (F := F1) (F' := ⟨F1.f, F0.p, F1.d⟩) Sm.rfl' x1, h⟩
  | (c, oi, nf, u) :: r, h => by
    obtain ⟨Dc, b, rfl, hx, hb1, hyes, hno⟩ := h
    refine ⟨b, hb1, fun hbt a ha => ?_, fun hbf => le_hs e0 er e1 g1 s1 x1 r (hno hbf)⟩
    obtain ⟨hnf, q⟩ := hyes hbt
    have q := q a (s1.freeM ha)
    have er1 := er_ends (er.mono e1) oi
    match fs, d, x1 with
    | none, none, _ => exact ⟨Dc, F1, none, rfl, hx, hnf, trivial, F1, _, M1, _, Bs.refl F1, s1, gr_slot g1 a oi, q, er1⟩
    | some ls, some dd, ⟨gs, h1, h2⟩ =>
      obtain ⟨n1, n2, n3⟩ := s1.noX h1
      refine ⟨Dc, F1.hide dd (.xd gs), some ls, rfl, hx, hnf, ⟨gs, upd_same, h2.monoS (F := F1) (F' := F1.hide dd (.xd gs)) Sm.rfl'⟩, F1.hide dd (.xd gs), _, M1, _, Bs.refl _, s1.hide n1 n2 h1 (fun _ z => by cases z) (fun u e => by rw [n3] at e; cases e), GR.monoS (F := F1) (F' := F1.hide dd (.xd gs)) Sm.rfl' (gr_slot g1 a oi), q, er_hide s1 h1 er1⟩
theorem ds_tryHs (hN : X.N.Nodup) (tk : L2.Takes X (lXW X.K F0 Eout))
    (hb : ∀ (F1 : FZ) (E : DXG) (pn : List (Addr × Obj)) (xe : Value → Shared → Prop), L2.Takes (X.tr pn xe) (lXW X.K F1 E) → ∃ t, DB (X.tr pn xe) F1 body t (t' E))
    (hh : DHs X (h₀ :: hds) l) (hs : X.stack = X.env :: X.outer := by rfl) (hf : X.env.frame = some X.env.locals := by rfl) :
    DS X F0 (.Try body (h₀ :: hds) [] [] pos) (fun D σ H => (fun W D σ H => ∃ (F1 : FZ) (E : DXG), (∀ c d σ H, lXW X.K F1 E c d σ H → W c d σ H) ∧ lfS X.K F1 (t' E) D σ H) (wHs X.K (lXW X.K F0 Eout) D (hsOf X.K l)) D σ H) (dTryHs X.K l t' Eout) := by
  refine ⟨ps_try_hs (tb := fun W D σ H => ∃ (F1 : FZ) (E : DXG), (∀ c d σ H, lXW X.K F1 E c d σ H → W c d σ H) ∧ lfS X.K F1 (t' E) D σ H) hs hf hN tk (fun W pn xe tkW _ => ⟨fun pins s σ H D I q => ?_⟩) hh.ok, fun F γ M σ H D' D e0 s g q er => ?_⟩
  · obtain ⟨F1, E, hE, q⟩ := q
    obtain ⟨t, d⟩ := hb F1 E pn xe (tkW.imp hE)
    exact (lfS_pss d).run pins s σ H D I q
  · refine ⟨F, dWHs X.K Eout D' l, fun cls d σ1 H1 w => ?_, F, γ, M, D', Bs.refl F, s, g, q, er⟩
    obtain ⟨F1, γ1, M1, fs, e1, g1, s1, x1, h⟩ := w
    exact le_hs e0 er e1 g1 s1 x1 l h
/-- e.f, e the error that the suite holds -/
def dXf (K : PySem.W.Frag) (a Dc : Addr) (fs : Option (List (Str × D))) (n : Str) (te : DTE) : DTE := fun γ M Q => te γ M fun x M1 => x = .ref a ∧ PySem.W.findIn K (.ref Dc) n = some none ∧ ∃ l v, fs = some l ∧ l.lookup n = some v ∧ Q v M1
def tXfA (K : PySem.W.Frag) (a Dc : Addr) (d : Option Addr) (n : Str) (te : TE) : TE := fun σ H Q => te σ H fun x H1 => PySem.W.findIn K (.ref Dc) n = some none ∧ x = .ref a ∧ ∃ (dd : Addr) (fs : List (Str × V)) (v : V), d = some dd ∧ H1 dd = some (.xd fs) ∧ fs.lookup n = some v ∧ Q v H1
theorem kvr_look {K : PySem.W.Frag} {F : FZ} {n : Str} {v : D} : ∀ {l : List (Str × D)} {gs : List (Str × V)}, KVR K F l gs → l.lookup n = some v → ∃ w, gs.lookup n = some w ∧ Rp K F v w
  | _, _, .nil, h => by cases h
  | (k, d) :: l, (k', w) :: gs, .cons ⟨e, r⟩ t, h => by
    simp only at e r
    subst e
    rw [List.lookup_cons] at h ⊢
    split at h
    · cases h; exact ⟨w, rfl, r⟩
    · exact kvr_look t h
theorem de_xf {a Dc : Addr} {fs : Option (List (Str × D))} {d : Option Addr} {oe : Obj} {pn : List (Addr × Obj)} {e : Expr} {te : TE} {te' : DTE} {n : Str} (hx : ExcC X.K Dc) (hz : Zc (.ref Dc) d oe) (hf : ∃ vs, oe.data = .fields vs) (fa : FldAt X.K F0 fs d) (he : DE (X.suite a ((a, oe) :: pn)) F0 e te te')
    (hb : attributeBase e n X.env (eval e X.env) = eval e X.env := by rfl) : DE (X.suite a ((a, oe) :: pn)) F0 (.Attribute e n pos) (tXfA X.K a Dc d n te) (dXf X.K a Dc fs n te') := by
  refine ⟨⟨fun pins s σ H Q I h => ?_⟩, fun F γ M σ H Q' Q e0 s g q k => ?_⟩
  · refine attr_of hb (thn (he.pe.run pins s σ H _ I h) fun u s1 hh => ?_)
    obtain ⟨x, H1, I1, rx, hno, ex, dd, gs, v, ed, ea, l, q⟩ := hh
    subst ex
    obtain rfl : u = Value.ref a := rx
    subst ed
    obtain ⟨ha, _⟩ := I1.pin (a, oe) (List.mem_append_left _ List.mem_cons_self)
    obtain ⟨vs, hd⟩ := hf
    obtain ⟨mA, hns, hr⟩ := (show ObjOk X.prog X.w H1 s1.heap dd (.xd gs) from I1.hok dd _ ea)
    obtain ⟨od, ho, hl⟩ := lookIn_ns hns
    obtain ⟨u, hu, ru⟩ := RelO.some_of (v := v) (o := mA n) (by rw [← l]; exact hr n)
    have J : PySem.W.InstAt s1.heap a oe Dc (some od) := ⟨ha, hz.1, by unfold PySem.W.notCls; rw [hd] <;> rfl, by rw [hz.2]; exact ho⟩
    exact HandSPX.exc_get I1.kIn J hx.hg hx.hk hx.hs (PySem.W.findObj_own hx.hd hno rfl (by rw [hl, hu])) (handed_of ru) ⟨v, H1, I1.tok _, ru, q⟩
  · refine he.le F γ M σ H _ _ e0 s g q fun F1 x v M1 H1 e1 s1 r1 q1 => ?_
    obtain ⟨rfl, hno, l, w, rfl, hl, q1⟩ := q1
    cases r1
    match d, fa with
    | some dd, ⟨gs, h1, h2⟩ =>
      obtain ⟨w', hw, rw'⟩ := kvr_look h2 hl
      have b1 := e0.tr e1
      refine ⟨hno, rfl, dd, gs, w', rfl, s1.pz _ _ (b1.p _ _ h1), hw, k F1 _ _ M1 H1 e1 s1 (rw'.monoS b1.f) q1⟩
end
end DL

set_option maxRecDepth 100000
set_option maxHeartbeats 2000000
namespace DL
open PySem PySem.Spec PyProof.Rows L2

/-! ### a raising __init__; how an error's class is read off the written part -/
section
variable {P : Program} {w : World} {K : PySem.W.Frag} {mg : Str → Option Value} {base : Heap}
theorem dokMX {x qual : Str} {st : Stmt} {f : Addr} {N ps : List Str} {k : Nat} {sp : DSp} (F : DMet K x qual st f ps) (S : FnScope N ps (defScope st)) (len : ∀ ds M Q E, sp ds M Q E → ds.length = ps.length)
    (hbody : ∀ (cdv : Value) (A : Around) (outer : List Env) (s : Shared) (H : Hp) (E : XK) (F0 : FZ) (E' : DXK), Room k (A.deeper (envOfC qual (defScope st) s.heap.objs.size f cdv)) → (∀ c d H1, lX K F0 E' c d H1 → E c d H1) →
      ∃ t t', DB (cxOf (L2.CX P w) P w K mg base N qual (defScope st) f cdv A outer s H E) F0 (defBody st) t t' ∧ ∀ ds M Q', sp ds M Q' E' → t' { nx := fun _ M1 => fin Q' .non M1, rt := fin Q' } (dstart N ds) M) :
    ∃ fd, FnOk P w K mg base (L2.CX P w) (k + 1) f fd ps (liftSp K sp) ∧ Binds K fd ps [] := by
  obtain ⟨fd, G, hb⟩ := F.ex
  refine ⟨fd, ?_, hb⟩
  refine G.okX S (fun vs H Q E h => ?_) (fun cdv A outer s H vs Q E hr h => ?_)
  · obtain ⟨F, ds, M, Q', E', _, r, q, _⟩ := h
    rw [← r.length]; exact len _ _ _ _ q
  · obtain ⟨F, ds, M, Q', E', s1, r, q, kq, xq⟩ := h
    obtain ⟨t, t', d, h⟩ := hbody cdv A outer s H E F E' hr xq
    refine ⟨t, d.ps, d.le F (dstart N ds) M (L2.start N vs) H { nx := fun _ M1 => fin Q' .non M1, rt := fin Q' } { nx := fun _ H' => Q .non H', rt := Q } (Bs.refl _) s1 (gr_start r) (h ds M Q' q) ⟨?_, ?_, fun _ _ _ _ _ _ _ _ z => z.elim, fun _ _ _ _ _ _ _ _ z => z.elim⟩⟩
    · rintro F1 γ1 M1 σ1 H1 e1 s1 g1 ⟨M2, l, q⟩
      exact kq F1 .non .non M2 H1 e1 (s1.less l) .non q
    · rintro F1 d1 v1 M1 H1 e1 s1 r1 ⟨M2, l, q⟩
      exact kq F1 d1 v1 M2 H1 e1 (s1.less l) r1 q
/-- the statement of such an __init__ -/
def EiSh (st : Stmt) (fld pn : Str) : Prop := ∃ (z : Str) (ar : Arg) (nk : Nat) (p0 p1 p2 p3 p4 p5 p6 p7 p8 p9 : Pos),
    defBody st = [.Expr (.Call (.Attribute (.Call (.Name "super" p0) [] [] p1) "__init__" p2) [.Constant (.str z) nk p3] [] p4) p5, .Assign [.Attribute (.Name "self" p6) fld p7] (.Name pn p8) p9] ∧ z.length ≤ 1000 ∧
    ((defArgs st).posonlyargs ++ (defArgs st).args).head? = some ar ∧ ar.arg = ("self" : Str) ∧ (defScope st).kind = .function ∧ (defScope st).isCoroutine = false ∧ (defScope st).isGenerator = false ∧ (∀ x ∈ (defScope st).names, x.2 ≠ .cell) ∧ (∀ x ∈ (defScope st).names, x.2 = .free → x.1 = ("__class__" : Str)) ∧
    (defScope st).names.lookup ("self" : Str) = some .local ∧ (defScope st).names.lookup pn = some .local ∧ (defScope st).names.lookup ("super" : Str) = some .globalImplicit ∧ (defScope st).names.lookup ("__class__" : Str) = some .free ∧
    (∀ qual L f cda cc, ∃ pl : Sem Bool, eval (.Call (.Attribute (.Call (.Name "super" p0) [] [] p1) "__init__" p2) [.Constant (.str z) nk p3] [] p4) (PySem.W.ksEnv qual (defScope st) L f (.ref cda) cc) = (do
      let ov ← attributeBase (.Call (.Name "super" p0) [] [] p1) "__init__" (PySem.W.ksEnv qual (defScope st) L f (.ref cda) cc) (eval (.Call (.Name "super" p0) [] [] p1) (PySem.W.ksEnv qual (defScope st) L f (.ref cda) cc))
      standAt p2.atName
      let (fx, first) ← holding [ov] (getMethod ov "__init__" pl)
      callWith p4 fx first (backTo p4 (starEach [.Constant (.str z) nk p3] (PySem.W.ksEnv qual (defScope st) L f (.ref cda) cc))) [])) ∧
    (∀ qual L f cda cc, interactive (PySem.W.ksEnv qual (defScope st) L f (.ref cda) cc) = false) ∧
    (∀ qual L f cda cc, swapsWith (.Call (.Attribute (.Call (.Name "super" p0) [] [] p1) "__init__" p2) [.Constant (.str z) nk p3] [] p4) none p5.line (PySem.W.ksEnv qual (defScope st) L f (.ref cda) cc) = pure false) ∧
    (∀ qual L f cda cc, swapsWith (.Name pn p8) (some (.Attribute (.Name "self" p6) fld p7)) p9.line (PySem.W.ksEnv qual (defScope st) L f (.ref cda) cc) = pure false) ∧ (pn == ("__debug__" : Str)) = false ∧ (pn == ("__classdict__" : Str)) = false ∧ pn ≠ ("self" : Str)
theorem ei_mk {h : Heap} {x qual fld pn : Str} {C f cda cc : Addr} {st : Stmt} {kV dc pm ct oc ccl cl : Value} {an od cdd cld : Option Addr} {osl ccs csl : Array (Option Value)} {vs : Array Value} {file : Str} {tf : Tok} {nm q : Str} {N : Addr} {bs bm : List Value} {sn : List Str} {sub : List Value} {ab : Bool} {col : Option Bool} {dd : Option Addr} {k0 k1 k2 k3 k5 : Option Value}
    (X : K.In h) (G : h.Ns mainGlobals mg) (gC : mg x = some (.ref C)) (iE : PySem.W.findIn K (.ref C) "__init__" = some (some (.ref f))) (tI : PySem.W.typeIn K (.ref f) = some (.type "function"))
    (lk : K.lookup f = some ⟨oc, od, .func (PySem.W.ksFn "__init__" qual (defArgs st) (defBody st) (defScope st) .none kV dc pm an (.ref cda) ct cc), osl⟩) (cd : PySem.W.codeIn K (.ref cda) qual = true)
    (hcode : K.lookup cda = some ⟨ccl, cdd, .fields vs, ccs⟩) (hvs : vs[2]? = some (.str file tf)) (hfile : ((P.main.file : Str) == file) = true) (hcell : K.lookup cc = some ⟨cl, cld, .cell (some (.ref C)), csl⟩)
    (sup : PySem.W.ks_superIn K C C "__init__" = some (some (.builtin "ValueError.__init__"))) (ve : PySem.W.subIn K (.ref C) (.type "ValueError") = some true) (mro : PySem.W.mroIn K C (.ref C) = some true) (any : PySem.W.nsIn K cStatics "thirdparty.any" = some none)
    (sp : PySem.W.nsIn K mainGlobals "super" = some none) (top : (P.main.scope.names.lookup ("super" : Str)).isSome = false)
    (ocl : K.lookup C = some (excClassObj nm q C N bs bm true sn sub ab col dd k0 k1 k2 k3 k5 "ValueError.__new__")) (rv : PySem.HandSPX.refsVE bm = true)
    (sa : PySem.W.findIn K (.ref C) "__setattr__" = some (some (.builtin "object.__setattr__"))) (exC : PySem.W.subIn K (.ref C) (.type "BaseException") = some true) (tyC : PySem.W.typeIn K (.ref C) = some (.type "type")) (kC : PySem.W.keepIn K (.ref C) = true)
    (no : PySem.W.findIn K (.ref C) fld = some none) (sh : EiSh st fld pn)
    (b : ∀ (kV doc pm : Value) (an : Option Addr) (cdv ct : Value) (us : List Value), us.length = 2 → bindArgs (PySem.W.ksFn "__init__" qual (defArgs st) (defBody st) (defScope st) .none kV doc pm an cdv ct cc) ⟨us, []⟩ = pure ((["self", pn] : List Str).zip us)) : EiCls P K mg x C fld := by
  obtain ⟨z, ar, nk, p0, p1, p2, p3, p4, p5, p6, p7, p8, p9, hb, hz, hp, har, hk, hco, hgen, hnc, hfr, l1, l2, l3, l4, he, hi, hs1, hs2, hd1, hd2, hne⟩ := sh
  refine ⟨⟨f, cda, cc, qual, _, pn, ⟨⟨z, _, _, _, .none, kV, dc, pm, ct, oc, ccl, cl, an, od, cdd, cld, osl, ccs, csl, vs, file, tf, ar, nk, p0, p1, p2, p3, p4, p5, p6, p7, p8, p9, rfl, lk, hcode, hvs, hfile, hcell, hb, hz, hp, har, hk, hco, hgen, hnc, hfr, l1, l2, l3, l4, fun L => he _ _ _ _ _, fun L => hi _ _ _ _ _, fun L => hs1 _ _ _ _ _, fun L => hs2 _ _ _ _ _, hd1, hd2⟩, cd, sup, ve, mro, any, PySem.W.mg_none_of X G sp, top, ⟨⟨nm, q, N, bs, bm, sn, sub, ab, col, dd, k0, k1, k2, k3, k5, ocl, rv⟩, sa, exC, tyC, kC⟩, no, hne⟩, iE, tI, ?_⟩, gC⟩
  exact .all (b kV dc pm an (.ref cda) ct)
theorem zc0 {F : FZ} {fs : Option (List (Str × D))} {d : Option Addr} {c : Value} {oe : Obj} (h : fs = none) (fa : FldAt K F fs d) (hz : Zc c d oe) : Zc c none oe := by
  subst h
  cases d with
  | none => exact hz
  | some dd => exact fa.elim
end
end DL

set_option maxRecDepth 100000
set_option maxHeartbeats 2000000
namespace DL
open PySem PySem.Spec PyProof.Rows L2

/-! ### a op b op c op d -/
def tChain3 (r r' r2 : R2) (ta tb tc td : TE) : TE := fun σ H Q => ta σ H fun x H1 => tb σ H1 fun y H2 => r x y H2 fun z H3 => ∃ k, z = .bl k ∧
  (if k = true then tc σ H3 fun w' H4 => r' y w' H4 fun z2 H5 => ∃ k2, z2 = .bl k2 ∧ (if k2 = true then td σ H5 fun v' H6 => r2 w' v' H6 Q else Q (.bl false) H5) else Q (.bl false) H3)
def dChain3 (r r' r2 : DR2) (ta tb tc td : DTE) : DTE := fun γ M Q => ta γ M fun x M1 => tb γ M1 fun y M2 => r x y M2 fun z M3 => match z with
  | .bl true => tc γ M3 fun w M4 => r' y w M4 fun z2 M5 => (match z2 with
    | .bl true => td γ M5 fun v M6 => r2 w v M6 Q
    | .bl false => Q (.bl false) M5
    | _ => False)
  | .bl false => Q (.bl false) M3
  | _ => False
section
variable {X : Cx} {K : PySem.W.Frag} {F0 : FZ} {a b c d : Expr} {ta tb tc td : TE} {ta' tb' tc' td' : DTE} {pos : Pos} {op op' op2 : CmpOp} {r r' r2 : R2} {e e' e2 : DR2}
theorem pe_chain3 (ho : OpR X (compareOp op) r) (ho' : OpR X (compareOp op') r') (ho2 : OpR X (compareOp op2) r2) (ha : PE X a ta) (hb : PE X b tb) (hc : PE X c tc) (hd : PE X d td)
    (hm : lastMarks [op, op', op2] [b, c, d] = false) : PE X (.Compare a [op, op', op2] [b, c, d] pos) (tChain3 r r' r2 ta tb tc td) := by
  refine ⟨fun pins s σ H Q I h => ?_⟩
  refine Compare_chain (thn (ha.run pins s σ H _ I h) fun v s1 ⟨x, H1, I1, r1, q1⟩ => chain_link (thn (hb.run pins s1 σ H1 _ I1 q1) fun u s2 ⟨y, H2, I2, r2, q2⟩ =>
    thn (ho pins s2 σ H2 x y v u _ I2 r1 r2 q2) fun d s3 ⟨z, H3, I3, r3, k, e, q3⟩ => ?_)) hm
  subst e
  cases r3
  refine wpAny_truthy_bool ?_
  cases k with
  | false => exact ite_ff ⟨.bl false, H3, I3, rfl, q3⟩
  | true =>
    refine ite_tt (chain_link (thn (hc.run pins s3 σ H3 _ I3 q3) fun w' s4 ⟨z', H4, I4, r4, q4⟩ => thn (ho' pins s4 σ H4 y z' u w' _ I4 r2 r4 q4) fun d s5 ⟨z5, H5, I5, r5, k2, e5, q5⟩ => ?_))
    subst e5
    cases r5
    refine wpAny_truthy_bool ?_
    cases k2 with
    | false => exact ite_ff ⟨.bl false, H5, I5, rfl, q5⟩
    | true => exact ite_tt (chain_last (thn (hd.run pins s5 σ H5 _ I5 q5) fun v' s6 ⟨z6, H6, I6, r6, q6⟩ => ho2 pins s6 σ H6 z' z6 w' v' Q I6 r4 r6 q6))
theorem pt_chain3 (ho : OpR X (compareOp op) r) (ho' : OpR X (compareOp op') r') (ho2 : OpR X (compareOp op2) r2) (ha : PE X a ta) (hb : PE X b tb) (hc : PE X c tc) (hd : PE X d td)
    (hm : lastMarks [op, op', op2] [b, c, d] = false) : PT X (.Compare a [op, op', op2] [b, c, d] pos) (tTest (tChain3 r r' r2 ta tb tc td)) := by
  refine ⟨fun pins s σ H Q I h => ?_⟩
  refine isTrue_chain (thn (ha.run pins s σ H _ I h) fun v s1 ⟨x, H1, I1, r1, q1⟩ => test_link (thn (hb.run pins s1 σ H1 _ I1 q1) fun u s2 ⟨y, H2, I2, r2, q2⟩ =>
    thn (ho pins s2 σ H2 x y v u _ I2 r1 r2 q2) fun d s3 ⟨z, H3, I3, r3, k, e, q3⟩ => ?_)) hm
  subst e
  cases r3
  refine wpAny_truthy_bool ?_
  cases k with
  | false =>
    obtain ⟨k', e', q'⟩ := q3
    cases e'
    exact ite_ff ⟨H3, I3, q'⟩
  | true =>
    refine ite_tt (test_link (thn (hc.run pins s3 σ H3 _ I3 q3) fun w' s4 ⟨z', H4, I4, r4, q4⟩ => thn (ho' pins s4 σ H4 y z' u w' _ I4 r2 r4 q4) fun d s5 ⟨z5, H5, I5, r5, k2, e5, q5⟩ => ?_))
    subst e5
    cases r5
    refine wpAny_truthy_bool ?_
    cases k2 with
    | false =>
      obtain ⟨k', e', q'⟩ := q5
      cases e'
      exact ite_ff ⟨H5, I5, q'⟩
    | true =>
      refine ite_tt (test_last (thn (hd.run pins s5 σ H5 _ I5 q5) fun v' s6 ⟨z6, H6, I6, r6, q6⟩ => thn (ho2 pins s6 σ H6 z' z6 w' v' _ I6 r4 r6 q6) fun d' s7 ⟨z7, H7, I7, r7, k7, e7, q7⟩ => ?_))
      subst e7
      cases r7
      exact wpAny_truthy_bool ⟨H7, I7, q7⟩
theorem le_chain3 (hr : L2r K F0 e r) (hr' : L2r K F0 e' r') (hr2 : L2r K F0 e2 r2) (ha : LE K F0 ta' ta) (hb : LE K F0 tb' tb) (hc : LE K F0 tc' tc) (hd : LE K F0 td' td) : LE K F0 (dChain3 e e' e2 ta' tb' tc' td') (tChain3 r r' r2 ta tb tc td) := by
  intro F γ M σ H Q' Q e0 s g h k
  refine ha F γ M σ H _ _ e0 s g h fun F1 d1 v1 M1 H1 e1 s1 r1 q1 => ?_
  refine hb F1 γ M1 σ H1 _ _ (e0.tr e1) s1 (g.mono e1) q1 fun F2 d2 v2 M2 H2 e2' s2 r2' q2 => ?_
  refine hr F2 M2 H2 d1 d2 v1 v2 _ _ ((e0.tr e1).tr e2') s2 (r1.mono e2') r2' q2 fun F3 d3 v3 M3 H3 e3 s3 r3 q3 => ?_
  split at q3
  · cases r3
    refine ⟨true, rfl, ?_⟩
    refine hc F3 γ M3 σ H3 _ _ (((e0.tr e1).tr e2').tr e3) s3 (g.mono ((e1.trans e2').trans e3)) q3 fun F4 d4 v4 M4 H4 e4 s4 r4 q4 => ?_
    refine hr' F4 M4 H4 d2 d4 v2 v4 _ _ ((((e0.tr e1).tr e2').tr e3).tr e4) s4 (r2'.mono (e3.trans e4)) r4 q4 fun F5 d5 v5 M5 H5 e5 s5 r5 q5 => ?_
    split at q5
    · cases r5
      refine ⟨true, rfl, ?_⟩
      refine hd F5 γ M5 σ H5 _ _ (((((e0.tr e1).tr e2').tr e3).tr e4).tr e5) s5 (g.mono ((((e1.trans e2').trans e3).trans e4).trans e5)) q5 fun F6 d6 v6 M6 H6 e6 s6 r6 q6 => ?_
      exact hr2 F6 M6 H6 d4 d6 v4 v6 _ _ ((((((e0.tr e1).tr e2').tr e3).tr e4).tr e5).tr e6) s6 (r4.mono (e5.trans e6)) r6 q6 fun F7 d7 v7 M7 H7 e7 s7 r7 q7 => k F7 d7 v7 M7 H7 ((((((e1.trans e2').trans e3).trans e4).trans e5).trans e6).trans e7) s7 r7 q7
    · cases r5
      exact ⟨false, rfl, k F5 _ _ M5 H5 ((((e1.trans e2').trans e3).trans e4).trans e5) s5 (.bl false) q5⟩
    · exact q5.elim
  · cases r3
    exact ⟨false, rfl, k F3 _ _ M3 H3 ((e1.trans e2').trans e3) s3 (.bl false) q3⟩
  · exact q3.elim
theorem de_chain3 (ho : OpR X (compareOp op) r) (hr : L2r X.K F0 e r) (ho' : OpR X (compareOp op') r') (hr' : L2r X.K F0 e' r') (ho2 : OpR X (compareOp op2) r2) (hr2 : L2r X.K F0 e2 r2) (ha : DE X F0 a ta ta') (hb : DE X F0 b tb tb') (hc : DE X F0 c tc tc') (hd : DE X F0 d td td')
    (hm : lastMarks [op, op', op2] [b, c, d] = false := by with_unfolding_all rfl) : DE X F0 (.Compare a [op, op', op2] [b, c, d] pos) (tChain3 r r' r2 ta tb tc td) (dChain3 e e' e2 ta' tb' tc' td') :=
  ⟨pe_chain3 ho ho' ho2 ha.pe hb.pe hc.pe hd.pe hm, le_chain3 hr hr' hr2 ha.le hb.le hc.le hd.le⟩
theorem dt_chain3 (ho : OpR X (compareOp op) r) (hr : L2r X.K F0 e r) (ho' : OpR X (compareOp op') r') (hr' : L2r X.K F0 e' r') (ho2 : OpR X (compareOp op2) r2) (hr2 : L2r X.K F0 e2 r2) (ha : DE X F0 a ta ta') (hb : DE X F0 b tb tb') (hc : DE X F0 c tc tc') (hd : DE X F0 d td td')
    (hm : lastMarks [op, op', op2] [b, c, d] = false := by with_unfolding_all rfl) : DT X F0 (.Compare a [op, op', op2] [b, c, d] pos) (tTest (tChain3 r r' r2 ta tb tc td)) (dTest (dChain3 e e' e2 ta' tb' tc' td')) :=
  ⟨pt_chain3 ho ho' ho2 ha.pe hb.pe hc.pe hd.pe hm, le_test (le_chain3 hr hr' hr2 ha.le hb.le hc.le hd.le)⟩
theorem dt_ltX {n : Nat} (hr : Room n X.A) (ha : DE X F0 a ta ta') (hb : DE X F0 b tb tb') : DT X F0 (.Compare a [.Lt] [b] pos) (tTest (tOp (rCmpX X.K PySem.W.dataLt) ta tb)) (dTest (dOp (dCmpX PySem.W.dataLt) ta' tb')) := dt_cmp (op_ltX hr.units) l2_cmpX ha hb (nomark _)
end
end DL

set_option maxRecDepth 100000
set_option maxHeartbeats 2000000
namespace DL
open PySem PySem.Spec PyProof.Rows L2

/-! ### a dict looked for in a tuple of tuples -/
section
open PySem.SeqAt PySem.MeetsSeq PySem.AutoSeq1
variable {A : Around} {s : Shared}
theorem notI_of {p : Addr} {o : Obj} {T U : String} (h : s.heap.get? p = some o) (hc : o.cls = .type T) (hs : isSubtype (.type T) (.type U) = pure false) : NotI s p U := fun M => by
  have ty : PySem.W.Looks M s.heap (typeOf (.ref p)) (.type T) := by
    rw [← hc]
    exact (PySem.W.Looks.ld h).andThen .now
  exact ty.andThen (.of_pure hs)
theorem rcAt_tuple_dict {l b : Addr} {items : Array Value} {ob : Obj} (hl : s.heap.IsTuple l items) (hb : s.heap.get? b = some ob) (hbc : ob.cls = .type "dict") (hu : A.units < cLine) : l ≠ b ∧ RcAt A s (.ref l) (.ref b) false := by
  obtain ⟨⟨cls, dd, data, sl⟩, ho, hc, n, hd⟩ := id hl
  simp only at hc hd
  subst hc hd
  have hne : l ≠ b := fun e => by
    subst e
    rw [ho] at hb; cases hb
    simp at hbc
  refine ⟨hne, fun prog w E Q h => ?_⟩
  exact (rc_eq_decline_or (k := false) ⟨_, ho, rfl⟩ ⟨_, hb, hbc⟩ (by decide) F.sub_dict_tuple F.slot_tuple_eq F.slot_dict_eq_refl
    (fun _ hq => call_meets F.slot_tuple_eq ⟨_, ho, rfl⟩ F.entry_tuple_eq (F.args_tuple_eq_2 _ _) (tup_dec l b items n dd sl) ⟨ho, notI_of hb hbc F.sub_dict_tuple, hq⟩)
    (fun _ hq => call_meets F.slot_dict_eq_refl ⟨_, hb, hbc⟩ F.entry_dict_eq (F.args_dict_eq_2 _ _) (dct_dec b l ob) ⟨hb, hbc, notI_of ho rfl F.sub_tuple_dict, hq⟩)
    (fun _ hq => wpAny_isSame_ref_other' hne ho hb (by rw [hbc]; decide) hq) (.inr hu) h)
end
def rInDct (K : PySem.W.Frag) : R2 := fun x y H Q => ∃ (p t : Addr) (kvs : List (Key × V)) (xs : List V), x = .ref p ∧ y = .ref t ∧ H p = some (.dK kvs) ∧ SqT K H t xs ∧ (∀ v ∈ xs, ∃ q zs, v = .ref q ∧ SqT K H q zs) ∧ Q (.bl false) H
def dInDct : DR2 := fun x y M Q => ∃ p kvs l, x = .ref p ∧ y = .tup l ∧ M p = some (.dK kvs) ∧ (∀ d ∈ l, ∃ m, d = .tup m) ∧ Q (.bl false) M
section
variable {X : Cx} {F0 : FZ} {a b : Expr} {ta tb : TE} {ta' tb' : DTE} {pos : Pos} {K : PySem.W.Frag}
theorem op_inDct (hu : X.A.units + 1 < cLine) : OpR X (compareOp .In) (rInDct X.K) := by
  rintro pins s σ H x y v u Q I rx ry ⟨p, t, kvs, xs, rfl, rfl, hp, ht, hx, q⟩
  cases rx
  cases ry
  obtain ⟨its, r, hl, _⟩ := I.tuple ht
  obtain ⟨_, _, vs, rel, dd⟩ := dk_of I.hok hp
  obtain ⟨ob, hb, hbc⟩ := dd.typeIs
  refine SeqAt.in_tupleAt (fun _ => false) hl (fun y hy => ?_) ?_
  · have hy' : y ∈ its := by simpa using hy
    obtain ⟨j, hj⟩ := List.mem_iff_getElem?.mp hy'
    obtain ⟨v, hv, rv⟩ : ∃ v, xs[j]? = some v ∧ RelV v y := by
      have hlen := r.length
      have hjl := (List.getElem?_eq_some_iff.mp hj).1
      have e : xs[j]? = some xs[j] := List.getElem?_eq_getElem (by omega)
      obtain ⟨u, hu, ru⟩ := r.get e
      rw [hj] at hu; cases hu
      exact ⟨_, e, ru⟩
    obtain ⟨q', zs, rfl, hq'⟩ := hx v (List.mem_of_getElem? hv)
    cases rv
    obtain ⟨its2, r2, hl2, _⟩ := I.tuple hq'
    obtain ⟨hne, rc⟩ := rcAt_tuple_dict (A := X.A.in1) hl2 hb hbc (by show X.A.units + 1 < cLine; exact hu)
    exact .of_refs hne rc
  · have e : its.toArray.any (fun _ => false) = false := by simp
    rw [e]
    exact ⟨.bl false, H, I, rfl, q⟩
theorem l2_inDct : L2r K F0 dInDct (rInDct K) := by
  intro F M H d e x y Q' Q e0 s r1 r2 q k
  obtain ⟨p, kvs, l, rfl, rfl, hp, hl, q⟩ := q
  cases r1
  obtain ⟨u, h1, h2⟩ := s.mu _ _ hp
  cases r2 with
  | tup ht r2 =>
    cases h2
    refine ⟨p, _, _, _, rfl, rfl, h1, s.sqT ht, fun v hv => ?_, k F _ _ M H (FLe.refl F) s (.bl _) q⟩
    obtain ⟨j, hj⟩ := List.mem_iff_getElem?.mp hv
    obtain ⟨d, hd, rd⟩ := r2.getV hj
    obtain ⟨m, rfl⟩ := hl d (List.mem_of_getElem? hd)
    cases rd with
    | tup hq _ => exact ⟨_, _, rfl, s.sqT hq⟩
theorem de_inO {n : Nat} (hr : Room n X.A) (ha : DE X F0 a ta ta') (hb : DE X F0 b tb tb') (hm : behindInMarks .In b = false := by rfl) : DE X F0 (.Compare a [.In] [b] pos) (tOp (fun x y H Q => rInA X.K x y H Q ∨ rInDct X.K x y H Q) ta tb) (dOp (dOr2 (dIn false) dInDct) ta' tb') :=
  de_cmp (OpR.or (op_inA hr) (op_inDct (Nat.lt_of_le_of_lt (Nat.add_le_add_left (by decide : 1 ≤ 64) _) hr.units))) (l2_or2 l2_in l2_inDct) ha hb hm
theorem dt_inO {n : Nat} (hr : Room n X.A) (ha : DE X F0 a ta ta') (hb : DE X F0 b tb tb') (hm : behindInMarks .In b = false := by rfl) : DT X F0 (.Compare a [.In] [b] pos) (tTest (tOp (fun x y H Q => rInA X.K x y H Q ∨ rInDct X.K x y H Q) ta tb)) (dTest (dOp (dOr2 (dIn false) dInDct) ta' tb')) :=
  dt_cmp (OpR.or (op_inA hr) (op_inDct (Nat.lt_of_le_of_lt (Nat.add_le_add_left (by decide : 1 ≤ 64) _) hr.units))) (l2_or2 l2_in l2_inDct) ha hb hm
end
end DL

set_option maxRecDepth 100000
set_option maxHeartbeats 2000000

/-! ### t[::-1] of a tuple -/
namespace HT
open PySem PySem.Spec PyProof.Rows
section
variable {prog : Program} {w : World} {A : Around} {E : Value → Shared → Prop} {s : Shared}
theorem adjust_rev (n : Nat) : Builtin.Slice.sliceAdjust none none (-1) (n : Int) = ((n : Int) - 1, -1) := by
  unfold Builtin.Slice.sliceAdjust
  have h1 : ((-1 : Int) < 0) := by decide
  simp only [h1, if_true]
theorem places_rev (n : Nat) : Builtin.Slice.slicePlaces ((n : Int) - 1) (-1) (-1) = n := by
  unfold Builtin.Slice.slicePlaces
  have h1 : ¬ ((-1 : Int) > 0) := by decide
  have h2 : (-(-1 : Int)) = 1 := by decide
  simp only [h1, if_false, h2, Int.ediv_one]
  split <;> omega
theorem sliceApplied_rev {sl : Addr} {u : Tok} {n : Nat} {Q : Int × Int × Nat → Shared → Prop} (hs : s.heap.IsSliceOf sl .none .none (.int (-1) u))
    (h : Q ((n : Int) - 1, -1, n) s) : wpAny (model prog w) A (Builtin.Slice.sliceApplied (.ref sl) (pure (n : Int))) Q E s := by
  obtain ⟨os, hos, hcs, hds⟩ := id hs
  unfold Builtin.Slice.sliceApplied Builtin.Slice.sliceFields
  refine wpAny_bind (wpAny_bind (wpAny_field hos hds (x := .none) rfl (wpAny_bind (wpAny_field hos hds (x := .none) rfl (wpAny_bind (wpAny_field hos hds (x := .int (-1) u) rfl (wpAny_pure ?_)))))))
  refine wpAny_bind (slicePart_int ?_)
  show wpAny _ _ (if ((-1 : Int) == 0) = true then _ else _) _ _ s
  rw [if_neg (by decide)]
  refine wpAny_bind (slicePart_none (wpAny_bind (slicePart_none (wpAny_bind (wpAny_pure ?_)))))
  show wpAny _ _ (match Builtin.Slice.sliceAdjust none none (-1) (n : Int) with | (lo, hi) => pure (lo, (-1 : Int), Builtin.Slice.slicePlaces lo hi (-1))) _ _ s
  rw [adjust_rev n]
  show wpAny _ _ (pure ((n : Int) - 1, (-1 : Int), Builtin.Slice.slicePlaces ((n : Int) - 1) (-1) (-1))) _ _ s
  rw [places_rev]
  exact wpAny_pure h
theorem pick_rev (xs : Array Value) : ((List.range xs.size).filterMap fun (m : Nat) => xs[(((xs.size : Int) - 1) + (m : Int) * (-1)).toNat]?).toArray = xs.toList.reverse.toArray := by
  have e : (fun (m : Nat) => xs[(((xs.size : Int) - 1) + (m : Int) * (-1)).toNat]?) = (fun k => xs[k]?) ∘ fun m => xs.size - 1 - m := by
    funext m
    show xs[(((xs.size : Int) - 1) + (m : Int) * (-1)).toNat]? = xs[xs.size - 1 - m]?
    have : (((xs.size : Int) - 1) + (m : Int) * (-1)).toNat = xs.size - 1 - m := by omega
    rw [this]
  rw [e, ← List.filterMap_map, PySem.W.krv_range, List.filterMap_reverse, PySem.W.krv_all]

theorem getItem_tuple_rev {t sl : Addr} {items : Array Value} {u : Tok} {Q : Value → Shared → Prop} (ht : IsTup s.heap t items) (hs : s.heap.IsSliceOf sl .none .none (.int (-1) u))
    (h : Q (.ref s.heap.objs.size) { s with heap := s.heap.push { cls := .type "tuple", data := .seq items.toList.reverse.toArray } })
    (hsz : items.size ≤ sizeLine) : wpAny (model prog w) A (getItem (.ref t) (.ref sl)) Q E s := by
  have htake : sizeOk (.seq items.toList.reverse.toArray) := by
    show items.toList.reverse.toArray.size ≤ sizeLine
    rw [List.size_toArray, List.length_reverse, Array.length_toList]
    exact hsz
  obtain ⟨os, hos, hcs, hds⟩ := id hs
  have hTs : s.TypeIs (.ref sl) "slice" := ⟨os, hos, hcs⟩
  unfold getItem
  try with_reducible refine wpAny_holding ?_
  first | refine wpAny_bind (wpAny_pure ?_) | skip
  refine wpAny_bind (wpAny_sequenceKey ht.typeIs (by decide) ?_)
  refine wpAny_bind (wpAny_callSpecial?_slot (name := Str.ofString "__getitem__") ht.typeIs PyProof.Rows.slot_tuple_getitem
    (wpAny_call_entry PyProof.Rows.slot_tuple_getitem ht.typeIs entry_tuple_getitem ?_ (args_tuple_getitem _ _)))
  show wpAny _ _ (Builtin.Tuple.tupleItemsOf (.ref t) >>= _) _ _ s
  refine wpAny_bind (tupleItemsOf_ ht ?_)
  refine wpAny_bind (wpAny_typeOf hTs ?_)
  rw [if_pos (by decide)]
  refine wpAny_bind (sliceApplied_rev hs ?_)
  have hno : ¬ ((((items.size : Int) - 1) == 0 && (-1 : Int) == 1 && items.size == items.size) = true) := by
    intro q
    rw [Bool.and_eq_true, Bool.and_eq_true] at q
    have q1 : (-1 : Int) = 1 := eq_of_beq q.1.2
    omega
  show wpAny _ _ (if (((items.size : Int) - 1) == 0 && (-1 : Int) == 1 && items.size == items.size) = true then _ else _) _ _ s
  rw [if_neg hno, pick_rev]
  first
    | exact wpAny_bind (m := Builtin.Tuple.tupleExact _) (wpAny_newObj_type (wpAny_pure ⟨_, rfl, wpAny_pure h⟩) htake)
    | exact wpAny_bind (m := Builtin.Tuple.tupleExact _) (wpAny_newObj_type (wpAny_bind (wpAny_pure (wpAny_pure ⟨_, rfl, wpAny_pure h⟩))) htake)
    | exact wpAny_bind (wpAny_bind (m := Builtin.Tuple.tupleExact _) (wpAny_newObj_type (wpAny_pure (wpAny_pure ⟨_, rfl, wpAny_pure h⟩)) htake))
    | exact wpAny_bind (wpAny_bind (m := Builtin.Tuple.tupleExact _) (wpAny_newObj_type (wpAny_pure ⟨_, rfl, wpAny_pure h⟩) htake))
end
end HT

namespace DL
open PySem PySem.Spec PyProof.Rows L2
def tRevT (K : PySem.W.Frag) (te : TE) : TE := fun σ H Q => te σ H fun x H1 => ∃ a xs, x = .ref a ∧ SqT K H1 a xs ∧ ∀ p, H1 p = none → Q (.ref p) (upd H1 p (.tup xs.reverse))
def dRevT (ta : DTE) : DTE := fun γ M Q => ta γ M fun x M1 => ∃ l, x = .tup l ∧ Q (.tup l.reverse) M1
section
variable {X : Cx} {F0 : FZ} {e : Expr} {te : TE} {te' : DTE} {k : Nat} {p1 p2 p3 pos : Pos}
theorem pe_revT (he : PE X e te) : PE X (.Subscript e (.Slice none none (some (.UnaryOp .USub (.Constant (.int 1) k p1) p2)) p3) pos) (tRevT X.K te) := by
  refine ⟨fun pins s σ H Q I h => ?_⟩
  refine Subscript_ (thn (he.run pins s σ H _ I h) fun v s1 ⟨x, H1, I1, r1, q1⟩ => ?_)
  obtain ⟨a, xs, ex, hx, q⟩ := q1
  subst ex
  cases r1
  have hst : PO X (some (.UnaryOp .USub (.Constant (.int 1) k p1) p2)) (tPart (tUn (rU fun i => .int (-i)) (tC (.int 1)))) := po_some (pe_un un_neg pe_int)
  refine wpAny_Slice (thn (po_none.run pins s1 σ H1 (fun o H2 => o = none ∧ H2 = H1) I1 ⟨rfl, rfl⟩) fun vl s2 ⟨l, H2, I2, pl, el, e2⟩ => ?_)
  subst el e2
  refine thn (po_none.run pins s2 σ H2 (fun o H3 => o = none ∧ H3 = H2) I2 ⟨rfl, rfl⟩) fun vu s3 ⟨u, H3, I3, pu, eu, e3⟩ => ?_
  subst eu e3
  refine thn (hst.run pins s3 σ H3 (fun o H4 => o = some (-1) ∧ H4 = H3) I3 ⟨1, rfl, -1, rfl, rfl, rfl⟩) fun vs s4 ⟨o, H4, I4, ps, eo, e4⟩ => ?_
  subst eo e4
  cases pl
  cases pu
  cases ps with | int _ tk => ?_
  have I5 : Inv X pins σ H4 { s4 with heap := s4.heap.push { cls := .type "slice", data := .fields #[.none, .none, .int (-1) tk] } } := I4.kept (t' := s4.toks) fun b ob q => Heap.get?_push_of_some _ q
  obtain ⟨its, r, ht, hz⟩ := I5.tuple hx
  have hlen := r.length
  show wpAny (model X.prog X.w) X.A (subscriptTail e (.Slice none none (some (.UnaryOp .USub (.Constant (.int 1) k p1) p2)) p3) (.ref a) (.ref s4.heap.objs.size)) (EP X pins σ Q) X.xe { s4 with heap := s4.heap.push { cls := .type "slice", data := .fields #[.none, .none, .int (-1) tk] } }
  refine tail_any (ops := [.ref a, .ref s4.heap.objs.size]) ht.typeIs (PyProof.Rows.slot_tuple_getitem.lookup) ?_ (by with_unfolding_all rfl)
  refine HT.getItem_tuple_rev ht (Heap.IsSliceOf.new _ .none .none (.int (-1) tk)) ?_ (by rw [List.size_toArray]; omega)
  refine ⟨.ref _, _, I5.laid (t' := s4.toks) (o := .tup xs.reverse) (fun b ob q => Heap.get?_push_of_some _ q) (Nat.le_refl _) ?_, rfl, q _ (I5.hok.fresh (Nat.le_refl _))⟩
  exact ⟨by rw [List.length_reverse]; exact hz, _, r.reverse, IsTup.new _ _⟩
theorem de_revT (he : DE X F0 e te te') : DE X F0 (.Subscript e (.Slice none none (some (.UnaryOp .USub (.Constant (.int 1) k p1) p2)) p3) pos) (tRevT X.K te) (dRevT te') := ⟨pe_revT he.pe, fun F γ M σ H Q' Q e0 s g q k => by
  refine he.le F γ M σ H _ _ e0 s g q fun F1 d1 v1 M1 H1 e1 s1 r1 q1 => ?_
  obtain ⟨l, rfl, q1⟩ := q1
  cases r1 with
  | tup h1 h2 =>
    rename_i p xs
    refine ⟨p, xs, rfl, s1.sqT h1, fun p' hp => ?_⟩
    have e2 := same_upd (o := .tup xs.reverse) (s1.freeF hp)
    exact k _ _ _ _ _ (e1.trans e2) (s1.newF hp (by show xs.reverse.length ≤ sizeLine; rw [List.length_reverse]; exact s1.lenT h1)) (.tup upd_same (h2.reverse.mono e2)) q1⟩
end
end DL

set_option maxRecDepth 100000
set_option maxHeartbeats 2000000
namespace DL
open PySem PySem.Spec PyProof.Rows L2

/-! ### {k: v for ..} of any keys: o0 the new dict -/
section
variable {X : Cx}
/-- d[k] = v by a comprehension, any keys -/
theorem d_dictSetG {pins : List (Addr × Obj)} {σ : L2.St} {H H' : Hp} {s : Shared} {E : Value → Shared → Prop} {a : Addr} {y v : V} {u r : Value} {Q : Unit → Shared → Prop} (hu : X.A.units < cLine) (I : L2.Inv X pins σ H s) (g : DPut H a y v H')
    (ry : RelV y u) (rv : RelV v r) (h : ∀ s', L2.Inv X pins σ H' s' → Q () s') : wpAny (model X.prog X.w) X.A (dictSet a u r) Q E s := by
  rcases g with ⟨kvs, k, e, ey, l, eH⟩ | ⟨kvs, k, b, e, ey, eb, l, eH⟩
  · subst ey eH
    exact d_dictSet I e l ry rv h
  · subst ey eH
    cases (show u = Value.ref b from ry)
    obtain ⟨z, hd, xs, rel, dd⟩ := dt_of I.hok e
    have hz : xs.length ≤ sizeLine := by rw [← Paired.length rel]; exact z
    have hl : (putK kvs k v).length ≤ sizeLine := by have := length_putK kvs k v; omega
    refine wpAny_dictSet_heap (hsz := hz) hu (key_of I.hok eb) dd fun h' dd' hs => h _ ?_
    obtain ⟨q, es, ep, hq, h2, h3, h4, _, h5⟩ := dd'
    refine d_write I (by rw [e]; exact True.intro) hs ⟨q, hq⟩ ⟨hl, hd, _, (rel.put k eb rv).keeps fun c ys ec => ?_, q, es, ep, hq, h2, h3, h4, h5⟩
    rw [upd_ne (ne_of ec e (fun z => nomatch z))]
    exact ec
def tDcG (o0 : HO) (wi : TI) (g : TG) (tt : TT) (tk tv : TE) (vs : List Nat) : TE := fun σ H Q => wi σ H fun J H1 => ∀ D, H1 D = none → ∃ W : Nat → Nat → Hp → Prop, (∃ m, W 0 m (upd H1 D o0)) ∧ ∀ i m H, W i m H →
  (J.stop i H ∧ Q (.ref D) H) ∨ (J.go i H ∧ ∃ Nx : Hp → Prop, (∀ H', Nx H' → ∃ m', m' < m ∧ W (i + 1) m' H') ∧ ∀ x H', J.yld i H x H' → g x (wipe σ vs) H' fun σ2 H2 => wipe σ2 vs = wipe σ vs ∧ tt σ2 H2 fun b H3 =>
    if b = true then tk σ2 H3 fun y H4 => tv σ2 H4 fun z H5 => ∃ H6, DPut H5 D y z H6 ∧ Nx H6 else Nx H3)
/-- the loop: the library's road for int and text keys (HandS.DictComp), gone with any kind of dict -/
theorem dcg_core {o0 : HO} {pins : List (Addr × Obj)} {s : Shared} {σ : L2.St} {H : Hp} {Q : VK} {kx vx tg iter : Expr} {ifs : List Expr} {scope : Scope} {own : List (Str × Nat)} {pos pos' : Pos} {wi : TI} {g : TG} {tt : TT} {tk tv : TE} {use : Option (Value → Sem Unit)} {Qf : Value → Shared → Prop}
    (ho0 : ∀ (H : Hp) (h : Heap), sysModules < h.objs.size → ObjOk X.prog X.w H (h.push { cls := .type "dict", data := .dict #[] }) h.objs.size o0) (hu : X.A.units < cLine)
    (hc : X.calm = true) (hN : X.N.Nodup) (I : L2.Inv X pins σ H s) (hi : PI X tg iter wi) (ok : BlkOk X.N X.env.scope scope own)
    (hg : Blk X scope fun Y => PG Y tg g) (ht : Blk X scope fun Y => PTs Y ifs tt) (hk : Blk X scope fun Y => PE Y kx tk) (he : Blk X scope fun Y => PE Y vx tv) (hs : ∀ x, foldedSetIterable iter X.env x = pure x)
    (h : tDcG o0 wi g tt tk tv (own.map (·.2)) σ H Q)
    (hRR : ∀ D C s' m H', L2.Inv X pins σ H' s' → Q (.ref D) H' → s'.heap.Ns C m → FpOk X pins H' C → compPost (model X.prog X.w) X.A X.xe use Qf (.ref D) C (.ok .next) s') :
    wpAny (model X.prog X.w) X.A (comprehension (.DictComp kx vx [⟨tg, iter, ifs, 0⟩] scope pos) scope X.env pos' newDict false (eval iter X.env) use) Qf X.xe s := by
  have hfree : ∀ y ∈ scope.names, y.2 = .free → ∃ c, X.env.cells.lookup y.1 = some c := fun y hy e => (ok.free y hy e).elim (fun k => I.ok.has _ (.inl k)) fun k => I.ok.has _ (.inr k)
  refine wpAny_comprehension_free (use := use) rfl hs (closure_ok hfree) ok.kind (fun y hy e => by rw [ok.uniq y hy, e]) (thn (hi.run pins s σ H _ I h) fun xv s1 hx => thn hx fun itv s2 h2 => ?_)
  obtain ⟨it, fp, tn, J, H2, e, I2, T, st2, f2, q⟩ := h2
  subst e
  refine wpAny_newObj_type (newEnv_comp ?_)
  generalize hD : s2.heap.objs.size = D
  obtain ⟨W, ⟨m0, w0⟩, turn⟩ := q D (I2.hok.fresh (Nat.le_of_eq hD))
  generalize hs3 : ({ s2 with heap := s2.heap.push { cls := .type "dict", data := .dict #[] } } : Shared) = s3
  have I3 : L2.Inv X pins σ (upd H2 D o0) s3 := by
    rw [← hs3]
    refine I2.laid (t' := s2.toks) (fun b o e => Heap.get?_push_of_some _ e) (Nat.le_of_eq hD) ?_
    rw [← hD]
    exact ho0 _ s2.heap I2.big
  have h3 : s3.heap = s2.heap.push { cls := .type "dict", data := .dict #[] } := by rw [← hs3]
  have f3 : ∀ b ∈ fp, FpOk X pins (upd H2 D o0) b ∧ b < s3.heap.objs.size := fun b hb => by
    obtain ⟨o, e, _⟩ := T.obj _ _ st2 b hb
    have hlt := Heap.lt_size e
    refine ⟨⟨?_, (f2 b hb).2⟩, by rw [h3, Heap.size_push]; exact Nat.lt_succ_of_lt hlt⟩
    rw [upd_ne (by rw [← hD]; exact Nat.ne_of_lt hlt)]
    exact (f2 b hb).1
  have st3 : tn 0 s3.heap := T.keep _ _ _ st2 fun b _ o e => by rw [h3]; exact Heap.get?_push_of_some _ e
  have I4 := block_start I3 ok hN f3
  have pg := hg s3 (upd H2 D o0) s3.heap.objs.size (cellsFrom (s3.heap.objs.size + 1) scope.names (cloFrom X.env.cells scope.names [])) fp
  have pt := ht s3 (upd H2 D o0) s3.heap.objs.size (cellsFrom (s3.heap.objs.size + 1) scope.names (cloFrom X.env.cells scope.names [])) fp
  have pk := hk s3 (upd H2 D o0) s3.heap.objs.size (cellsFrom (s3.heap.objs.size + 1) scope.names (cloFrom X.env.cells scope.names [])) fp
  have pe := he s3 (upd H2 D o0) s3.heap.objs.size (cellsFrom (s3.heap.objs.size + 1) scope.names (cloFrom X.env.cells scope.names [])) fp
  show codeAny _ _ (.compStart (.DictComp kx vx [⟨tg, iter, ifs, 0⟩] scope pos) 0 (.ref it) (.ref D) (compEnvC scope (cellsFrom (s3.heap.objs.size + 1) scope.names (cloFrom X.env.cells scope.names [])) s3.heap.objs.size X.env)) (compPost (model X.prog X.w) X.A X.xe use Qf (.ref D) s3.heap.objs.size) { s3 with heap := pushCells (s3.heap.push { cls := .type "dict", data := .dict #[] }) scope.names }
  have nfp : ∀ b ∈ fp, (upd H2 D o0) b = none := fun b hb => (f3 b hb).1.1
  generalize hce : compEnvC scope (cellsFrom (s3.heap.objs.size + 1) scope.names (cloFrom X.env.cells scope.names [])) s3.heap.objs.size X.env = ce at I4 pg pt pk pe ⊢
  have cL : ce.locals = s3.heap.objs.size := by subst hce; rfl
  generalize hH3 : upd H2 D o0 = H3 at I3 I4 pg pt pk pe w0 nfp f3
  generalize hs4 : ({ s3 with heap := pushCells (s3.heap.push { cls := .type "dict", data := .dict #[] }) scope.names } : Shared) = s4 at I4 ⊢
  have st4 : tn 0 s4.heap := T.keep _ _ _ st3 fun b _ o e => by rw [← hs4]; exact pushCells_keeps _ _ _ _ (Heap.get?_push_of_some _ e)
  have stat : ∀ {σ' : L2.St} {H' : Hp} {s' : Shared}, L2.Inv (X.blk s3 H3 scope ce fp) [] σ' H' s' → (∀ b ∈ fp, H' b = none) → ∀ b ∈ fp, FpOk (X.blk s3 H3 scope ce fp) [] H' b := fun {σ' H' s'} I' hn b hb =>
    ⟨hn b hb, (I'.ok.exf b hb).1, I'.ok.exfs b hb, .inl hb, fun x c e => (I'.ok.exf b hb).2 x c e, fun p hp => absurd (show p ∈ ([] : List (Addr × Obj)) ++ [] from hp) (by simp)⟩
  have loop : codeAny (model X.prog X.w) X.A (.compLoop (.DictComp kx vx [⟨tg, iter, ifs, 0⟩] scope pos) 0 (.ref it) (.ref D) ce) (compPost (model X.prog X.w) X.A X.xe use Qf (.ref D) s3.heap.objs.size) s4 := by
    refine compLoop_anyD (fun n s' => ∃ i H', L2.Inv (X.blk s3 H3 scope ce fp) [] (wipe σ (own.map (·.2))) H' s' ∧ tn i s'.heap ∧ (∀ b ∈ fp, H' b = none) ∧ W i n H') ?_ m0 ⟨0, H3, I4, st4, nfp, w0⟩
    rintro n s5 ⟨i, H5, I5, st5, n5, w5⟩
    rcases turn i n H5 w5 with ⟨stop, qq⟩ | ⟨go, Nx, hNx, step⟩
    · refine thnF (T.done (X.blk s3 H3 scope ce fp) rfl rfl rfl hc i [] s5 _ H5 (fun _ _ => False) I5 (stat I5 n5) st5 stop) fun r s6 ⟨hr, I6⟩ => ?_
      subst hr
      have I7 : L2.Inv X pins σ H5 s6 := I3.call' (ch := fp) I6.os I6.base I6.hok I6.bare fun b hb => ⟨(f3 b hb).1.2.2.2.1, (f3 b hb).1.2.1, (f3 b hb).1.2.2.2.2.1, (f3 b hb).1.2.2.2.2.2⟩
      have nC : H5 s3.heap.objs.size = none := by
        have z : H5 ce.locals = none := I6.free
        rw [cL] at z
        exact z
      obtain ⟨m, hn, _⟩ := I6.loc
      have hn : s6.heap.Ns ce.locals m := hn
      rw [cL] at hn
      exact hRR D s3.heap.objs.size s6 m H5 I7 qq hn (I3.fpOk (Nat.le_refl _) nC)
    · refine thnF (T.item (X.blk s3 H3 scope ce fp) rfl rfl rfl hc i [] s5 _ H5 (fun _ _ => False) I5 (stat I5 n5) st5 go) fun r s6 ⟨u, hr, h6⟩ => ?_
      subst hr
      refine thnF h6 fun _ s7 ⟨x, H7, I7, r7, y7, st7, n7⟩ => ?_
      have I7' := I7.pinned (stat I7 n7) (T.obj _ _ st7)
      refine thnF (pg.run _ s7 _ H7 x u _ I7' r7 (step x H7 y7)) fun _ s8 ⟨σ8, H8, I8, hw8, q8⟩ => ?_
      refine thnF (pt.run _ s8 σ8 H8 _ I8 q8) fun b s9 ⟨H9, I9, q9⟩ => ?_
      have fin : ∀ {s' : Shared} {H' : Hp}, L2.Inv (X.blk s3 H3 scope ce fp) ([] ++ pinsAt fp s7.heap) σ8 H' s' → Nx H' → ∃ m, m < n ∧ ∃ i H', L2.Inv (X.blk s3 H3 scope ce fp) [] (wipe σ (own.map (·.2))) H' s' ∧ tn i s'.heap ∧ (∀ b ∈ fp, H' b = none) ∧ W i m H' := fun {s' H'} I' nx => by
        obtain ⟨m', hm, w'⟩ := hNx H' nx
        have pin' : ∀ b ∈ fp, ∀ o, s7.heap.get? b = some o → s'.heap.get? b = some o ∧ H' b = none := fun b hb o e =>
          let z := I'.pin (b, o) (List.mem_append_right _ (List.mem_append_right _ (mem_pinsAt hb e)))
          ⟨z.1, z.2.1⟩
        have hl : (wipe σ (own.map (·.2))).length = σ8.length := by rw [← hw8, wipe_length]
        refine ⟨m', hm, i + 1, H', (I'.unpinned (pins := [])).weak hl (fun j v e => ?_), T.keep _ _ _ st7 fun b hb o e => (pin' b hb o e).1, fun b hb => ?_, w'⟩
        · rw [← hw8] at e
          exact (wipe_some e).1
        · obtain ⟨o, e, _⟩ := T.obj _ _ st7 b hb
          exact (pin' b hb o e).2
      cases b with
      | false =>
        simp only [Bool.false_eq_true, if_false] at q9 ⊢
        exact fin I9 q9
      | true =>
        simp only [if_true] at q9 ⊢
        refine thnF (pk.run _ s9 σ8 H9 _ I9 q9) fun z s10 ⟨yk, H10, I10, r10, q10⟩ => ?_
        refine thnF (pe.run _ s10 σ8 H10 _ I10 q10) fun z2 s11 ⟨yv, H11, I11, r11, H12, pu, nx⟩ => ?_
        exact d_dictSetG (X := X.blk s3 H3 scope ce fp) hu I11 pu r10 r11 fun s12 I12 => fin I12 nx
  exact codeAny_compStart_dict loop (T.self X.A 0 _ _ _ st4 loop)
end
section
variable {X : Cx} {K : PySem.W.Frag} {F0 : FZ} {kx vx tg iter : Expr} {ifs : List Expr} {scope : Scope} {own : List (Str × Nat)} {pos spos py : Pos} {wi : TI} {wi' : DTI} {g' : DTG} {tt' : DTT} {tk' te' : DTE}
theorem ps_setDcG {o0 : HO} {i : Nat} {y : Str} {g : TG} {tt : TT} {tk tv : TE} (ho0 : ∀ (H : Hp) (h : Heap), sysModules < h.objs.size → ObjOk X.prog X.w H (h.push { cls := .type "dict", data := .dict #[] }) h.objs.size o0) (hu : X.A.units < cLine) (hc : X.calm = true) (hN : X.N.Nodup) (hy : X.N[i]? = some y) (hyl : X.env.scope.names.lookup y = some .local) (hsw : swapsWith (.DictComp kx vx [⟨tg, iter, ifs, 0⟩] scope pos) (some (.Name y py)) spos.line X.env = pure true) (hi : PI X tg iter wi) (ok : BlkOk X.N X.env.scope scope own)
    (hg : Blk X scope fun Y => PG Y tg g) (ht : Blk X scope fun Y => PTs Y ifs tt) (hk : Blk X scope fun Y => PE Y kx tk) (he : Blk X scope fun Y => PE Y vx tv) (hs : ∀ x, foldedSetIterable iter X.env x = pure x) : PS X (.Assign [.Name y py] (.DictComp kx vx [⟨tg, iter, ifs, 0⟩] scope pos) spos) (tAsg (tDcG o0 wi g tt tk tv (own.map (·.2))) (gName i)) := by
  refine ⟨fun pins s σ H D I h => ?_⟩
  rw [exec_Assign_Name_used _ _ _ _ hsw]
  refine wpAny_bind (wpAny_standAt (wpAny_bind (?_ : wpAny _ X.A (do let _ ← comprehension (.DictComp kx vx [⟨tg, iter, ifs, 0⟩] scope pos) scope X.env (firstIterPos [⟨tg, iter, ifs, 0⟩] pos) newDict false (eval iter X.env) (some (assign (.Name y py) X.env))) _ _ s)))
  have h : tDcG o0 wi g tt tk tv (own.map (·.2)) σ H (fun x H1 => gName i x σ H1 D.nx) := h
  refine wpAny_bind (thn (dcg_core (Qf := fun _ s' => SP X pins D .next s') ho0 hu hc hN I hi ok hg ht hk he hs h fun L C s' m H' I' q hn f => ?_) fun _ s' hq => wpAny_pure (wpAny_pure hq))
  refine (?_ : wpAny _ _ (assign (.Name y py) X.env (.ref L)) _ _ _)
  refine wpAny_assign_Name (store_ok2 (v := V.ref L) I' hN hy (.inl hyl) rfl (fun s2 I2 ⟨a, sb, ha⟩ => ?_) (.inr hyl))
  obtain ⟨f0, f1, f2, f3, f4, f5⟩ := f
  have haC : C ≠ a := ha.elim (fun z => z ▸ f1) fun z e => f4 y a z e.symm
  exact ⟨m, hn.sameBut sb haC, fun h3 sb3 => ⟨_, H', I2.turned (t' := s2.toks) (fun b o hb e => (sb3.2 b hb).trans e) f0 f1 f3 f4 f5, q⟩⟩
end
end DL

set_option maxRecDepth 100000
set_option maxHeartbeats 2000000
namespace DL
open PySem PySem.Spec PyProof.Rows L2

/-! ### {t: v for ..}, keys tuples -/
section
variable {X : Cx} {K : PySem.W.Frag} {F0 : FZ}
def dDcTI (g : DTG) (tt : DTT) (tk te : DTE) (vs : List Nat) (γ : G) (items : List D) (M1 : Mp) (Q : DK) : Prop := ∃ I : Nat → List (List Key × D) → Mp → Prop, I 0 [] M1 ∧
  (∀ i d acc M, items[i]? = some d → I i acc M → g d (dwipe γ vs) M fun γ2 M2 => tt γ2 M2 fun b M3 => if b = true then tk γ2 M3 fun x M4 => ∃ l kk, x = .tup l ∧ keysOf l = some kk ∧ te γ2 M4 fun y M5 => I (i + 1) (dput acc kk y) M5 else I (i + 1) acc M3) ∧
  ∀ acc M, I items.length acc M → ∀ p, M p = none → Q (.ref p) (mset M p (.dT acc))
def dDcT (wi : DTI) (g : DTG) (tt : DTT) (tk te : DTE) (vs : List Nat) : DTE := fun γ M Q => wi γ M fun items M1 => items.length ≤ sizeLine ∧ dDcTI g tt tk te vs γ items M1 Q
def DcWT (K : PySem.W.Frag) (F1 : FZ) (L : Addr) (I : Nat → List (List Key × D) → Mp → Prop) (i : Nat) (H : Hp) : Prop := ∃ F2 M2 acc ps, FLe F1 F2 ∧ SR K F2 M2 H ∧ (F2.f L = none ∧ F2.d L = none) ∧ M2 L = none ∧ H L = some (.dT ps) ∧ KVR K F2 acc ps ∧ (∀ p ∈ ps, p.1.length ≤ sizeLine) ∧ acc.length ≤ i ∧ I i acc M2
theorem le_dcT {wi : TI} {wi' : DTI} {g : TG} {g' : DTG} {tt : TT} {tt' : DTT} {tk te : TE} {tk' te' : DTE} {vs : List Nat} (hi : LI K F0 wi' wi) (hg : LG K F0 g' g) (hw : GW vs g) (ht : LT K F0 tt' tt) (hkey : LE K F0 tk' tk) (he : LE K F0 te' te) :
    LE K F0 (dDcT wi' g' tt' tk' te' vs) (tDcG (.dT []) wi g tt tk te vs) := by
  intro F γ M σ H Q' Q e0 s gr q k
  refine hi F γ M σ H _ _ e0 s gr q fun F1 items J M1 H1 e1 s1 j1 q1 => ?_
  obtain ⟨hlen, I, h0, step, done⟩ := q1
  intro D hD
  have hDF := s1.freeF hD
  have hDM := s1.freeM hD
  have hDP := s1.freeP hD
  refine ⟨fun i m H => m = items.length - i ∧ i ≤ items.length ∧ DcWT K F1 D I i H, ⟨items.length, by simp, Nat.zero_le _, ?_⟩, ?_⟩
  · refine ⟨F1, M1, [], [], FLe.refl _, s1.other hD, ⟨hDF, s1.freeD hD⟩, hDM, upd_same, .nil, (fun _ h => by cases h), Nat.le_refl _, h0⟩
  · rintro i m H2 ⟨rfl, hi2, F2, M2, acc, xs, e2, s2, dF, dM, hl, rl, kl, al, i2⟩
    have dP : F2.p D = none := by rw [e2.e]; exact hDP
    by_cases hlt : i < items.length
    · have hd : items[i]? = some items[i] := List.getElem?_eq_getElem hlt
      have sh := s2.hide dF.1 dM hl (fun _ z => by cases z) (fun u e => by rw [dF.2] at e; cases e)
      obtain ⟨go, y⟩ := (j1 i (F2.hide D (.dT xs)) M2 H2 (bj_hide e2 hDP) sh).2 _ hd
      refine .inr ⟨go, DcWT K F1 D I (i + 1), fun H' h => ⟨items.length - (i + 1), by omega, rfl, hlt, h⟩, fun x H3 yy => ?_⟩
      obtain ⟨F3, e3, s3, r3⟩ := y x H3 yy
      have b3 : Sm F2 F3 := e3.s
      have a3 : Bs F0 F3 := ⟨((e0.tr e1).tr e2).f.trans' b3, ((e0.tr e1).tr e2).p.trans (fun b o h => by rw [e3.e]; exact (upd_ne (ne_of_none h dP)).trans h)⟩
      have back : ∀ {F5 : FZ} {M5 : Mp} {H5 : Hp} (o : HO), FLe F3 F5 → SR K F5 M5 H5 → SR K ⟨F5.f, F2.p, F5.d⟩ M5 (upd H5 D o) ∧ H5 D = some (.dT xs) ∧ (F5.f D = none ∧ F5.d D = none) ∧ M5 D = none := fun {F5 M5 H5} o e5 s5 => by
        obtain ⟨w1, w2, w3, w4⟩ := s5.unhide (u := o) (o := .dT xs) (q := F2.p) (p := D) (by rw [e5.e, e3.e]; rfl) dP
        exact ⟨w1, w2, ⟨w3, s5.hidD (o := .dT xs) (by rw [e5.e, e3.e]; exact upd_same) (fun _ _ z => nomatch z)⟩, w4⟩
      have step' := step i _ acc M2 hd i2
      have r0 : KVR K F3 acc xs := rl.monoS b3
      have lt1 : xs.length < sizeLine := by rw [← kvr_len r0]; omega
      have main := hw x (wipe σ vs) H3 _ (hg F3 (dwipe γ vs) M2 (wipe σ vs) H3 _ x _ (fun σ2 H2 => tt σ2 H2 fun b H3 => if b = true then tk σ2 H3 fun y H4 => te σ2 H4 fun z H5 => ∃ H6, DPut H5 D y z H6 ∧ DcWT K F1 D I (i + 1) H6 else DcWT K F1 D I (i + 1) H3)
        a3 s3 (gr_wipe (gr.monoS ((e1.s.trans' e2.s).trans' b3)) vs) r3 step' fun F4 γ4 M4 σ4 H4 e4 s4 g4 q4 =>
        ht F4 γ4 M4 σ4 H4 _ _ (a3.tr e4) s4 g4 q4 fun F5 b M5 H5 e5 s5 q5 => by
          cases b with
          | false =>
            obtain ⟨z1, z2, z3, z4⟩ := back (.dT xs) (e4.trans e5) s5
            have eq : upd H5 D (.dT xs) = H5 := by
              funext b
              by_cases hb : b = D
              · subst hb; rw [upd_same, z2]
              · rw [upd_ne hb]
            rw [eq] at z1
            exact ⟨⟨F5.f, F2.p, F5.d⟩, M5, acc, xs, ⟨(e2.s.trans' b3).trans' (e4.trans e5).s, e2.e⟩, z1, z3, z4, z2, KVR.monoS (F := F3) (F' := ⟨F5.f, F2.p, F5.d⟩) (e4.trans e5).s r0, kl, Nat.le_succ_of_le al, q5⟩
          | true =>
            refine hkey F5 γ4 M5 σ4 H5 _ _ ((a3.tr e4).tr e5) s5 (g4.mono e5) q5 fun F7 d7 v7 M7 H7 e7 s7 r7 q7 => ?_
            obtain ⟨l, kk, rfl, hkk, q7⟩ := q7
            refine he F7 γ4 M7 σ4 H7 _ _ (((a3.tr e4).tr e5).tr e7) s7 (g4.mono (e5.trans e7)) q7 fun F6 d v M6 H6 e6 s6 r6 q6 => ?_
            have r8 := r7.mono e6
            cases r8 with
            | tup ha rl8 =>
              have hx := keysOf_rp rl8 hkk
              subst hx
              obtain ⟨z1, z2, z3, z4⟩ := back (.dT (putK xs kk v)) (((e4.trans e5).trans e7).trans e6) s6
              have l2 : (dput acc kk d).length ≤ acc.length + 1 := dput_len
              exact ⟨_, DPut.t (k := kk) z2 (s6.fz _ _ ha) lt1, ⟨F6.f, F2.p, F6.d⟩, M6, dput acc kk d, putK xs kk v, ⟨(e2.s.trans' b3).trans' (((e4.trans e5).trans e7).trans e6).s, e2.e⟩, z1, z3, z4, upd_same, kvr_put (Rp.monoS (F := F6) (F' := ⟨F6.f, F2.p, F6.d⟩) Sm.rfl' r6) (KVR.monoS (F := F3) (F' := ⟨F6.f, F2.p, F6.d⟩) (((e4.trans e5).trans e7).trans e6).s r0), putK_keys kl (by have := s6.lenT ha; rw [List.length_map] at this; exact this), by omega, q6⟩)
      rw [wipe_wipe] at main
      exact main
    · have e : i = items.length := by omega
      subst e
      refine .inl ⟨((j1 items.length F2 M2 H2 e2.bj s2).1 (Nat.le_refl _)), ?_⟩
      have hz : xs.length ≤ sizeLine := by rw [← kvr_len rl]; omega
      have s3 := s2.own (o := .dT acc) dF.1 (by rw [e2.e]; exact hDP) dF.2 hl (.dT rl hz kl)
      exact k F2 (.ref D) (.ref D) _ H2 (e1.trans e2) s3 (.ref D) (done acc M2 i2 D dM)
variable {kx vx tg iter : Expr} {ifs : List Expr} {scope : Scope} {own : List (Str × Nat)} {pos spos py : Pos} {wi : TI} {wi' : DTI} {g' : DTG} {tt' : DTT} {tk' te' : DTE}
theorem dx_setDcT (i : Nat) {y : Str} {n : Nat} (hr : Room n X.A) (hc : X.calm = true) (hN : X.N.Nodup) (hsw : swapsWith (.DictComp kx vx [⟨tg, iter, ifs, 0⟩] scope pos) (some (.Name y py)) spos.line X.env = pure true) (hi : DI X F0 tg iter wi wi') (ok : BlkOk X.N X.env.scope scope own) (hg : Blk X scope fun Y => DGx Y F0 (own.map (·.2)) tg g') (ht : Blk X scope fun Y => DTx Y F0 ifs tt') (hk : Blk X scope fun Y => DEx Y F0 kx tk') (he : Blk X scope fun Y => DEx Y F0 vx te')
    (hs : ∀ x, foldedSetIterable iter X.env x = pure x := by intro _; rfl) (hy : X.N[i]? = some y := by rfl) (hyl : X.env.scope.names.lookup y = some .local := by rfl) : DS X F0 (.Assign [.Name y py] (.DictComp kx vx [⟨tg, iter, ifs, 0⟩] scope pos) spos) (tAsg (tDcG (.dT []) wi (lfG X.K F0 (own.map (·.2)) g') (lfT X.K F0 tt') (lfE X.K F0 tk') (lfE X.K F0 te') (own.map (·.2))) (gName i)) (dAsg (dDcT wi' g' tt' tk' te' (own.map (·.2))) (hName i)) :=
  ⟨ps_setDcG (fun _ h hb => dt_empty h hb) (Nat.lt_of_le_of_lt (Nat.le_add_right _ _) hr.units) hc hN hy hyl hsw hi.pi ok (fun s H C cl fp => (hg s H C cl fp).pg) (fun s H C cl fp => (ht s H C cl fp).pt) (fun s H C cl fp => (hk s H C cl fp).pe) (fun s H C cl fp => (he s H C cl fp).pe) hs,
    ls_asg (le_dcT hi.le lg_lfG gw_lfG (le_lfT _) (le_lfE _) (le_lfE _)) (dg_name (X := X) (F0 := F0) (pos := pos) i hN hy (Or.inl hyl) (.inr hyl)).le⟩
end
end DL

set_option maxRecDepth 100000
set_option maxHeartbeats 2000000
namespace DL
open PySem PySem.Spec PyProof.Rows L2

def top (i : Nat) : Stmt := PySem.Challenge.pw_storelands_k10_whole_contents_drawn_toge.main.body.getD i (.Pass ⟨0, 0, 0, 0⟩)
abbrev s_Book___eq__ : Stmt := inClass (top 17) 1
abbrev s__law_draw : Stmt := top 26
abbrev s__law_order : Stmt := top 27
abbrev s__law_rising : Stmt := top 30
abbrev s__law_book : Stmt := top 29
abbrev s__law_are_tied : Stmt := top 32
abbrev s__law_due : Stmt := top 33
abbrev s_is_integer : Stmt := top 1
abbrev s_is_within : Stmt := top 2
abbrev s_is_index : Stmt := top 3
abbrev s_is_rising_pair : Stmt := top 4
abbrev s_check_tie : Stmt := top 22
abbrev s_tie_of : Stmt := top 19
abbrev s_are_rising_pairs : Stmt := top 5
abbrev s_beside_lists : Stmt := top 6
abbrev s_reached : Stmt := top 7
abbrev s_Book___init__ : Stmt := inClass (top 17) 0
abbrev s_drawn_together : Stmt := top 23
abbrev s__law_refused : Stmt := top 31
abbrev s_tied_of : Stmt := top 18
abbrev s_tied : Stmt := top 20
abbrev s_Book_size : Stmt := inClass (top 17) 2
abbrev s_Book_ties : Stmt := inClass (top 17) 3
abbrev s__law_right : Stmt := top 34
abbrev s__law_source : Stmt := top 25
abbrev s_each_tied : Stmt := top 21
abbrev s_law : Stmt := top 35
structure Bn (mg : Str → Option Value) : Prop where
  all : mg "all" = none
  any : mg "any" = none
  bool : mg "bool" = none
  int : mg "int" = none
  isinstance : mg "isinstance" = none
  len : mg "len" = none
  list : mg "list" = none
  max : mg "max" = none
  min : mg "min" = none
  range : mg "range" = none
  sorted : mg "sorted" = none
  tuple : mg "tuple" = none
structure Gs (mg : Str → Option Value) : Prop where
  MOST_CONTENTS : ∃ t, mg "MOST_CONTENTS" = some (.int 8 t)
  MOST_TIES : ∃ t, mg "MOST_TIES" = some (.int 28 t)
structure Exs (K : PySem.W.Frag) (E_LandsError E_NoContent E_NoNumber E_NoTie : Addr) : Prop where
  c_NoContent : ExcC K E_NoContent
  m_NoContent_LandsError : PySem.W.exmOne K (.ref E_NoContent) (.ref E_LandsError) = some true
  k_NoContent_LandsError : PySem.W.kitOne K (.ref E_NoContent) (.ref E_LandsError) = some true
  m_NoContent_NoTie : PySem.W.exmOne K (.ref E_NoContent) (.ref E_NoTie) = some false
  k_NoContent_NoTie : PySem.W.kitOne K (.ref E_NoContent) (.ref E_NoTie) = some false
  c_NoNumber : ExcC K E_NoNumber
  m_NoNumber_LandsError : PySem.W.exmOne K (.ref E_NoNumber) (.ref E_LandsError) = some true
  k_NoNumber_LandsError : PySem.W.kitOne K (.ref E_NoNumber) (.ref E_LandsError) = some true
  m_NoNumber_NoTie : PySem.W.exmOne K (.ref E_NoNumber) (.ref E_NoTie) = some false
  k_NoNumber_NoTie : PySem.W.kitOne K (.ref E_NoNumber) (.ref E_NoTie) = some false
  c_NoTie : ExcC K E_NoTie
  m_NoTie_LandsError : PySem.W.exmOne K (.ref E_NoTie) (.ref E_LandsError) = some true
  k_NoTie_LandsError : PySem.W.kitOne K (.ref E_NoTie) (.ref E_LandsError) = some true
  m_NoTie_NoTie : PySem.W.exmOne K (.ref E_NoTie) (.ref E_NoTie) = some true
  k_NoTie_NoTie : PySem.W.kitOne K (.ref E_NoTie) (.ref E_NoTie) = some true

theorem map_bl (b : Bool) : ∀ l : List D, l.map (fun _ => D.bl b) = (List.replicate l.length b).map .bl
  | [] => rfl
  | x :: l => by rw [List.map_cons, map_bl b l]; rfl
def prOk (n : Int) (p : Int × Int) : Prop := 0 ≤ p.1 ∧ p.1 < p.2 ∧ p.2 < n
def prLt (p q : Int × Int) : Prop := p.1 < q.1 ∨ (p.1 = q.1 ∧ p.2 < q.2)
/-- pushes, ties: right pairs, strictly ascending -/
structure PrsOk (n : Int) (ps : List (Int × Int)) : Prop where
  ok : ∀ p ∈ ps, prOk n p
  lt : ps.Pairwise prLt
theorem len_ok {n : Nat} (h : n ≤ 10000000) : n ≤ sizeLine := by rw [sizeLine_eq]; omega
theorem len_lt {n : Nat} (h : n ≤ 10000000) : n < sizeLine := by rw [sizeLine_eq]; omega
theorem atI_at {l : List D} {i : Int} {k : Nat} {d : D} (hi : i = (k : Int)) (h : l[k]? = some d) : atI l i = some d := by
  subst hi; exact atI_nat h
theorem get_pr {ps : List (Int × Int)} {k : Nat} {d : D} (h : (ps.map prD)[k]? = some d) : ∃ p, ps[k]? = some p ∧ d = prD p := by
  rw [List.getElem?_map] at h
  obtain ⟨p, hp, e⟩ := Option.map_eq_some_iff.mp h
  exact ⟨p, hp, e.symm⟩
theorem get_int {ps : List Int} {k : Nat} {d : D} (h : (ps.map D.int)[k]? = some d) : ∃ p, ps[k]? = some p ∧ d = .int p := by
  rw [List.getElem?_map] at h
  obtain ⟨p, hp, e⟩ := Option.map_eq_some_iff.mp h
  exact ⟨p, hp, e.symm⟩
theorem pw_next {α : Type} {r : α → α → Prop} {l : List α} (h : l.Pairwise r) {k : Nat} {p q : α} (hp : l[k]? = some p) (hq : l[k + 1]? = some q) : r p q := by
  obtain ⟨a, ha⟩ := List.getElem?_eq_some_iff.mp hp
  obtain ⟨b, hb⟩ := List.getElem?_eq_some_iff.mp hq
  rw [← ha, ← hb]
  exact List.pairwise_iff_getElem.mp h k (k + 1) a b (by omega)
/-! ### who is beside whom -/
def nbr (ps : List (Int × Int)) (i : Int) : List Int := ps.flatMap fun p => (if p.1 = i then [p.2] else []) ++ (if p.2 = i then [p.1] else [])
def rowsOf (n : Int) (ps : List (Int × Int)) : List (List Int) := (List.range n.toNat).map fun (i : Nat) => srt (nbr ps (i : Int))
def rowsD (n : Int) (ps : List (Int × Int)) : List D := (rowsOf n ps).map fun r => .tup (r.map .int)
theorem nbr_mem {ps : List (Int × Int)} {i j : Int} : j ∈ nbr ps i ↔ (i, j) ∈ ps ∨ (j, i) ∈ ps := by
  unfold nbr
  rw [List.mem_flatMap]
  constructor
  · rintro ⟨⟨a, b⟩, h, q⟩
    rcases List.mem_append.mp q with q | q
    · by_cases e : a = i
      · simp only [e, if_true, List.mem_singleton] at q
        subst q; subst e; exact .inl h
      · simp [e] at q
    · by_cases e : b = i
      · simp only [e, if_true, List.mem_singleton] at q
        subst q; subst e; exact .inr h
      · simp [e] at q
  · rintro (h | h)
    · exact ⟨_, h, by simp⟩
    · exact ⟨_, h, by simp⟩
theorem nbr_symm {ps : List (Int × Int)} {i j : Int} : j ∈ nbr ps i ↔ i ∈ nbr ps j := by rw [nbr_mem, nbr_mem]; exact Or.comm
theorem nbr_ok {n : Int} {ps : List (Int × Int)} (h : PrsOk n ps) {i j : Int} (hj : j ∈ nbr ps i) : 0 ≤ j ∧ j < n := by
  rcases nbr_mem.mp hj with z | z <;> have := h.ok _ z <;> unfold prOk at this <;> simp only at this <;> omega
theorem nbr_snoc {ps : List (Int × Int)} {a b i : Int} : nbr (ps ++ [(a, b)]) i = nbr ps i ++ ((if a = i then [b] else []) ++ (if b = i then [a] else [])) := by
  unfold nbr
  rw [List.flatMap_append]
  simp
theorem rowsOf_get {n : Int} {ps : List (Int × Int)} {i : Int} (h0 : 0 ≤ i) (h1 : i < n) : (rowsOf n ps)[i.toNat]? = some (srt (nbr ps i)) := by
  unfold rowsOf
  rw [List.getElem?_map, List.getElem?_range (by omega)]
  simp only [Option.map_some]
  rw [Int.toNat_of_nonneg h0]
theorem rowsD_get {n : Int} {ps : List (Int × Int)} {i : Int} (h0 : 0 ≤ i) (h1 : i < n) : atI (rowsD n ps) i = some (.tup ((srt (nbr ps i)).map .int)) := by
  refine atI_at (k := i.toNat) (by omega) ?_
  unfold rowsD
  rw [List.getElem?_map, rowsOf_get h0 h1]
  rfl
theorem nbr_len (ps : List (Int × Int)) (i : Int) : (nbr ps i).length ≤ 2 * ps.length := by
  induction ps with
  | nil => simp [nbr]
  | cons p ps ih =>
    have e : nbr (p :: ps) i = ((if p.1 = i then [p.2] else []) ++ (if p.2 = i then [p.1] else [])) ++ nbr ps i := by unfold nbr; rw [List.flatMap_cons]
    rw [e, List.length_append, List.length_append, List.length_cons]
    by_cases h1 : p.1 = i <;> by_cases h2 : p.2 = i <;> simp [h1, h2] <;> omega
theorem dForI_of {g : DTG} {tb : DTS} {D0 : DEnds} {γ : G} {items : List D} {M1 : Mp} (I : Nat → G → Mp → Prop) (h0 : I 0 γ M1) (step : ∀ i d γ M, items[i]? = some d → I i γ M → g d γ M fun γ1 M1 => tb { D0 with nx := I (i + 1), ct := I (i + 1), bk := D0.nx } γ1 M1)
    (done : ∀ γ M, I items.length γ M → D0.nx γ M) : dForI g tb D0 γ items M1 := ⟨I, h0, step, done⟩
theorem dLcI_idx {g : DTG} {te : DTE} {vs : List Nat} {γ : G} {items : List D} {M : Mp} {Q : DK} (f : Nat → D) (h : ∀ (i : Nat) (d : D), items[i]? = some d → ∀ Q2 : DK, Q2 (f i) M → g d (dwipe γ vs) M fun γ2 M2 => te γ2 M2 Q2) (q : Q (.lst ((List.range items.length).map f)) M) : dLcI g dYes te vs γ items M Q := by
  refine ⟨fun i acc M' => M' = M ∧ acc = (List.range i).map f, ⟨rfl, rfl⟩, ?_, ?_⟩
  · rintro i d acc M' hd ⟨rfl, rfl⟩
    refine h i d hd _ ⟨rfl, ?_⟩
    rw [List.range_succ, List.map_append]
    rfl
  · rintro acc M' ⟨rfl, rfl⟩
    exact q
theorem rows_upd {n : Nat} {f g : Nat → List D} {k : Nat} (hg : ∀ j, j ≠ k → g j = f j) : ((List.range n).map f).set k (g k) = (List.range n).map g := by
  apply List.ext_getElem?
  intro j
  rw [List.getElem?_set]
  by_cases e : k = j
  · subst e
    rw [List.length_map, List.length_range]
    by_cases hk : k < n
    · simp [hk]
    · simp [hk]
  · rw [if_neg e, List.getElem?_map, List.getElem?_map]
    by_cases hk : j < n
    · rw [List.getElem?_range hk]
      simp [hg j fun z => e z.symm]
    · rw [List.getElem?_eq_none (by simpa using hk)]; rfl
/-- one entry more in the rows -/
theorem RowsAt.push {M : Mp} {as : List Addr} {n : Nat} {f g : Nat → List D} {k : Nat} {d : D} (h : RowsAt M as ((List.range n).map f)) (hk : k < n) (hg : ∀ j, g j = if j = k then f j ++ [d] else f j) :
    ∃ a, as[k]? = some a ∧ M a = some (.lst (f k)) ∧ RowsAt (mset M a (.lst (f k ++ [d]))) as ((List.range n).map g) := by
  obtain ⟨a, h1, h2⟩ := h.get (k := k) (r := f k) (by rw [List.getElem?_map, List.getElem?_range hk]; rfl)
  refine ⟨a, h1, h2, ?_⟩
  have e := h.set h1 (f k ++ [d])
  have e2 : f k ++ [d] = g k := by rw [hg, if_pos rfl]
  rw [e2, rows_upd fun j hj => by rw [hg, if_neg hj]] at e
  rw [e2]
  exact e
theorem ref_at {as : List Addr} {k : Nat} {a : Addr} {i : Int} (hi : i = (k : Int)) (h : as[k]? = some a) : atI (as.map D.ref) i = some (.ref a) := atI_at hi (by rw [List.getElem?_map, h]; rfl)
theorem take_succ_of {α : Type} {l : List α} {i : Nat} {p : α} (h : l[i]? = some p) : l.take (i + 1) = l.take i ++ [p] := by
  rw [List.take_add_one, h]; rfl
def rowsI (n : Int) (ps : List (Int × Int)) : List (List D) := (List.range n.toNat).map fun (j : Nat) => (nbr ps (j : Int)).map .int
theorem rowsI_nil (n : Int) : rowsI n [] = List.replicate n.toNat [] := by
  apply List.ext_getElem?
  intro j
  simp only [rowsI, nbr, List.flatMap_nil, List.map_nil, List.getElem?_map, List.getElem?_replicate]
  by_cases hj : j < n.toNat
  · rw [List.getElem?_range hj, if_pos hj]; rfl
  · rw [List.getElem?_eq_none (by simpa using hj), if_neg hj]; rfl
theorem rowsI_at {M : Mp} {as : List Addr} {n : Int} {ps : List (Int × Int)} {i : Int} (R : RowsAt M as (rowsI n ps)) (h0 : 0 ≤ i) (h1 : i < n) : ∃ x, x ∈ as ∧ atI (as.map D.ref) i = some (.ref x) ∧ M x = some (.lst ((nbr ps i).map .int)) := by
  obtain ⟨x, hx, mx⟩ := R.get (k := i.toNat) (r := (nbr ps i).map .int) (by
    rw [rowsI, List.getElem?_map, List.getElem?_range (by omega)]
    simp only [Option.map_some]
    rw [Int.toNat_of_nonneg h0])
  exact ⟨x, List.mem_of_getElem? hx, ref_at (by omega) hx, mx⟩
/-- one pair more in the rows -/
theorem rows_step {M : Mp} {as : List Addr} {n : Int} {ps : List (Int × Int)} {i : Nat} {a b : Int} (hok : ∀ p ∈ ps, prOk n p) (hz : ps.length ≤ 1000000) (hp : ps[i]? = some (a, b)) (R : RowsAt M as (rowsI n (ps.take i))) :
    ∃ x y lx ly, x ∈ as ∧ y ∈ as ∧ atI (as.map D.ref) a = some (.ref x) ∧ M x = some (.lst lx) ∧ lx.length < sizeLine ∧ atI (as.map D.ref) b = some (.ref y) ∧ mset M x (.lst (lx ++ [.int b])) y = some (.lst ly) ∧ ly.length < sizeLine ∧ RowsAt (mset (mset M x (.lst (lx ++ [.int b]))) y (.lst (ly ++ [.int a]))) as (rowsI n (ps.take (i + 1))) := by
  obtain ⟨k1, k2, k3⟩ := hok _ (List.mem_of_getElem? hp)
  simp only at k1 k2 k3
  have hi := (List.getElem?_eq_some_iff.mp hp).1
  have tl : (ps.take i).length ≤ ps.length := by rw [List.length_take]; omega
  obtain ⟨x, hx, mx, R3⟩ := RowsAt.push R (k := a.toNat) (d := .int b) (g := fun (j : Nat) => (nbr (ps.take i) (j : Int) ++ (if (j : Int) = a then [b] else [])).map .int) (by omega) (fun j => by
    by_cases e : j = a.toNat
    · have e2 : (j : Int) = a := by omega
      simp [e, e2, show ((a.toNat : Nat) : Int) = a by omega]
    · have e2 : ¬ (j : Int) = a := by omega
      simp [e, e2])
  have l1 := nbr_len (ps.take i) (a.toNat : Nat)
  obtain ⟨y, hy, my, R4⟩ := R3.push (k := b.toNat) (d := .int a) (g := fun (j : Nat) => (nbr (ps.take (i + 1)) (j : Int)).map .int) (by omega) (fun j => by
    rw [take_succ_of hp, nbr_snoc]
    by_cases e : j = b.toNat
    · have e2 : (j : Int) = b := by omega
      simp [e, show ((b.toNat : Nat) : Int) = b by omega, show ¬ b = a by omega, show ¬ a = b by omega]
    · have e2 : ¬ b = (j : Int) := by omega
      by_cases e3 : (j : Int) = a
      · simp [e, e3, show ¬ b = a by omega, show ¬ a.toNat = b.toNat by omega]
      · have e4 : ¬ a = (j : Int) := by omega
        simp [e, e2, e3, e4])
  have l2 := nbr_len (ps.take i) (b.toNat : Nat)
  have e5 : ¬ ((b.toNat : Nat) : Int) = a := by omega
  exact ⟨x, y, _, _, List.mem_of_getElem? hx, List.mem_of_getElem? hy, ref_at (by omega) hx, mx, len_lt (by rw [List.length_map]; omega), ref_at (by omega) hy, my, len_lt (by rw [List.length_map, if_neg e5, List.append_nil]; omega), R4⟩
/-! ### the dice -/
def diceL (r : Int) (ns : List Int) (a m c : Int) : List (Key × D) := [(.inr "rest", .int r), (.inr "cells", .lst (ns.map .int)), (.inr "at", .int a), (.inr "mixed", .int m), (.inr "count", .int c)]
theorem kne : (¬ (Sum.inr "rest" : Key) = .inr "cells") ∧ (¬ (Sum.inr "rest" : Key) = .inr "at") ∧ (¬ (Sum.inr "rest" : Key) = .inr "mixed") ∧ (¬ (Sum.inr "rest" : Key) = .inr "count") ∧ (¬ (Sum.inr "cells" : Key) = .inr "rest") ∧ (¬ (Sum.inr "cells" : Key) = .inr "at") ∧ (¬ (Sum.inr "cells" : Key) = .inr "mixed") ∧ (¬ (Sum.inr "cells" : Key) = .inr "count") ∧ (¬ (Sum.inr "at" : Key) = .inr "rest") ∧ (¬ (Sum.inr "at" : Key) = .inr "cells") ∧ (¬ (Sum.inr "at" : Key) = .inr "mixed") ∧ (¬ (Sum.inr "at" : Key) = .inr "count") ∧ (¬ (Sum.inr "mixed" : Key) = .inr "rest") ∧ (¬ (Sum.inr "mixed" : Key) = .inr "cells") ∧ (¬ (Sum.inr "mixed" : Key) = .inr "at") ∧ (¬ (Sum.inr "mixed" : Key) = .inr "count") ∧ (¬ (Sum.inr "count" : Key) = .inr "rest") ∧ (¬ (Sum.inr "count" : Key) = .inr "cells") ∧ (¬ (Sum.inr "count" : Key) = .inr "at") ∧ (¬ (Sum.inr "count" : Key) = .inr "mixed") := by decide +kernel
section
variable {r : Int} {ns : List Int} {a m c x : Int}
theorem dv_rest : dval (diceL r ns a m c) (.inr "rest") = some (.int r) := by simp only [diceL, dval_cons, kne, if_true, if_false]
theorem dv_cells : dval (diceL r ns a m c) (.inr "cells") = some (.lst (ns.map .int)) := by simp only [diceL, dval_cons, kne, if_true, if_false]
theorem dv_at : dval (diceL r ns a m c) (.inr "at") = some (.int a) := by simp only [diceL, dval_cons, kne, if_true, if_false]
theorem dv_mixed : dval (diceL r ns a m c) (.inr "mixed") = some (.int m) := by simp only [diceL, dval_cons, kne, if_true, if_false]
theorem dv_count : dval (diceL r ns a m c) (.inr "count") = some (.int c) := by simp only [diceL, dval_cons, kne, if_true, if_false]
theorem dp_rest : dput (diceL r ns a m c) (.inr "rest") (.int x) = diceL x ns a m c := by unfold dput; rw [dv_rest]; simp only [diceL, List.map_cons, List.map_nil, kne, if_true, if_false, Option.isSome_some]
theorem dp_at : dput (diceL r ns a m c) (.inr "at") (.int x) = diceL r ns x m c := by unfold dput; rw [dv_at]; simp only [diceL, List.map_cons, List.map_nil, kne, if_true, if_false, Option.isSome_some]
theorem dp_mixed : dput (diceL r ns a m c) (.inr "mixed") (.int x) = diceL r ns a x c := by unfold dput; rw [dv_mixed]; simp only [diceL, List.map_cons, List.map_nil, kne, if_true, if_false, Option.isSome_some]
theorem dp_count : dput (diceL r ns a m c) (.inr "count") (.int x) = diceL r ns a m x := by unfold dput; rw [dv_count]; simp only [diceL, List.map_cons, List.map_nil, kne, if_true, if_false, Option.isSome_some]
variable {M : Mp} {p : Addr}
theorem ix_dK {kvs : List (Key × D)} {k : Str} (h : M p = some (.dK kvs)) : dIxV M (.ref p) (.str k) = dval kvs (.inr k) := by
  simp only [dIxV, h, dLook, keyOf, Option.map_some, Option.bind_some, id]
theorem lk_dK {kvs : List (Key × D)} {k : Str} (h : M p = some (.dK kvs)) : dLook M p (.str k) = some (dval kvs (.inr k)) := by
  simp only [h, dLook, keyOf, Option.map_some]
theorem st_dK {kvs : List (Key × D)} {k : Str} {d : D} (h : M p = some (.dK kvs)) (hl : kvs.length ≤ 1000) : dStore M p (.str k) d = some (mset M p (.dK (dput kvs (.inr k) d))) := by
  simp only [h, dStore, keyOf, Option.bind_some]
  rw [if_pos (len_lt (by omega))]
theorem ix_rest (h : M p = some (.dK (diceL r ns a m c))) : dIxV M (.ref p) (.str "rest") = some (.int r) := by rw [ix_dK h, dv_rest]
theorem ix_cells (h : M p = some (.dK (diceL r ns a m c))) : dIxV M (.ref p) (.str "cells") = some (.lst (ns.map .int)) := by rw [ix_dK h, dv_cells]
theorem ix_at (h : M p = some (.dK (diceL r ns a m c))) : dIxV M (.ref p) (.str "at") = some (.int a) := by rw [ix_dK h, dv_at]
theorem ix_mixed (h : M p = some (.dK (diceL r ns a m c))) : dIxV M (.ref p) (.str "mixed") = some (.int m) := by rw [ix_dK h, dv_mixed]
theorem ix_count (h : M p = some (.dK (diceL r ns a m c))) : dIxV M (.ref p) (.str "count") = some (.int c) := by rw [ix_dK h, dv_count]
theorem lk_at (h : M p = some (.dK (diceL r ns a m c))) : dLook M p (.str "at") = some (some (.int a)) := by rw [lk_dK h, dv_at]
theorem lk_count (h : M p = some (.dK (diceL r ns a m c))) : dLook M p (.str "count") = some (some (.int c)) := by rw [lk_dK h, dv_count]
theorem st_rest (h : M p = some (.dK (diceL r ns a m c))) : dStore M p (.str "rest") (.int x) = some (mset M p (.dK (diceL x ns a m c))) := by rw [st_dK h (by simp [diceL]), dp_rest]
theorem st_at (h : M p = some (.dK (diceL r ns a m c))) : dStore M p (.str "at") (.int x) = some (mset M p (.dK (diceL r ns x m c))) := by rw [st_dK h (by simp [diceL]), dp_at]
theorem st_mixed (h : M p = some (.dK (diceL r ns a m c))) : dStore M p (.str "mixed") (.int x) = some (mset M p (.dK (diceL r ns a x c))) := by rw [st_dK h (by simp [diceL]), dp_mixed]
theorem st_count (h : M p = some (.dK (diceL r ns a m c))) : dStore M p (.str "count") (.int x) = some (mset M p (.dK (diceL r ns a m x))) := by rw [st_dK h (by simp [diceL]), dp_count]
end
structure DiceAt (M : Mp) (p : Addr) : Prop where
  ex : ∃ (r : Int) (ns : List Int) (a m c : Int), M p = some (.dK (diceL r ns a m c)) ∧ 0 ≤ r ∧ 0 ≤ a
theorem dSeq_gen {t u : DTS} {D0 : DEnds} {γ : G} {M : Mp} (P : G → Mp → Prop) (h2 : ∀ γ' M', P γ' M' → u D0 γ' M') (h1 : ∀ nx : G → Mp → Prop, (∀ γ' M', P γ' M' → nx γ' M') → t { D0 with nx := nx } γ M) : dSeq t u D0 γ M := h1 (u D0) h2
theorem cmulR {i j : Int} (h : j.natAbs ≤ 1000000000000) : CMul i j := .inr (by omega)
theorem cmulL {i j : Int} (h : i.natAbs ≤ 1000000000000) : CMul i j := .inl (by omega)
/-- all but a few are as they were -/
def Agree (M M' : Mp) (S : List Addr) : Prop := ∀ q, q ∉ S → M' q = M q
theorem Agree.refl (M : Mp) (S : List Addr) : Agree M M S := fun _ _ => rfl
theorem Agree.trans {M M1 M2 : Mp} {S : List Addr} (a : Agree M M1 S) (b : Agree M1 M2 S) : Agree M M2 S := fun q h => (b q h).trans (a q h)
theorem Agree.mset {M : Mp} {S : List Addr} {p : Addr} {o : MO} (h : p ∈ S) : Agree M (mset M p o) S := fun q hq => mset_ne fun e => hq (e ▸ h)
theorem Agree.at {M M' : Mp} {S : List Addr} (h : Agree M M' S) {q : Addr} (hq : q ∉ S) : M' q = M q := h q hq
theorem DiceAt.keep {M M' : Mp} {S : List Addr} {p : Addr} (h : DiceAt M p) (a : Agree M M' S) (hp : p ∉ S) : DiceAt M' p := ⟨by rw [a p hp]; exact h.ex⟩
/-- what was there is there -/
def Ext (M M' : Mp) (S : List Addr) : Prop := ∀ q o, q ∉ S → M q = some o → M' q = some o
theorem Ext.refl (M : Mp) (S : List Addr) : Ext M M S := fun _ _ _ h => h
theorem Ext.trans {M M1 M2 : Mp} {S : List Addr} (a : Ext M M1 S) (b : Ext M1 M2 S) : Ext M M2 S := fun q o h e => b q o h (a q o h e)
theorem Agree.ext {M M' : Mp} {S : List Addr} (a : Agree M M' S) : Ext M M' S := fun q o h e => (a q h).trans e
theorem Ext.mset {M M' : Mp} {S : List Addr} {l : Addr} {o : MO} (a : Ext M M' S) (h : M l = none) : Ext M (mset M' l o) S := fun q u hq e => by
  rw [mset_ne fun z => ?_]
  · exact a q u hq e
  · rw [z, h] at e; cases e
theorem Ext.mdel {M M' : Mp} {S : List Addr} {l : Addr} (a : Ext M M' S) (h : M l = none) : Ext M (mdel M' l) S := fun q u hq e => by
  rw [mdel_ne fun z => ?_]
  · exact a q u hq e
  · rw [z, h] at e; cases e
theorem Ext.fresh {M M' : Mp} {S : List Addr} {l : Addr} (a : Ext M M' S) (hs : l ∉ S) (h : M' l = none) : M l = none := by
  cases e : M l with
  | none => rfl
  | some o => rw [a l o hs e] at h; cases h
theorem Ext.cut {M M' : Mp} {p : Addr} (a : Ext M M' [p]) : ∃ M2, MLe M2 M' ∧ Agree M M2 [p] ∧ M2 p = M' p := by
  refine ⟨fun q => if q = p then M' q else M q, fun q o h => ?_, fun q h => ?_, if_pos rfl⟩
  · by_cases e : q = p
    · simp only [e, if_true] at h ⊢; exact h
    · simp only [if_neg e] at h; exact a q o (by simpa using e) h
  · have e : q ≠ p := by simpa using h
    simp only [if_neg e]
theorem DiceAt.ne {M : Mp} {p l : Addr} {x : List D} (h : DiceAt M p) (hl : M l = some (.lst x)) : l ≠ p := fun e => by
  obtain ⟨r, ns, a, m, c, hp, _⟩ := h.ex
  rw [e, hp] at hl; cases hl
theorem DiceAt.some {M : Mp} {p l : Addr} (h : DiceAt M p) (hl : M l = none) : l ≠ p := fun e => by
  obtain ⟨r, ns, a, m, c, hp, _⟩ := h.ex
  rw [e, hp] at hl; cases hl
theorem DiceAt.mset {M : Mp} {p l : Addr} {o : MO} (h : DiceAt M p) (hl : l ≠ p) : DiceAt (mset M l o) p := ⟨by rw [mset_ne (Ne.symm hl)]; exact h.ex⟩
theorem DiceAt.mdel {M : Mp} {p l : Addr} (h : DiceAt M p) (hl : l ≠ p) : DiceAt (mdel M l) p := ⟨by rw [mdel_ne (Ne.symm hl)]; exact h.ex⟩
/-- a list of right pairs under way -/
structure WSt (M : Mp) (p : Addr) (n : Int) (b : Nat) (M' : Mp) (l : Addr) (ps : List (Int × Int)) : Prop where
  dice : DiceAt M' p
  ext : Ext M M' [p]
  fr : M l = none
  lst : M' l = some (.lst (ps.map prD))
  ok : ∀ q ∈ ps, prOk n q
  len : ps.length ≤ b
theorem WSt.new {M : Mp} {p : Addr} {n : Int} {b : Nat} {M' : Mp} {l' : Addr} {ps' : List (Int × Int)} (hd : DiceAt M' p) (he : Ext M M' [p]) (hl : M' l' = none) (ok : ∀ q ∈ ps', prOk n q) (len : ps'.length ≤ b) : WSt M p n b (mset M' l' (.lst (ps'.map prD))) l' ps' :=
  have ne : l' ≠ p := hd.some hl
  have fr : M l' = none := he.fresh (by simpa using ne) hl
  ⟨hd.mset ne, he.mset fr, fr, mset_same, ok, len⟩
theorem dSeq_then {t u : DTS} {D0 : DEnds} {γ : G} {M : Mp} (P : G → Mp → Prop) (h1 : ∀ nx : G → Mp → Prop, (∀ γ' M', P γ' M' → nx γ' M') → t { D0 with nx := nx } γ M) (h2 : ∀ γ' M', P γ' M' → u D0 γ' M') : dSeq t u D0 γ M := h1 (u D0) h2
/-! ### dicts of pairs -/
def kvP (p : Int × Int) : List Key × D := ([.inl p.1, .inl p.2], .bl true)
theorem keyP_inj {p q : Int × Int} : ([.inl p.1, .inl p.2] : List Key) = [.inl q.1, .inl q.2] ↔ p = q := by
  constructor
  · intro h
    injection h with h1 h2
    injection h2 with h2 _
    injection h1 with h1
    injection h2 with h2
    exact Prod.ext h1 h2
  · rintro rfl; rfl
theorem dval_kvP {ks : List (Int × Int)} {p : Int × Int} : dval (ks.map kvP) [.inl p.1, .inl p.2] = if p ∈ ks then some (.bl true) else none := by
  induction ks with
  | nil => rfl
  | cons q ks ih =>
    rw [List.map_cons]
    show dval (([.inl q.1, .inl q.2], D.bl true) :: ks.map kvP) _ = _
    rw [dval_cons, ih]
    by_cases e : q = p
    · subst e; simp
    · rw [if_neg (fun z => e (keyP_inj.mp z))]
      have e2 : ¬ p = q := fun z => e z.symm
      simp [e2]
theorem dput_kvP {ks : List (Int × Int)} {p : Int × Int} : dput (ks.map kvP) [.inl p.1, .inl p.2] (.bl true) = (if p ∈ ks then ks else ks ++ [p]).map kvP := by
  unfold dput
  rw [dval_kvP]
  by_cases h : p ∈ ks
  · simp only [if_pos h, Option.isSome_some, if_true]
    rw [List.map_map]
    apply List.map_congr_left
    intro q hq
    show (if (kvP q).1 = _ then ((kvP q).1, D.bl true) else kvP q) = kvP q
    split <;> rfl
  · simp only [if_neg h, Option.isSome_none, Bool.false_eq_true, if_false]
    rw [List.map_append]; rfl
theorem items_kvP (ks : List (Int × Int)) : (ks.map kvP).map (fun kv => D.tup (kv.1.map keyD)) = ks.map prD := by rw [List.map_map]; rfl
theorem srtd_lt {qs : List (Int × Int)} (h : SrtO.Srtd SrtO.lexB qs) (nd : qs.Nodup) : qs.Pairwise prLt := by
  have h' : qs.Pairwise fun a b => SrtO.lexB b a = false := h
  refine (h'.and nd).imp ?_
  rintro ⟨a, b⟩ ⟨c, d⟩ ⟨h1, h2⟩
  rw [SrtO.lexB_no] at h1
  unfold prLt
  simp only at h1 ⊢
  by_cases e : a = c
  · subst e
    by_cases e2 : b = d
    · subst e2; exact absurd rfl h2
    · omega
  · omega
/-! ### webs -/
structure Cl_TW (K : PySem.W.Frag) (mg : Str → Option Value) (C : Addr) : Prop where
  cl : Cls K C
  n_kept_size : NoAttr K C "kept_size"
  n_kept_pushes : NoAttr K C "kept_pushes"
  n_kept_facts : NoAttr K C "kept_facts"
def webF (n : Int) (ps : List (Int × Int)) (d : Addr) : List (Str × D) := [("kept_size", .int n), ("kept_pushes", .tup (ps.map prD)), ("kept_facts", .ref d)]
structure WebOk (n : Int) (ps : List (Int × Int)) : Prop where
  lo : 1 ≤ n
  hi : n ≤ 10000
  pr : PrsOk n ps
  len : ps.length ≤ 100000
structure WebAt (C : Addr) (M : Mp) (p : Addr) (n : Int) (ps : List (Int × Int)) (d : Addr) : Prop where
  ob : M p = some (.ins C (webF n ps d))
  fc : ∃ kvs, M d = some (.dK kvs) ∧ (kvs = [] ∨ kvs = [(.inr "beside", .lst (rowsD n ps))])
  ok : WebOk n ps
theorem WebAt.ne {C : Addr} {M : Mp} {p : Addr} {n : Int} {ps : List (Int × Int)} {d : Addr} (h : WebAt C M p n ps d) : p ≠ d := fun e => by
  obtain ⟨kvs, h1, _⟩ := h.fc
  have := h.ob
  rw [e, h1] at this
  cases this
theorem WebAt.keep {C : Addr} {M M' : Mp} {S : List Addr} {p : Addr} {n : Int} {ps : List (Int × Int)} {d : Addr} (h : WebAt C M p n ps d) (a : Agree M M' S) (hp : p ∉ S) (hd : d ∉ S) : WebAt C M' p n ps d :=
  ⟨by rw [a p hp]; exact h.ob, by rw [a d hd]; exact h.fc, h.ok⟩
theorem mdel_mset {M : Mp} {l : Addr} {o : MO} (h : M l = none) : mdel (mset M l o) l = M := by
  funext q
  by_cases e : q = l
  · rw [e, mdel_same, h]
  · rw [mdel_ne e, mset_ne e]
theorem sum_ind {n : Nat} (a : Int) (h0 : 0 ≤ a) (h1 : a < n) : ((List.range n).map fun (j : Nat) => if a = (j : Int) then 1 else 0).sum = 1 := by
  induction n with
  | zero => omega
  | succ n ih =>
    rw [List.range_succ, List.map_append, List.sum_append]
    by_cases e : a = (n : Int)
    · have z : ∀ m : Nat, m ≤ n → ((List.range m).map fun (j : Nat) => if a = (j : Int) then 1 else 0).sum = 0 := by
        intro m
        induction m with
        | zero => intro _; rfl
        | succ m ihm =>
          intro hm
          rw [List.range_succ, List.map_append, List.sum_append, ihm (by omega)]
          simp [show ¬ a = (m : Int) by omega]
      rw [z n (Nat.le_refl _)]
      simp [e]
    · rw [ih (by omega)]
      simp [e]
theorem sum_add3 {n : Nat} (f g h : Nat → Nat) : ((List.range n).map fun j => f j + g j + h j).sum = ((List.range n).map f).sum + ((List.range n).map g).sum + ((List.range n).map h).sum := by
  induction n with
  | zero => rfl
  | succ n ih =>
    simp only [List.range_succ, List.map_append, List.sum_append, ih, List.map_cons, List.map_nil, List.sum_cons, List.sum_nil]
    omega
theorem nbr_sum {n : Int} : ∀ {ps : List (Int × Int)}, (∀ p ∈ ps, prOk n p) → ((List.range n.toNat).map fun (j : Nat) => (nbr ps (j : Int)).length).sum = 2 * ps.length
  | [], _ => by
    have : ∀ m : Nat, ((List.range m).map fun (j : Nat) => (nbr [] (j : Int)).length).sum = 0 := by
      intro m
      induction m with
      | zero => rfl
      | succ m ih => rw [List.range_succ, List.map_append, List.sum_append, ih]; rfl
    rw [this]; rfl
  | p :: ps, h => by
    have ih := nbr_sum (n := n) (ps := ps) fun q hq => h q (List.mem_cons_of_mem _ hq)
    obtain ⟨h1, h2, h3⟩ := h p List.mem_cons_self
    have e : (fun (j : Nat) => (nbr (p :: ps) (j : Int)).length) = fun (j : Nat) => (if p.1 = (j : Int) then 1 else 0) + (if p.2 = (j : Int) then 1 else 0) + (nbr ps (j : Int)).length := by
      funext j
      have z : nbr (p :: ps) (j : Int) = ((if p.1 = (j : Int) then [p.2] else []) ++ (if p.2 = (j : Int) then [p.1] else [])) ++ nbr ps (j : Int) := by unfold nbr; rw [List.flatMap_cons]
      rw [z, List.length_append, List.length_append]
      by_cases a : p.1 = (j : Int) <;> by_cases b : p.2 = (j : Int) <;> simp [a, b]
    rw [e, sum_add3, ih, sum_ind p.1 h1 (by omega), sum_ind p.2 (by omega) (by omega), List.length_cons]
    omega
theorem fne : (¬ ("kept_size" : Str) = "kept_pushes") ∧ (¬ ("kept_size" : Str) = "kept_facts") ∧ (¬ ("kept_pushes" : Str) = "kept_facts") := by decide +kernel
theorem fld_size (n : Int) (ps : List (Int × Int)) (d : Addr) : (webF n ps d).lookup ("kept_size" : Str) = some (.int n) := rfl
theorem fld_pushes (n : Int) (ps : List (Int × Int)) (d : Addr) : (webF n ps d).lookup ("kept_pushes" : Str) = some (.tup (ps.map prD)) := rfl
theorem fld_facts (n : Int) (ps : List (Int × Int)) (d : Addr) : (webF n ps d).lookup ("kept_facts" : Str) = some (.ref d) := rfl
theorem Agree.new2 {M M2 : Mp} {b d : Addr} (hb : M b = none) (hd : M d = none) (ag : Agree M M2 [b, d]) : Ext M M2 [] := fun q o _ hq => by
  rw [ag q ?_]
  · exact hq
  · simp only [List.mem_cons, List.not_mem_nil, or_false, not_or]
    exact ⟨fun z => by (rw [z, hb] at hq; cases hq), fun z => by (rw [z, hd] at hq; cases hq)⟩
theorem Agree.newM {M M2 : Mp} {b d : Addr} {o : MO} (hb : M b = none) (hd : DL.mset M b o d = none) (ag : Agree (DL.mset M b o) M2 [b, d]) : Ext M M2 [] := by
  have nd : d ≠ b := fun e => by rw [e, mset_same] at hd; cases hd
  rw [mset_ne nd] at hd
  exact Agree.new2 hb hd ((Agree.mset (by simp)).trans ag)
theorem cut_take {α : Type} {xs : List α} {a : Int} (h : 0 ≤ a) : cutD xs none (some a) = xs.take a.toNat := by
  have h1 : HT.sIx xs.length 0 none = 0 := rfl
  have h2 : HT.sIx xs.length xs.length (some a) = min a.toNat xs.length := if_neg (by omega)
  unfold cutD
  rw [h1, h2, List.drop_zero, Nat.sub_zero]
  by_cases e : a.toNat ≤ xs.length
  · rw [Nat.min_eq_left e]
  · rw [Nat.min_eq_right (by omega), List.take_length, List.take_of_length_le (by omega)]
theorem mrest {M M' : Mp} {p : Addr} (h : Agree M M' [p]) {q : Addr} (hq : q ≠ p) : M' q = M q := h q (by simpa using hq)

/-! ### reaching -/
theorem snoc_cases {α : Type} (l : List α) : l = [] ∨ ∃ m a, l = m ++ [a] := by
  rcases List.eq_nil_or_concat l with h | ⟨m, a, h⟩
  · exact .inl h
  · exact .inr ⟨m, a, by rw [h, List.concat_eq_append]⟩
def Wk (ps : List (Int × Int)) (S : List Int) (s : Int) : Nat → Int → Prop
  | 0, x => x = s
  | t + 1, y => ∃ x, Wk ps S s t x ∧ y ∈ nbr ps x ∧ y ∈ S
def Rch (ps : List (Int × Int)) (S : List Int) (s x : Int) : Prop := ∃ t, Wk ps S s t x
def Dst (ps : List (Int × Int)) (S : List Int) (s : Int) (t : Nat) (x : Int) : Prop := Wk ps S s t x ∧ ∀ j, j < t → ¬ Wk ps S s j x
section
variable {ps : List (Int × Int)} {S : List Int} {s x y : Int} {t : Nat}
theorem Rch.refl : Rch ps S s s := ⟨0, rfl⟩
theorem Rch.step (h : Rch ps S s x) (hy : y ∈ nbr ps x) (hS : y ∈ S) : Rch ps S s y := let ⟨t, h⟩ := h; ⟨t + 1, x, h, hy, hS⟩
theorem Wk.mem : ∀ {t : Nat} {x : Int}, s ∈ S → Wk ps S s t x → x ∈ S
  | 0, _, h, e => by rw [show _ = s from e]; exact h
  | _ + 1, _, _, ⟨_, _, _, h⟩ => h
theorem Rch.mem (hs : s ∈ S) (h : Rch ps S s x) : x ∈ S := let ⟨_, h⟩ := h; Wk.mem hs h
theorem Wk.trans {a b c : Int} : ∀ {t j : Nat} {c : Int}, Wk ps S a t b → Wk ps S b j c → Rch ps S a c
  | _, 0, _, h, e => by rw [show _ = b from e]; exact ⟨_, h⟩
  | _, _ + 1, _, h, ⟨_, h1, h2, h3⟩ => (Wk.trans (c := c) h h1).step h2 h3
theorem Rch.trans {a b c : Int} (h : Rch ps S a b) (g : Rch ps S b c) : Rch ps S a c := let ⟨_, h⟩ := h; let ⟨_, g⟩ := g; Wk.trans (c := c) h g
theorem Wk.symm : ∀ {t : Nat} {x : Int}, s ∈ S → Wk ps S s t x → Rch ps S x s
  | 0, _, _, e => by rw [show _ = s from e]; exact .refl
  | _ + 1, _, hs, ⟨_, h1, h2, h3⟩ => ((Rch.refl).step (nbr_symm.mp h2) (Wk.mem hs h1)).trans (Wk.symm hs h1)
theorem Rch.symm (hs : s ∈ S) (h : Rch ps S s x) : Rch ps S x s := let ⟨_, h⟩ := h; Wk.symm hs h
theorem Rch.congr {S' : List Int} (h : ∀ x, x ∈ S → x ∈ S') : Rch ps S s x → Rch ps S' s x := by
  rintro ⟨t, ht⟩
  induction t generalizing x with
  | zero => exact ⟨0, ht⟩
  | succ t ih =>
    obtain ⟨z, h1, h2, h3⟩ := ht
    exact (ih h1).step h2 (h _ h3)
theorem Dst.uniq {t j : Nat} (h : Dst ps S s t x) (g : Dst ps S s j x) : t = j := by
  rcases Nat.lt_trichotomy t j with l | l | l
  · exact absurd h.1 (g.2 t l)
  · exact l
  · exact absurd g.1 (h.2 j l)
theorem Wk.dst : ∀ {t : Nat}, Wk ps S s t x → ∃ j, j ≤ t ∧ Dst ps S s j x := by
  intro t
  induction t using Nat.strongRecOn with
  | _ t ih =>
    intro h
    by_cases e : ∃ j, j < t ∧ Wk ps S s j x
    · obtain ⟨j, hj, w⟩ := e
      obtain ⟨i, hi, d⟩ := ih j hj w
      exact ⟨i, by omega, d⟩
    · exact ⟨t, Nat.le_refl _, h, fun j hj w => e ⟨j, hj, w⟩⟩
theorem rch_dst : Rch ps S s x ↔ ∃ t, Dst ps S s t x := ⟨fun ⟨_, h⟩ => let ⟨j, _, d⟩ := h.dst; ⟨j, d⟩, fun ⟨t, h⟩ => ⟨t, h.1⟩⟩
theorem Dst.back (h : Dst ps S s (t + 1) y) : ∃ x, Dst ps S s t x ∧ y ∈ nbr ps x ∧ y ∈ S := by
  obtain ⟨⟨x, h1, h2, h3⟩, m⟩ := h
  exact ⟨x, ⟨h1, fun j hj w => m (j + 1) (by omega) ⟨x, w, h2, h3⟩⟩, h2, h3⟩
theorem nodup_len : ∀ {l m : List Int}, l.Nodup → (∀ x, x ∈ l → x ∈ m) → l.length ≤ m.length
  | [], _, _, _ => Nat.zero_le _
  | a :: l, m, nd, h => by
    rw [List.nodup_cons] at nd
    have ha : a ∈ m := h a List.mem_cons_self
    have := nodup_len (l := l) (m := m.erase a) nd.2 fun x hx => (List.mem_erase_of_ne fun e => nd.1 (by rw [← e]; exact hx)).mpr (h x (List.mem_cons_of_mem _ hx))
    have e := List.length_erase_of_mem ha
    have p := List.length_pos_of_mem ha
    rw [List.length_cons]; omega
theorem nodup_eq {l m : List Int} (nl : l.Nodup) (h : ∀ x, x ∈ l → x ∈ m) (e : m.length ≤ l.length) : ∀ x, x ∈ m → x ∈ l := fun x hx => by
  by_cases c : x ∈ l
  · exact c
  · have := nodup_len (l := l) (m := m.erase x) nl fun y hy => (List.mem_erase_of_ne fun z => c (by rw [← z]; exact hy)).mpr (h y hy)
    have e2 := List.length_erase_of_mem hx
    have p := List.length_pos_of_mem hx
    omega
/-- as many unlike standings as the distance and one -/
theorem Dst.chain (hs : s ∈ S) : ∀ {t : Nat} {x : Int}, Dst ps S s t x → ∃ l : List Int, l.length = t + 1 ∧ l.Nodup ∧ (∀ y, y ∈ l → y ∈ S) ∧ ∀ y, y ∈ l → ∃ j, j ≤ t ∧ Dst ps S s j y
  | 0, x, h => ⟨[x], rfl, by simp, fun y hy => by rw [List.mem_singleton.mp hy]; exact Wk.mem hs h.1, fun y hy => by rw [List.mem_singleton.mp hy]; exact ⟨0, Nat.le_refl _, h⟩⟩
  | t + 1, x, h => by
    obtain ⟨z, hz, _, _⟩ := h.back
    obtain ⟨l, h1, h2, h3, h4⟩ := Dst.chain hs hz
    refine ⟨x :: l, by rw [List.length_cons, h1], List.nodup_cons.mpr ⟨fun hx => ?_, h2⟩, fun y hy => ?_, fun y hy => ?_⟩
    · obtain ⟨j, hj, d⟩ := h4 x hx
      have := d.uniq h
      omega
    · rcases List.mem_cons.mp hy with rfl | hy
      · exact Wk.mem hs h.1
      · exact h3 y hy
    · rcases List.mem_cons.mp hy with rfl | hy
      · exact ⟨t + 1, Nat.le_refl _, h⟩
      · obtain ⟨j, hj, d⟩ := h4 y hy
        exact ⟨j, by omega, d⟩
theorem Dst.lt (hs : s ∈ S) (h : Dst ps S s t x) : t < S.length := by
  obtain ⟨l, h1, h2, h3, _⟩ := h.chain hs
  have := nodup_len h2 h3
  omega
def HangsP (ps : List (Int × Int)) (S : List Int) : Prop := ∀ x ∈ S, ∀ y ∈ S, Rch ps S x y
theorem hangs_from (hs : s ∈ S) : HangsP ps S ↔ ∀ x ∈ S, Rch ps S s x := ⟨fun h x hx => h s hs x hx, fun h x hx y hy => ((h x hx).symm hs).trans (h y hy)⟩
theorem HangsP.congr {S' : List Int} (h : ∀ x, x ∈ S ↔ x ∈ S') : HangsP ps S ↔ HangsP ps S' :=
  ⟨fun g x hx y hy => (g x ((h x).mpr hx) y ((h y).mpr hy)).congr fun z => (h z).mp, fun g x hx y hy => (g x ((h x).mp hx) y ((h y).mp hy)).congr fun z => (h z).mpr⟩
theorem HangsP.one : HangsP ps [x] := fun a ha b hb => by
  rw [List.mem_singleton.mp ha, List.mem_singleton.mp hb]; exact .refl
theorem HangsP.more {a : Int} (h : HangsP ps S) (ha : a ∈ S) (hx : x ∈ nbr ps a) : HangsP ps (S ++ [x]) := by
  refine (hangs_from (s := a) (List.mem_append_left _ ha)).mpr fun y hy => ?_
  rcases List.mem_append.mp hy with hy | hy
  · exact (h a ha y hy).congr fun z hz => List.mem_append_left _ hz
  · rw [List.mem_singleton.mp hy]
    exact Rch.refl.step hx (by simp)
end
/-! ### dicts of ints -/
def kvT (x : Int) : Key × D := (.inl x, .bl true)
theorem dval_ints {κ : Int → Key × D} (hk : ∀ x, (κ x).1 = .inl x) {ks : List Int} {x : Int} : (dval (ks.map κ) (.inl x)).isSome = decide (x ∈ ks) := by
  induction ks with
  | nil => rfl
  | cons q ks ih =>
    rw [List.map_cons, show κ q = ((.inl q : Key), (κ q).2) from Prod.ext (hk q) rfl, dval_cons]
    by_cases e : q = x
    · subst e; simp
    · rw [if_neg fun z => e (Sum.inl.inj z), ih]
      have e2 : ¬ x = q := fun z => e z.symm
      simp [e2]
theorem dput_new {κ : Type} [DecidableEq κ] {l : List (κ × D)} {k : κ} {d : D} (h : dval l k = none) : dput l k d = l ++ [(k, d)] := by
  unfold dput
  rw [h]; rfl
theorem none_of {o : Option D} (h : o.isSome = false) : o = none := by cases o <;> first | rfl | cases h
theorem dput_kvT {ks : List Int} {x : Int} (h : x ∉ ks) : dput (ks.map kvT) (.inl x) (.bl true) = (ks ++ [x]).map kvT := by
  rw [dput_new (none_of (by rw [dval_ints (fun _ => rfl), decide_eq_false h])), List.map_append]; rfl
/-- the lot as a dict -/
structure InsAt (M : Mp) (d : Addr) (ns : List Int) : Prop where
  ex : ∃ kvs, M d = some (.dK kvs) ∧ kvs.length = ns.length ∧ ∀ x : Int, (dval kvs (.inl x)).isSome = decide (x ∈ ns)
theorem InsAt.of {M : Mp} {d : Addr} {ns : List Int} (h : M d = some (.dK (ns.map kvT))) : InsAt M d ns := ⟨_, h, by simp, fun x => dval_ints fun _ => rfl⟩
theorem InsAt.keep {M M' : Mp} {d : Addr} {ns : List Int} (h : InsAt M d ns) (e : M' d = M d) : InsAt M' d ns := ⟨by rw [e]; exact h.ex⟩
theorem InsAt.has {M : Mp} {d : Addr} {ns : List Int} (h : InsAt M d ns) (x : Int) : inV' M (.int x) (.ref d) = some (decide (x ∈ ns)) := by
  obtain ⟨kvs, h1, _, h3⟩ := h.ex
  simp only [inV', h1, dLook, keyOf, Option.map_some, h3]
theorem has_kvT {M : Mp} {d : Addr} {ks : List Int} (h : M d = some (.dK (ks.map kvT))) (x : Int) : inV' M (.int x) (.ref d) = some (decide (x ∈ ks)) := (InsAt.of h).has x
theorem fold_kvT : ∀ (ns acc : List Int), (acc ++ ns).Nodup → (ns.map D.int).foldl (fun a d => dput a ((match d with | .int i => .inl i | _ => .inl 0) : Key) (.bl true)) (acc.map kvT) = (acc ++ ns).map kvT
  | [], acc, _ => by simp
  | x :: ns, acc, h => by
    rw [List.map_cons, List.foldl_cons]
    have hx : x ∉ acc := fun z => by
      rw [List.nodup_append] at h
      exact h.2.2 x z x List.mem_cons_self rfl
    have h2 : ((acc ++ [x]) ++ ns).Nodup := by rw [List.append_assoc]; exact h
    show List.foldl _ (dput (acc.map kvT) (.inl x) (.bl true)) _ = _
    rw [dput_kvT hx, fold_kvT ns (acc ++ [x]) h2, List.append_assoc]
    rfl

noncomputable def hangsB (ps : List (Int × Int)) (ns : List Int) : Bool := @decide (HangsP ps ns) (Classical.propDecidable _)
theorem hangsB_iff {ps : List (Int × Int)} {ns : List Int} : hangsB ps ns = true ↔ HangsP ps ns := by
  unfold hangsB
  exact @decide_eq_true_iff _ (Classical.propDecidable _)
theorem hangsB_of {ps : List (Int × Int)} {ns : List Int} {b : Bool} (h : b = true ↔ HangsP ps ns) : b = hangsB ps ns := by
  cases hb : b with
  | true => exact (hangsB_iff.mpr (h.mp hb)).symm
  | false =>
    cases hc : hangsB ps ns with
    | false => rfl
    | true => rw [h.mpr (hangsB_iff.mp hc)] at hb; cases hb
/-- a right lot -/
structure LotOk (n : Int) (ns : List Int) : Prop where
  ne : ns ≠ []
  nd : ns.Nodup
  rg : ∀ x ∈ ns, 0 ≤ x ∧ x < n
theorem LotOk.len {n : Int} {ns : List Int} (h : LotOk n ns) : (ns.length : Int) ≤ n := by
  have := nodup_len (l := ns) (m := (List.range n.toNat).map fun (i : Nat) => (i : Int)) h.nd fun x hx => by
    have := h.rg x hx
    exact List.mem_map.mpr ⟨x.toNat, List.mem_range.mpr (by omega), by omega⟩
  rw [List.length_map, List.length_range] at this
  obtain ⟨x, hx⟩ := List.exists_mem_of_ne_nil _ h.ne
  have := h.rg x hx
  omega
def isLot (d : D) (ns : List Int) : Prop := d = .lst (ns.map .int) ∨ d = .tup (ns.map .int)

theorem nodup_perm {l m : List Int} (h : l.Perm m) (nd : m.Nodup) : l.Nodup := h.nodup_iff.mpr nd
theorem rgL_nodup (n : Nat) : ((List.range n).map fun (i : Nat) => (0 : Int) + i).Nodup := by
  refine List.pairwise_map.mpr ((List.nodup_range (n := n)).imp ?_)
  intro a b h e
  omega
theorem ixN_of {n : Nat} {i : Int} {j : Nat} (h : i = (j : Int)) (hj : j < n) : ixN n i = some j := by
  subst h
  unfold ixN
  rw [if_pos (by omega), if_pos (by omega)]
  rfl
theorem map_erase {α β : Type} (f : α → β) : ∀ (l : List α) (j : Nat), (l.map f).eraseIdx j = (l.eraseIdx j).map f
  | [], _ => rfl
  | _ :: _, 0 => rfl
  | x :: l, j + 1 => by
    show f x :: (l.map f).eraseIdx j = f x :: (l.eraseIdx j).map f
    rw [map_erase f l j]
theorem eraseIdx_perm {α : Type} : ∀ {l : List α} {j : Nat} {x : α}, l[j]? = some x → (l.eraseIdx j ++ [x]).Perm l
  | y :: l, 0, x, h => by
    simp at h; subst h
    show (l ++ [y]).Perm (y :: l)
    exact List.perm_append_comm
  | y :: l, j + 1, x, h => by
    show (y :: (l.eraseIdx j ++ [x])).Perm (y :: l)
    exact List.Perm.cons _ (eraseIdx_perm (by simpa using h))
  | [], j, x, h => by simp at h

def kvN (p : Int × Nat) : Key × D := (.inl p.1, .int (p.2 : Int))
theorem dval_keys {β : Type} {f : β → Key × D} {key : β → Int} (hk : ∀ b, (f b).1 = .inl (key b)) {l : List β} {x : Int} : (dval (l.map f) (.inl x)).isSome = decide (x ∈ l.map key) := by
  induction l with
  | nil => rfl
  | cons q l ih =>
    rw [List.map_cons, List.map_cons, show f q = ((.inl (key q) : Key), (f q).2) from Prod.ext (hk q) rfl, dval_cons]
    by_cases e : key q = x
    · subst e; simp
    · rw [if_neg fun z => e (Sum.inl.inj z), ih]
      have e2 : ¬ x = key q := fun z => e z.symm
      simp [e2]
theorem has_kvN {M : Mp} {r : Addr} {kt : List (Int × Nat)} (h : M r = some (.dK (kt.map kvN))) (x : Int) : inV' M (.int x) (.ref r) = some (decide (x ∈ kt.map (·.1))) := by
  simp only [inV', h, dLook, keyOf, Option.map_some, dval_keys (f := kvN) (key := (·.1)) fun _ => rfl]
theorem store_kvN {M : Mp} {r : Addr} {kt : List (Int × Nat)} {x : Int} {t : Nat} (h : M r = some (.dK (kt.map kvN))) (hx : x ∉ kt.map (·.1)) (hl : kt.length ≤ 1000000) : dStore M r (.int x) (.int (t : Int)) = some (mset M r (.dK ((kt ++ [(x, t)]).map kvN))) := by
  simp only [dStore, h, keyOf, Option.bind_some, List.length_map]
  rw [if_pos (len_lt (by omega)), dput_new (none_of (by rw [dval_keys (key := (·.1)) fun _ => rfl, decide_eq_false hx])), List.map_append]
  rfl
/-- the flood behind t turns -/
structure FlSt (ps : List (Int × Int)) (ns : List Int) (s : Int) (t : Nat) (kt : List (Int × Nat)) (fr : List Int) : Prop where
  nd : (kt.map (·.1)).Nodup
  mem : ∀ x j, (x, j) ∈ kt ↔ j ≤ t ∧ Dst ps ns s j x
  fnd : fr.Nodup
  fmem : ∀ x, x ∈ fr ↔ Dst ps ns s t x
/-- .. within a turn -/
structure FlIn (ps : List (Int × Int)) (ns : List Int) (s : Int) (t : Nat) (kt : List (Int × Nat)) (la : List Int) : Prop where
  nd : (kt.map (·.1) ++ la).Nodup
  lmem : ∀ y, y ∈ la → Dst ps ns s (t + 1) y
section
variable {ps : List (Int × Int)} {ns : List Int} {s x y : Int} {t : Nat} {kt : List (Int × Nat)} {fr la : List Int}
theorem FlSt.new (h : FlSt ps ns s t kt fr) (hx : Dst ps ns s t x) (hy : y ∈ nbr ps x) (hn : y ∈ ns) (hk : y ∉ kt.map (·.1)) : Dst ps ns s (t + 1) y :=
  ⟨⟨x, hx.1, hy, hn⟩, fun j hj w => by
    obtain ⟨i, hi, d⟩ := w.dst
    exact hk (List.mem_map.mpr ⟨(y, i), (h.mem y i).mpr ⟨by omega, d⟩, rfl⟩)⟩
theorem FlIn.add (h : FlIn ps ns s t kt la) (hy : Dst ps ns s (t + 1) y) (hk : y ∉ kt.map (·.1) ++ la) : FlIn ps ns s t kt (la ++ [y]) := by
  refine ⟨?_, fun z hz => ?_⟩
  · rw [← List.append_assoc, List.nodup_append]
    exact ⟨h.nd, by simp, fun a ha b hb => by
      rw [List.mem_singleton.mp hb]
      intro e
      exact hk (e ▸ ha)⟩
  · rcases List.mem_append.mp hz with hz | hz
    · exact h.lmem z hz
    · rw [List.mem_singleton.mp hz]; exact hy
theorem FlIn.len (hs : s ∈ ns) (hst : FlSt ps ns s t kt fr) (h : FlIn ps ns s t kt la) : kt.length + la.length ≤ ns.length := by
  have := nodup_len (l := kt.map (·.1) ++ la) (m := ns) h.nd fun z hz => by
    rcases List.mem_append.mp hz with hz | hz
    · obtain ⟨⟨a, j⟩, ha, rfl⟩ := List.mem_map.mp hz
      exact Wk.mem hs ((hst.mem a j).mp ha).2.1
    · exact Wk.mem hs (h.lmem z hz).1
  rw [List.length_append, List.length_map] at this
  exact this
theorem FlSt.next (hst : FlSt ps ns s t kt fr) (h : FlIn ps ns s t kt la) (hc : ∀ x, x ∈ fr → ∀ y, y ∈ nbr ps x → y ∈ ns → y ∈ kt.map (·.1) ++ la) : FlSt ps ns s (t + 1) (kt ++ la.map fun y => (y, t + 1)) la := by
  have em : (kt ++ la.map fun y => (y, t + 1)).map (·.1) = kt.map (·.1) ++ la := by
    rw [List.map_append, List.map_map]
    congr 1
    exact List.map_id _
  have full : ∀ y, Dst ps ns s (t + 1) y → y ∈ la := fun y hy => by
    obtain ⟨x, hx, h1, h2⟩ := hy.back
    rcases List.mem_append.mp (hc x ((hst.fmem x).mpr hx) y h1 h2) with z | z
    · obtain ⟨⟨a, j⟩, ha, rfl⟩ := List.mem_map.mp z
      have := ((hst.mem a j).mp ha)
      have e := this.2.uniq hy
      omega
    · exact z
  refine ⟨by rw [em]; exact h.nd, fun z j => ?_, (List.nodup_append.mp h.nd).2.1, fun z => ⟨h.lmem z, full z⟩⟩
  rw [List.mem_append, hst.mem, List.mem_map]
  constructor
  · rintro (⟨h1, h2⟩ | ⟨y, hy, e⟩)
    · exact ⟨by omega, h2⟩
    · cases e; exact ⟨Nat.le_refl _, h.lmem _ hy⟩
  · rintro ⟨h1, h2⟩
    by_cases e : j = t + 1
    · subst e; exact .inr ⟨z, full z h2, rfl⟩
    · exact .inl ⟨by omega, h2⟩
end

/-! ### breadth first: behind k turns -/
structure Bfs (ps : List (Int × Int)) (ns : List Int) (s : Int) (kt : List (Int × Nat)) (k : Nat) : Prop where
  nd : (kt.map (·.1)).Nodup
  dst : ∀ x j, (x, j) ∈ kt → Dst ps ns s j x
  srt : kt.Pairwise fun a b => a.2 ≤ b.2
  s0 : s ∈ kt.map (·.1)
  kl : k ≤ kt.length
  cl : ∀ x j, (x, j) ∈ kt.take k → ∀ y, y ∈ nbr ps x → y ∈ ns → y ∈ kt.map (·.1)
  win : ∀ x j, kt[k]? = some (x, j) → (∀ y i, (y, i) ∈ kt → i ≤ j + 1) ∧ ∀ i y, i ≤ j → Dst ps ns s i y → y ∈ kt.map (·.1)
section
variable {ps : List (Int × Int)} {ns : List Int} {s x y : Int} {j k : Nat} {kt : List (Int × Nat)} {la : List Int}
theorem Bfs.zero : Bfs ps ns s [(s, 0)] 0 := by
  refine ⟨by simp, fun x j h => ?_, by simp, by simp, Nat.zero_le _, fun x j h => by simp at h, fun x j h => ?_⟩
  · rw [List.mem_singleton] at h
    cases h
    exact ⟨rfl, fun j hj => absurd hj (Nat.not_lt_zero j)⟩
  · simp at h
    obtain ⟨rfl, rfl⟩ := h
    refine ⟨fun y i h => ?_, fun i y hi h => ?_⟩
    · rw [List.mem_singleton] at h; cases h; omega
    · have : i = 0 := by omega
      subst this
      rw [show y = s from h.1]; simp
theorem Bfs.new (h : Bfs ps ns s kt k) (hk : kt[k]? = some (x, j)) (hy : y ∈ nbr ps x) (hn : y ∈ ns) (hm : y ∉ kt.map (·.1)) : Dst ps ns s (j + 1) y :=
  ⟨⟨x, (h.dst x j (List.mem_of_getElem? hk)).1, hy, hn⟩, fun i hi w => by
    obtain ⟨i', hi', d⟩ := w.dst
    exact hm ((h.win x j hk).2 i' y (by omega) d)⟩
theorem Bfs.len (hs : s ∈ ns) (hb : Bfs ps ns s kt k) (h : FlIn ps ns s j kt la) : kt.length + la.length ≤ ns.length := by
  have := nodup_len (l := kt.map (·.1) ++ la) (m := ns) h.nd fun z hz => by
    rcases List.mem_append.mp hz with hz | hz
    · obtain ⟨⟨a, i⟩, ha, rfl⟩ := List.mem_map.mp hz
      exact Wk.mem hs (hb.dst a i ha).1
    · exact Wk.mem hs (h.lmem z hz).1
  rw [List.length_append, List.length_map] at this
  exact this
theorem keys_app (la : List Int) : (kt ++ la.map fun y => (y, j)).map (·.1) = kt.map (·.1) ++ la := by
  rw [List.map_append, List.map_map]
  congr 1
  exact List.map_id _
theorem Bfs.next (h : Bfs ps ns s kt k) (hk : kt[k]? = some (x, j)) (hf : FlIn ps ns s j kt la) (hc : ∀ y, y ∈ nbr ps x → y ∈ ns → y ∈ kt.map (·.1) ++ la) : Bfs ps ns s (kt ++ la.map fun y => (y, j + 1)) (k + 1) := by
  have hkl : k < kt.length := (List.getElem?_eq_some_iff.mp hk).1
  have xm : (x, j) ∈ kt := List.mem_of_getElem? hk
  have tk : (kt ++ la.map fun y => (y, j + 1)).take (k + 1) = kt.take k ++ [(x, j)] := by
    rw [List.take_append_of_le_length (by omega), take_succ_of hk]
  have sr : (kt ++ la.map fun y => (y, j + 1)).Pairwise fun a b => a.2 ≤ b.2 := by
    rw [List.pairwise_append]
    refine ⟨h.srt, ?_, fun a ha b hb => ?_⟩
    · rw [List.pairwise_map]
      exact List.pairwise_of_forall fun _ _ => Nat.le_refl _
    · obtain ⟨y, _, rfl⟩ := List.mem_map.mp hb
      exact (h.win x j hk).1 a.1 a.2 ha
  refine ⟨by rw [keys_app]; exact hf.nd, fun z i hz => ?_, sr, by rw [keys_app]; exact List.mem_append_left _ h.s0, by rw [List.length_append]; omega, fun z i hz y hy hn => ?_, fun z i hz => ?_⟩
  · rcases List.mem_append.mp hz with hz | hz
    · exact h.dst z i hz
    · obtain ⟨y, hy, e⟩ := List.mem_map.mp hz
      cases e
      exact hf.lmem _ hy
  · rw [keys_app]
    rw [tk] at hz
    rcases List.mem_append.mp hz with hz | hz
    · exact List.mem_append_left _ (h.cl z i hz y hy hn)
    · rw [List.mem_singleton] at hz
      cases hz
      exact hc y hy hn
  · have hk2 : (kt ++ la.map fun y => (y, j + 1))[k]? = some (x, j) := by rw [List.getElem?_append_left hkl]; exact hk
    have lo : j ≤ i := pw_next sr hk2 hz
    have all : ∀ y i, (y, i) ∈ kt ++ la.map (fun y => (y, j + 1)) → i ≤ j + 1 := fun y i hm => by
      rcases List.mem_append.mp hm with hm | hm
      · exact (h.win x j hk).1 y i hm
      · obtain ⟨_, _, e⟩ := List.mem_map.mp hm
        cases e
        exact Nat.le_refl _
    have hi := all z i (List.mem_of_getElem? hz)
    refine ⟨fun y i' hm => Nat.le_trans (all y i' hm) (by omega), fun i' y hi' hd => ?_⟩
    rw [keys_app]
    by_cases e : i' ≤ j
    · exact List.mem_append_left _ ((h.win x j hk).2 i' y e hd)
    · have e2 : i' = j + 1 := by omega
      subst e2
      obtain ⟨u, hu, h1, h2⟩ := hd.back
      obtain ⟨⟨u', j'⟩, hm, rfl⟩ := List.mem_map.mp ((h.win x j hk).2 j u (Nat.le_refl _) hu)
      have e3 : j' = j := (h.dst _ _ hm).uniq hu
      subst e3
      obtain ⟨m, hm2⟩ := List.mem_iff_getElem?.mp hm
      have ml := (List.getElem?_eq_some_iff.mp hm2).1
      by_cases hmk : m < k
      · exact List.mem_append_left _ (h.cl u' j' (List.mem_iff_getElem?.mpr ⟨m, by rw [List.getElem?_take, if_pos hmk]; exact hm2⟩) y h1 h2)
      · by_cases hmk2 : m = k
        · subst hmk2
          rw [hm2] at hk
          cases hk
          exact hc y h1 h2
        · exfalso
          have hm3 : (kt ++ la.map fun y => (y, j' + 1))[m]? = some (u', j') := by rw [List.getElem?_append_left ml]; exact hm2
          obtain ⟨a1, b1⟩ := List.getElem?_eq_some_iff.mp hz
          obtain ⟨a2, b2⟩ := List.getElem?_eq_some_iff.mp hm3
          by_cases hm4 : m = k + 1
          · subst hm4
            rw [b1] at b2
            cases b2
            omega
          · have := List.pairwise_iff_getElem.mp sr (k + 1) m a1 a2 (by omega)
            rw [b1, b2] at this
            simp only at this
            omega
theorem Bfs.full (h : Bfs ps ns s kt kt.length) : ∀ x j, (x, j) ∈ kt ↔ Dst ps ns s j x := fun x j => ⟨h.dst x j, fun hd => by
  have key : ∀ j x, Dst ps ns s j x → x ∈ kt.map (·.1) → (x, j) ∈ kt := fun j x hd hm => by
    obtain ⟨⟨a, i⟩, ha, rfl⟩ := List.mem_map.mp hm
    rw [hd.uniq (h.dst a i ha)]
    exact ha
  refine key j x hd ?_
  induction j generalizing x with
  | zero => rw [show x = s from hd.1]; exact h.s0
  | succ j ih =>
    obtain ⟨z, hz, h1, h2⟩ := hd.back
    exact h.cl z j (by rw [List.take_length]; exact key j z hz (ih z hz)) x h1 h2⟩
theorem dval_at {kt : List (Int × Nat)} (nd : (kt.map (·.1)).Nodup) {x : Int} {t : Nat} (h : (x, t) ∈ kt) : dval (kt.map kvN) (.inl x) = some (.int (t : Int)) := by
  induction kt with
  | nil => cases h
  | cons p kt ih =>
    rw [List.map_cons, List.nodup_cons] at nd
    show dval (((.inl p.1 : Key), D.int (p.2 : Int)) :: kt.map kvN) _ = _
    rw [dval_cons]
    rcases List.mem_cons.mp h with e | h
    · subst e; rw [if_pos rfl]
    · rw [if_neg fun z => nd.1 (by rw [Sum.inl.inj z]; exact List.mem_map.mpr ⟨_, h, rfl⟩)]
      exact ih nd.2 h
theorem atI_last {l : List D} {d : D} {m : List D} (h : m = l ++ [d]) : atI m (-1) = some d := by
  subst h
  have e : ixN (l ++ [d]).length (-1) = some l.length := by
    unfold ixN
    rw [List.length_append, List.length_singleton]
    rw [if_neg (by omega)]
    simp
    omega
  unfold atI
  rw [e]
  simp
theorem ixL_at {M : Mp} {l : List D} {i : Int} {k : Nat} {d : D} (hi : i = (k : Int)) (h : l[k]? = some d) : dIxV M (.lst l) (.int i) = some d := atI_at hi h
theorem ixT_at {M : Mp} {l : List D} {i : Int} {k : Nat} {d : D} (hi : i = (k : Int)) (h : l[k]? = some d) : dIxV M (.tup l) (.int i) = some d := atI_at hi h
theorem any_pr (l : List (Int × Int)) (p : Int × Int) : ((l.map prD).any fun z => D.eq z (prD p)) = decide (p ∈ l) := by
  induction l with
  | nil => rfl
  | cons x l ih =>
    rw [List.map_cons, List.any_cons, ih, eq_pr]
    by_cases e : x = p
    · subst e; simp
    · have e2 : ¬ p = x := fun z => e z.symm
      simp [e, e2]
theorem in_pr {M : Mp} {a b : Int} {ps : List (Int × Int)} : inV' M (.tup [.int a, .int b]) (.tup (ps.map prD)) = some (decide ((a, b) ∈ ps)) := by
  simp only [inV']
  rw [if_pos ⟨ok_pr (a, b) 59, okL_pr ps 58⟩]
  exact congrArg some (any_pr ps (a, b))
/-- the way: each time the least that is one push nearer -/
def IsWay (ps : List (Int × Int)) (ns : List Int) (g : Int) : Nat → Int → List Int → Prop
  | 0, x, l => l = [x]
  | t + 1, x, l => ∃ y r, l = x :: r ∧ IsWay ps ns g t y r ∧ y ∈ nbr ps x ∧ Dst ps ns g t y ∧ ∀ z, z ∈ nbr ps x → Dst ps ns g t z → y ≤ z
theorem IsWay.uniq {g : Int} : ∀ {t : Nat} {x : Int} {l m : List Int}, IsWay ps ns g t x l → IsWay ps ns g t x m → l = m
  | 0, _, _, _, h1, h2 => h1.trans h2.symm
  | t + 1, _, _, _, ⟨y, r, e, h, a, b, c⟩, ⟨y', r', e', h', a', b', c'⟩ => by
    have q : y = y' := Int.le_antisymm (c y' a' b') (c' y a b)
    subst q
    rw [e, e', IsWay.uniq h h']
theorem wk_congr {ms : List Int} (h : ∀ z, z ∈ ns ↔ z ∈ ms) : ∀ {t : Nat} {x : Int}, Wk ps ns s t x ↔ Wk ps ms s t x
  | 0, _ => Iff.rfl
  | t + 1, x => ⟨fun ⟨z, a, b, c⟩ => ⟨z, (wk_congr h).mp a, b, (h x).mp c⟩, fun ⟨z, a, b, c⟩ => ⟨z, (wk_congr h).mpr a, b, (h x).mpr c⟩⟩
theorem dst_congr {ms : List Int} (h : ∀ z, z ∈ ns ↔ z ∈ ms) {t : Nat} {x : Int} : Dst ps ns s t x ↔ Dst ps ms s t x := by
  unfold Dst
  rw [wk_congr h]
  exact and_congr Iff.rfl ⟨fun g j hj w => g j hj ((wk_congr h).mpr w), fun g j hj w => g j hj ((wk_congr h).mp w)⟩
theorem IsWay.congr {ms : List Int} {g : Int} (h : ∀ z, z ∈ ns ↔ z ∈ ms) : ∀ {t : Nat} {x : Int} {l : List Int}, IsWay ps ns g t x l → IsWay ps ms g t x l
  | 0, _, _, h1 => h1
  | t + 1, _, _, ⟨y, r, e, h1, a, b, c⟩ => ⟨y, r, e, IsWay.congr h h1, a, (dst_congr h).mp b, fun z h2 h3 => c z h2 ((dst_congr h).mpr h3)⟩
theorem IsWay.len {g : Int} : ∀ {t : Nat} {x : Int} {l : List Int}, IsWay ps ns g t x l → l.length = t + 1
  | 0, _, _, h => by rw [show _ = _ from h]; rfl
  | t + 1, _, _, ⟨y, r, e, h, _⟩ => by rw [e, List.length_cons, h.len]
theorem IsWay.head {g : Int} : ∀ {t : Nat} {x : Int} {l : List Int}, IsWay ps ns g t x l → l[0]? = some x
  | 0, _, _, h => by rw [show _ = _ from h]; rfl
  | t + 1, _, _, ⟨y, r, e, h, _⟩ => by rw [e]; rfl
end

/-- all but a few as they were -/
theorem Ext.cutL {M M' : Mp} {S : List Addr} (a : Ext M M' S) : ∃ M2, MLe M2 M' ∧ Agree M M2 S ∧ ∀ q, q ∈ S → M2 q = M' q := by
  refine ⟨fun q => if q ∈ S then M' q else M q, fun q o h => ?_, fun q h => if_neg h, fun q h => if_pos h⟩
  by_cases e : q ∈ S
  · simp only [if_pos e] at h; exact h
  · simp only [if_neg e] at h; exact a q o e h
/-! ### books -/
structure Cl_TB (K : PySem.W.Frag) (mg : Str → Option Value) (C : Addr) : Prop where
  cl : Cls K C
  n_kept_size : NoAttr K C "kept_size"
  n_kept_ties : NoAttr K C "kept_ties"
  n_kept_facts : NoAttr K C "kept_facts"
def bookF (n : Int) (ps : List (Int × Int)) (d : Addr) : List (Str × D) := [("kept_size", .int n), ("kept_ties", .tup (ps.map prD)), ("kept_facts", .ref d)]
def allOf (n : Int) : List Int := (List.range n.toNat).map fun (i : Nat) => (i : Int)
theorem allOf_mem {n x : Int} : x ∈ allOf n ↔ 0 ≤ x ∧ x < n := by
  unfold allOf
  rw [List.mem_map]
  constructor
  · rintro ⟨i, hi, rfl⟩
    have := List.mem_range.mp hi
    omega
  · rintro ⟨h0, h1⟩
    exact ⟨x.toNat, List.mem_range.mpr (by omega), by omega⟩
theorem allOf_nodup (n : Int) : (allOf n).Nodup := by
  unfold allOf
  refine List.pairwise_map.mpr ((List.nodup_range (n := n.toNat)).imp ?_)
  intro a b h e
  omega
theorem allOf_len (n : Int) : (allOf n).length = n.toNat := by unfold allOf; simp
theorem rgD_all {n : Int} : rgD 0 n.toNat = (allOf n).map .int := by
  unfold rgD allOf
  rw [List.map_map]
  apply List.map_congr_left
  intro i _
  show D.int (0 + (i : Int)) = D.int (i : Int)
  rw [Int.zero_add]
structure BookOk (n : Int) (ps : List (Int × Int)) : Prop where
  lo : 1 ≤ n
  hi : n ≤ 8
  pr : PrsOk n ps
  hang : HangsP ps (allOf n)
theorem bne : (¬ ("kept_size" : Str) = "kept_ties") ∧ (¬ ("kept_size" : Str) = "kept_facts") ∧ (¬ ("kept_ties" : Str) = "kept_facts") := by decide +kernel
theorem fb_size (n : Int) (ps : List (Int × Int)) (d : Addr) : (bookF n ps d).lookup ("kept_size" : Str) = some (.int n) := rfl
theorem fb_ties (n : Int) (ps : List (Int × Int)) (d : Addr) : (bookF n ps d).lookup ("kept_ties" : Str) = some (.tup (ps.map prD)) := rfl
theorem fb_facts (n : Int) (ps : List (Int × Int)) (d : Addr) : (bookF n ps d).lookup ("kept_facts" : Str) = some (.ref d) := rfl
structure BookAt (C : Addr) (M : Mp) (p : Addr) (n : Int) (ps : List (Int × Int)) (d : Addr) : Prop where
  ob : M p = some (.ins C (bookF n ps d))
  fc : M d = some (.dK [(.inr "tied", .lst (rowsD n ps))])
  ok : BookOk n ps
theorem BookAt.ne {C : Addr} {M : Mp} {p : Addr} {n : Int} {ps : List (Int × Int)} {d : Addr} (h : BookAt C M p n ps d) : p ≠ d := fun e => by
  have := h.ob
  rw [e, h.fc] at this
  cases this
theorem BookAt.keep {C : Addr} {M M' : Mp} {S : List Addr} {p : Addr} {n : Int} {ps : List (Int × Int)} {d : Addr} (h : BookAt C M p n ps d) (a : Agree M M' S) (hp : p ∉ S) (hd : d ∉ S) : BookAt C M' p n ps d :=
  ⟨by rw [a p hp]; exact h.ob, by rw [a d hd]; exact h.fc, h.ok⟩
theorem BookAt.ext {C : Addr} {M M' : Mp} {S : List Addr} {p : Addr} {n : Int} {ps : List (Int × Int)} {d : Addr} (h : BookAt C M p n ps d) (a : Ext M M' S) (hp : p ∉ S) (hd : d ∉ S) : BookAt C M' p n ps d :=
  ⟨a _ _ hp h.ob, a _ _ hd h.fc, h.ok⟩
/-- pairs of at most eight -/
def prs8 : List (Int × Int) := (List.range 8).flatMap fun (b : Nat) => (List.range b).map fun (a : Nat) => ((a : Int), (b : Int))
theorem nodup_lenG {α : Type} [BEq α] [LawfulBEq α] : ∀ {l m : List α}, l.Nodup → (∀ x, x ∈ l → x ∈ m) → l.length ≤ m.length
  | [], _, _, _ => Nat.zero_le _
  | a :: l, m, nd, h => by
    rw [List.nodup_cons] at nd
    have ha : a ∈ m := h a List.mem_cons_self
    have := nodup_lenG (l := l) (m := m.erase a) nd.2 fun x hx => (List.mem_erase_of_ne fun e => nd.1 (by rw [← e]; exact hx)).mpr (h x (List.mem_cons_of_mem _ hx))
    have e := List.length_erase_of_mem ha
    have p := List.length_pos_of_mem ha
    rw [List.length_cons]; omega
theorem PrsOk.nodup {n : Int} {ps : List (Int × Int)} (h : PrsOk n ps) : ps.Nodup := h.lt.imp fun {a b} h e => by
  subst e
  unfold prLt at h
  omega
theorem PrsOk.len28 {n : Int} {ps : List (Int × Int)} (h : PrsOk n ps) (hn : n ≤ 8) : ps.length ≤ 28 := by
  have := nodup_lenG (l := ps) (m := prs8) h.nodup fun p hp => by
    obtain ⟨a, b⟩ := p
    have := h.ok _ hp
    unfold prOk at this
    simp only at this
    unfold prs8
    rw [List.mem_flatMap]
    have ea : (a.toNat : Int) = a := Int.toNat_of_nonneg (by omega)
    have eb : (b.toNat : Int) = b := Int.toNat_of_nonneg (by omega)
    exact ⟨b.toNat, List.mem_range.mpr (by omega), List.mem_map.mpr ⟨a.toNat, List.mem_range.mpr (by omega), by rw [ea, eb]⟩⟩
  have e : prs8.length = 28 := by decide +kernel
  omega
theorem nbr_nodup {n : Int} {i : Int} : ∀ {ps : List (Int × Int)}, PrsOk n ps → (nbr ps i).Nodup
  | [], _ => List.nodup_nil
  | p :: ps, h => by
    have hl := h.lt
    rw [List.pairwise_cons] at hl
    have ok := h.ok p List.mem_cons_self
    have ht : PrsOk n ps := ⟨fun q hq => h.ok q (List.mem_cons_of_mem _ hq), hl.2⟩
    have e : nbr (p :: ps) i = ((if p.1 = i then [p.2] else []) ++ (if p.2 = i then [p.1] else [])) ++ nbr ps i := by unfold nbr; rw [List.flatMap_cons]
    rw [e, List.nodup_append]
    have no : ∀ q, q ∈ ps → q ≠ p := fun q hq e2 => by
      have := hl.1 q hq
      subst e2
      unfold prLt at this
      omega
    unfold prOk at ok
    refine ⟨?_, nbr_nodup ht, fun a ha b hb e2 => ?_⟩
    · by_cases h1 : p.1 = i <;> by_cases h2 : p.2 = i <;> simp [h1, h2]
      omega
    · subst e2
      have hb2 := nbr_mem.mp hb
      rcases List.mem_append.mp ha with ha | ha
      · by_cases h1 : p.1 = i
        · rw [if_pos h1, List.mem_singleton] at ha
          subst ha
          rcases hb2 with z | z
          · exact no _ z (Prod.ext h1.symm rfl)
          · have := ht.ok _ z
            unfold prOk at this
            simp only at this
            omega
        · rw [if_neg h1] at ha; cases ha
      · by_cases h1 : p.2 = i
        · rw [if_pos h1, List.mem_singleton] at ha
          subst ha
          rcases hb2 with z | z
          · have := ht.ok _ z
            unfold prOk at this
            simp only at this
            omega
          · exact no _ z (Prod.ext rfl h1.symm)
        · rw [if_neg h1] at ha; cases ha

theorem Rch.more {ps qs : List (Int × Int)} {S : List Int} {s x : Int} (h : ∀ x y, y ∈ nbr ps x → y ∈ nbr qs x) : Rch ps S s x → Rch qs S s x := by
  rintro ⟨t, ht⟩
  induction t generalizing x with
  | zero => exact ⟨0, ht⟩
  | succ t ih =>
    obtain ⟨z, h1, h2, h3⟩ := ht
    exact (ih h1).step (h _ _ h2) h3
theorem nbr_app {ps qs : List (Int × Int)} {x y : Int} (h : y ∈ nbr ps x) : y ∈ nbr (ps ++ qs) x := by
  rw [nbr_mem] at h ⊢
  rcases h with h | h
  · exact .inl (List.mem_append_left _ h)
  · exact .inr (List.mem_append_left _ h)
/-- pairs of a book under way -/
structure BSt (M : Mp) (p : Addr) (n s : Int) (R : Int → Prop) (b : Nat) (M' : Mp) (l : Addr) (qs : List (Int × Int)) : Prop where
  dice : DiceAt M' p
  ext : Ext M M' [p]
  fr : M l = none
  lst : M' l = some (.lst (qs.map prD))
  ok : ∀ q ∈ qs, (0 ≤ q.1 ∧ q.1 < n) ∧ (0 ≤ q.2 ∧ q.2 < n) ∧ q.1 ≠ q.2
  len : qs.length ≤ b
  rch : ∀ x, R x → Rch qs (allOf n) s x
section
variable {M : Mp} {p : Addr} {n s : Int} {R R' : Int → Prop} {b b' : Nat} {M' M2 : Mp} {l l' : Addr} {qs ms : List (Int × Int)}
theorem BSt.ne (W : BSt M p n s R b M' l qs) : l ≠ p := W.dice.ne W.lst
theorem BSt.to (W : BSt M p n s R b M' l qs) (d : DiceAt M2 p) (a : Agree M' M2 [p]) : BSt M p n s R b M2 l qs :=
  ⟨d, W.ext.trans a.ext, W.fr, by rw [a l (by simpa using W.ne)]; exact W.lst, W.ok, W.len, W.rch⟩
theorem BSt.weak (W : BSt M p n s R b M' l qs) (h : b ≤ b') : BSt M p n s R b' M' l qs := ⟨W.dice, W.ext, W.fr, W.lst, W.ok, Nat.le_trans W.len h, W.rch⟩
theorem BSt.rch' (W : BSt M p n s R b M' l qs) (h : ∀ x, R' x → R x) : BSt M p n s R' b M' l qs := ⟨W.dice, W.ext, W.fr, W.lst, W.ok, W.len, fun x hx => W.rch x (h x hx)⟩
/-- pairs more, in the same list or a new one -/
theorem BSt.add (W : BSt M p n s R b M' l qs) (hl' : l' = l ∨ M' l' = none) (hm : ∀ q ∈ ms, (0 ≤ q.1 ∧ q.1 < n) ∧ (0 ≤ q.2 ∧ q.2 < n) ∧ q.1 ≠ q.2) (hr : ∀ x, R' x → R x ∨ ∃ y, R y ∧ x ∈ nbr (qs ++ ms) y ∧ (0 ≤ x ∧ x < n)) : BSt M p n s R' (b + ms.length) (mset M' l' (.lst ((qs ++ ms).map prD))) l' (qs ++ ms) := by
  have fr : M l' = none ∧ l' ≠ p := by
    rcases hl' with rfl | h
    · exact ⟨W.fr, W.ne⟩
    · have ne : l' ≠ p := W.dice.some h
      exact ⟨W.ext.fresh (by simpa using ne) h, ne⟩
  refine ⟨W.dice.mset fr.2, W.ext.mset fr.1, fr.1, mset_same, fun q hq => ?_, ?_, fun x hx => ?_⟩
  · rcases List.mem_append.mp hq with h | h
    · exact W.ok q h
    · exact hm q h
  · rw [List.length_append]; have := W.len; omega
  · rcases hr x hx with h | ⟨y, h1, h2, h3⟩
    · exact (W.rch x h).more fun _ _ => nbr_app
    · exact ((W.rch y h1).more fun _ _ => nbr_app).step h2 (allOf_mem.mpr h3)
/-- min and max of each, strictly ascending: a book's ties -/
theorem BSt.book {rs : List (Int × Int)} (n0 : 1 ≤ n) (n8 : n ≤ 8) (W : BSt M p n s (fun x => 0 ≤ x ∧ x < n) b M' l qs) (hs : 0 ≤ s ∧ s < n) (pw : rs.Pairwise prLt) (mem : ∀ r, r ∈ rs ↔ r ∈ qs.map fun q => (if q.2 < q.1 then q.2 else q.1, if q.1 < q.2 then q.2 else q.1)) : BookOk n rs := by
  have nb : ∀ x y, y ∈ nbr qs x → y ∈ nbr rs x := fun x y h => by
    rw [nbr_mem] at h ⊢
    have key : ∀ a b, (a, b) ∈ qs → (a, b) ∈ rs ∨ (b, a) ∈ rs := fun a b hab => by
      have z := (mem _).mpr (List.mem_map.mpr ⟨_, hab, rfl⟩)
      have o := W.ok _ hab
      simp only at z o
      by_cases e : a < b
      · rw [if_neg (by omega), if_pos e] at z; exact .inl z
      · rw [if_pos (by omega), if_neg e] at z; exact .inr z
    rcases h with h | h
    · exact key _ _ h
    · exact (key _ _ h).symm
  refine ⟨n0, n8, ⟨fun r hr => ?_, pw⟩, ?_⟩
  · obtain ⟨q, hq, rfl⟩ := List.mem_map.mp ((mem r).mp hr)
    have o := W.ok q hq
    unfold prOk
    simp only
    by_cases e : q.1 < q.2
    · rw [if_neg (by omega), if_pos e]; omega
    · rw [if_pos (by omega), if_neg e]; omega
  · refine (hangs_from (s := s) (allOf_mem.mpr hs)).mpr fun x hx => ?_
    exact (W.rch x (allOf_mem.mp hx)).more nb
end

def allPrs (n : Int) (m : Nat) : List (Int × Int) := (List.range m).flatMap fun (i : Nat) => (List.range (n - ((i : Int) + 1)).toNat).map fun (j : Nat) => ((i : Int), (i : Int) + 1 + (j : Int))
theorem allPrs_succ (n : Int) (m : Nat) : allPrs n (m + 1) = allPrs n m ++ (List.range (n - ((m : Int) + 1)).toNat).map fun (j : Nat) => ((m : Int), (m : Int) + 1 + (j : Int)) := by
  unfold allPrs
  rw [List.range_succ, List.flatMap_append]
  simp
theorem allPrs_mem {n : Int} {m : Nat} {p : Int × Int} : p ∈ allPrs n m ↔ 0 ≤ p.1 ∧ p.1 < m ∧ p.1 < p.2 ∧ p.2 < n := by
  obtain ⟨a, b⟩ := p
  unfold allPrs
  rw [List.mem_flatMap]
  constructor
  · rintro ⟨i, hi, h⟩
    obtain ⟨j, hj, e⟩ := List.mem_map.mp h
    cases e
    have h1 := List.mem_range.mp hi
    have h2 := List.mem_range.mp hj
    simp only
    omega
  · simp only
    rintro ⟨h0, h1, h2, h3⟩
    refine ⟨a.toNat, List.mem_range.mpr (by omega), List.mem_map.mpr ⟨(b - a - 1).toNat, List.mem_range.mpr (by omega), ?_⟩⟩
    refine Prod.ext ?_ ?_
    · show ((a.toNat : Nat) : Int) = a; omega
    · show ((a.toNat : Nat) : Int) + 1 + (((b - a - 1).toNat : Nat) : Int) = b; omega
theorem allPrs_ok (n : Int) : ∀ m : Nat, PrsOk n (allPrs n m)
  | 0 => ⟨fun _ h => (by cases h), List.Pairwise.nil⟩
  | m + 1 => by
    refine ⟨fun p hp => ?_, ?_⟩
    · have := allPrs_mem.mp hp
      unfold prOk; omega
    · rw [allPrs_succ, List.pairwise_append]
      refine ⟨(allPrs_ok n m).lt, ?_, fun a ha b hb => ?_⟩
      · rw [List.pairwise_map]
        refine (List.pairwise_lt_range (n := (n - ((m : Int) + 1)).toNat)).imp ?_
        intro a b h
        exact .inr ⟨rfl, by show (m : Int) + 1 + (a : Int) < (m : Int) + 1 + (b : Int); omega⟩
      · have h1 := allPrs_mem.mp ha
        obtain ⟨j, _, rfl⟩ := List.mem_map.mp hb
        exact .inl h1.2.1
theorem each_ok {n : Int} (h1 : 1 ≤ n) (h8 : n ≤ 8) : BookOk n (allPrs n n.toNat) := by
  refine ⟨h1, h8, allPrs_ok n _, fun x hx y hy => ?_⟩
  have hx' := allOf_mem.mp hx
  have hy' := allOf_mem.mp hy
  by_cases e : x = y
  · rw [e]; exact .refl
  · refine Rch.refl.step (nbr_mem.mpr ?_) hy
    by_cases l : x < y
    · exact .inl (allPrs_mem.mpr ⟨by simp only; omega, by simp only; omega, l, by simp only; omega⟩)
    · exact .inr (allPrs_mem.mpr ⟨by simp only; omega, by simp only; omega, by simp only; omega, by simp only; omega⟩)

/-! ### things of any form -/
def noKt : D → Bool
  | .kt _ => false
  | _ => true
structure Sh0 (M : Mp) (x : D) : Prop where
  ty : (tyN M x).isSome = true
  kt : noKt x = true
structure Sh1 (M : Mp) (x : D) : Prop where
  h : Sh0 M x
  i : ∀ l, x = .tup l → ∀ y ∈ l, (tyN M y).isSome = true
structure Sh2 (M : Mp) (x : D) : Prop where
  h : Sh0 M x
  z : ∀ l, x = .tup l → l.length ≤ 100000
  i : ∀ l, x = .tup l → ∀ y ∈ l, Sh1 M y
theorem sh1_tup {l : List D} (h : ∀ y ∈ l, ∀ M : Mp, (tyN M y).isSome = true) (M : Mp) : Sh1 M (.tup l) := ⟨⟨rfl, rfl⟩, fun l' e y hy => by injection e with e; rw [← e] at hy; exact h y hy M⟩
theorem sh1_two {x y : D} (h1 : ∀ M : Mp, (tyN M x).isSome = true) (h2 : ∀ M : Mp, (tyN M y).isSome = true) (M : Mp) : Sh1 M (.tup [x, y]) := sh1_tup (fun z hz => by
  rcases List.mem_cons.mp hz with rfl | hz
  · exact h1
  · rw [List.mem_singleton.mp hz]; exact h2) M
theorem sh1_pr (p : Int × Int) (M : Mp) : Sh1 M (prD p) := sh1_two (fun _ => rfl) (fun _ => rfl) M
theorem Sh2.tup {M : Mp} {l : List D} (hz : l.length ≤ 100000) (h : ∀ y ∈ l, Sh1 M y) : Sh2 M (.tup l) := ⟨⟨rfl, rfl⟩, fun l' e => by injection e with e; rw [← e]; exact hz, fun l' e y hy => by injection e with e; rw [← e] at hy; exact h y hy⟩
theorem Sh2.prs {M : Mp} {ps : List (Int × Int)} (hz : ps.length ≤ 100000) : Sh2 M (.tup (ps.map prD)) := .tup (by rw [List.length_map]; exact hz) fun y hy => by
  obtain ⟨p, _, rfl⟩ := List.mem_map.mp hy
  exact sh1_pr p M
theorem cut_map {α β : Type} (f : α → β) (l : List α) (lo hi : Option Int) : cutD (l.map f) lo hi = (cutD l lo hi).map f := by
  unfold cutD
  rw [List.length_map, List.map_take, List.map_drop]
theorem cut_len {α : Type} (l : List α) (lo hi : Option Int) : (cutD l lo hi).length ≤ l.length := by
  unfold cutD
  rw [List.length_take, List.length_drop]
  omega
theorem Sh2.at {M : Mp} {x : D} (h1 : (tyN M x).isSome = true) (h2 : noKt x = true) (h3 : ∀ l, x ≠ .tup l) : Sh2 M x := ⟨⟨h1, h2⟩, fun l e => absurd e (h3 l), fun l e => absurd e (h3 l)⟩
theorem bad_eq {a z : Str} : D.eq (.tup [.str a, .str z]) (.tup [.str a, .str z]) = true := by simp only [D.eq_tup, D.eqL_cons, D.eqL_nil, D.eq_str, beq_self_eq_true, Bool.and_self]
def isTupB : D → Bool
  | .tup _ => true
  | _ => false
theorem ty_tup {M : Mp} {x : D} {T : String} (h : tyN M x = some T) (hk : noKt x = true) : isiT T "tuple" = isTupB x := by
  have f1 : isiT "list" "tuple" = false := by decide +kernel
  have f2 : isiT "dict" "tuple" = false := by decide +kernel
  have f3 : isiT "NoneType" "tuple" = false := by decide +kernel
  have f4 : isiT "bool" "tuple" = false := by decide +kernel
  have f5 : isiT "int" "tuple" = false := by decide +kernel
  have f6 : isiT "str" "tuple" = false := by decide +kernel
  have f7 : isiT "tuple" "tuple" = true := by decide +kernel
  cases x with
  | kt l => cases hk
  | ref p =>
    simp only [tyN] at h
    split at h <;> first | (cases h; first | exact f1 | exact f2) | cases h
  | _ => simp only [tyN] at h; cases h <;> first | exact f1 | exact f2 | exact f3 | exact f4 | exact f5 | exact f6 | exact f7
def rpB (n : Int) : D → Bool
  | .tup [a, b] => a.within 0 (n - 1) && (b.within 0 (n - 1) && (match a, b with | .int i, .int j => decide (i < j) | _, _ => false))
  | _ => false
theorem within_int {x : D} {a b : Int} (h : x.within a b = true) : ∃ i : Int, x = .int i ∧ a ≤ i ∧ i ≤ b := by
  cases x with
  | int i =>
    simp only [D.within, Bool.and_eq_true, decide_eq_true_eq] at h
    exact ⟨i, rfl, h.1, h.2⟩
  | _ => cases h
theorem within_nint {x : D} {a b : Int} (h : x.isInt = false) : x.within a b = false := by
  cases x <;> first | rfl | cases h
theorem isInt_of {x : D} (h : x.isInt = true) : ∃ i : Int, x = .int i := by
  cases x <;> first | exact ⟨_, rfl⟩ | cases h
theorem lt_two {p q : Int × Int} : ([p.1, p.2] : List Int) < [q.1, q.2] ↔ prLt p q := by
  unfold prLt
  simp [List.cons_lt_cons_iff]
theorem rpB_pr {n : Int} {x : D} (h : rpB n x = true) : ∃ p : Int × Int, x = prD p ∧ prOk n p := by
  cases x with
  | tup l =>
    match l, h with
    | [a, b], h =>
      simp only [rpB, Bool.and_eq_true] at h
      obtain ⟨i, rfl, i0, i1⟩ := within_int h.1
      obtain ⟨j, rfl, j0, j1⟩ := within_int h.2.1
      have := of_decide_eq_true h.2.2
      exact ⟨(i, j), rfl, ⟨by simp only; omega, by simp only; omega, by simp only; omega⟩⟩
  | _ => cases h
theorem rpB_of {n : Int} {p : Int × Int} (h : prOk n p) : rpB n (prD p) = true := by
  obtain ⟨h1, h2, h3⟩ := h
  simp only [prD, rpB, D.within, Bool.and_eq_true, decide_eq_true_eq]
  omega
theorem rp_all {n : Int} : ∀ {l : List D}, (∀ x ∈ l, rpB n x = true) → ∃ ps : List (Int × Int), l = ps.map prD ∧ ∀ p ∈ ps, prOk n p
  | [], _ => ⟨[], rfl, fun _ h => by cases h⟩
  | x :: l, h => by
    obtain ⟨p, rfl, hp⟩ := rpB_pr (h x List.mem_cons_self)
    obtain ⟨ps, rfl, hps⟩ := rp_all (l := l) fun y hy => h y (List.mem_cons_of_mem _ hy)
    exact ⟨p :: ps, rfl, fun q hq => by
      rcases List.mem_cons.mp hq with rfl | hq
      · exact hp
      · exact hps q hq⟩
theorem prLt_tr {p q r : Int × Int} (h1 : prLt p q) (h2 : prLt q r) : prLt p r := by unfold prLt at *; omega
theorem pw_of_next {ps : List (Int × Int)} (h : ∀ (i : Nat) (p q : Int × Int), ps[i]? = some p → ps[i + 1]? = some q → prLt p q) : ps.Pairwise prLt := by
  rw [List.pairwise_iff_getElem]
  intro i j hi hj hij
  obtain ⟨k, rfl⟩ : ∃ k, j = i + 1 + k := ⟨j - (i + 1), by omega⟩
  clear hij
  induction k with
  | zero => exact h i _ _ (List.getElem?_eq_getElem hi) (List.getElem?_eq_getElem hj)
  | succ k ih => exact prLt_tr (ih (by omega)) (h (i + 1 + k) _ _ (List.getElem?_eq_getElem (by omega)) (List.getElem?_eq_getElem hj))
theorem pr_inj {ps qs : List (Int × Int)} (h : ps.map prD = qs.map prD) : ps = qs := by
  have e := eqL_pr ps qs
  rw [h, eqL_pr] at e
  exact of_decide_eq_true (by rw [← e]; exact decide_eq_true rfl)
/-- a thing that is right pairs, rising -/
def RightD (n : Int) (x : D) : Prop := ∃ ps, x = .tup (ps.map prD) ∧ PrsOk n ps
def prLtB (p q : Int × Int) : Bool := decide (p.1 < q.1 ∨ (p.1 = q.1 ∧ p.2 < q.2))
theorem prLtB_iff {p q : Int × Int} : prLtB p q = true ↔ prLt p q := by unfold prLtB prLt; exact decide_eq_true_iff
theorem geL_pr (p q : Int × Int) : geL [p.1, p.2] [q.1, q.2] = !prLtB p q := by
  rw [geL_two]
  unfold prLtB
  by_cases h : p.1 < q.1 ∨ (p.1 = q.1 ∧ p.2 < q.2)
  · rw [decide_eq_true h, Bool.not_true, decide_eq_false]
    omega
  · rw [decide_eq_false h, Bool.not_false, decide_eq_true]
    omega
theorem all_map {α : Type} {f : α → Bool} {l : List α} : (l.map f).all id = l.all f := by rw [List.all_map]; rfl
theorem any_map {α : Type} {f : α → Bool} {l : List α} : (l.map f).any id = l.any f := by rw [List.any_map]; rfl
theorem map_bls {α : Type} (f : α → Bool) (l : List α) : l.map (fun x => D.bl (f x)) = (l.map f).map .bl := by rw [List.map_map]; rfl

theorem lt_uniq : ∀ {ps qs : List (Int × Int)}, ps.Pairwise prLt → qs.Pairwise prLt → (∀ p, p ∈ ps ↔ p ∈ qs) → ps = qs
  | [], [], _, _, _ => rfl
  | [], q :: qs, _, _, h => by have := (h q).mpr List.mem_cons_self; cases this
  | p :: ps, [], _, _, h => by have := (h p).mp List.mem_cons_self; cases this
  | p :: ps, q :: qs, h1, h2, h => by
    rw [List.pairwise_cons] at h1 h2
    have irr : ∀ x : Int × Int, ¬ prLt x x := fun x hx => by unfold prLt at hx; omega
    have e : p = q := by
      rcases List.mem_cons.mp ((h p).mp List.mem_cons_self) with e | e
      · exact e
      · rcases List.mem_cons.mp ((h q).mpr List.mem_cons_self) with e2 | e2
        · exact e2.symm
        · exact absurd (prLt_tr (h1.1 _ e2) (h2.1 _ e)) (irr p)
    subst e
    rw [lt_uniq h1.2 h2.2 fun x => ⟨fun hx => ?_, fun hx => ?_⟩]
    · rcases List.mem_cons.mp ((h x).mp (List.mem_cons_of_mem _ hx)) with e | e
      · rw [e] at hx; exact absurd (h1.1 _ hx) (irr p)
      · exact e
    · rcases List.mem_cons.mp ((h x).mpr (List.mem_cons_of_mem _ hx)) with e | e
      · rw [e] at hx; exact absurd (h2.1 _ hx) (irr p)
      · exact e
theorem prD_inj {p q : Int × Int} (h : prD p = prD q) : p = q := by
  have := pr_inj (ps := [p]) (qs := [q]) (by rw [List.map_cons, List.map_cons, h])
  exact (List.cons.inj this).1

/-! ### two contents drawn together -/
theorem allOf_get {n u : Int} (h0 : 0 ≤ u) (h1 : u < n) : (allOf n)[u.toNat]? = some u := by
  unfold allOf
  rw [List.getElem?_map, List.getElem?_range (by omega)]
  show some ((u.toNat : Nat) : Int) = some u
  rw [Int.toNat_of_nonneg h0]
def foldT (a g x : Int) : Int := if x = g then a else if g < x then x - 1 else x
def tieP (x y : Int) : Int × Int := (if y < x then y else x, if x < y then y else x)
def DrawnM (ps : List (Int × Int)) (a g : Int) (r : Int × Int) : Prop := ∃ p ∈ ps, foldT a g p.1 ≠ foldT a g p.2 ∧ r = tieP (foldT a g p.1) (foldT a g p.2)
theorem drawn_snoc {ps : List (Int × Int)} {a g u v : Int} {r : Int × Int} : DrawnM (ps ++ [(u, v)]) a g r ↔ DrawnM ps a g r ∨ (foldT a g u ≠ foldT a g v ∧ r = tieP (foldT a g u) (foldT a g v)) := by
  unfold DrawnM
  constructor
  · rintro ⟨p, hp, h1, h2⟩
    rcases List.mem_append.mp hp with hp | hp
    · exact .inl ⟨p, hp, h1, h2⟩
    · rw [List.mem_singleton] at hp
      subst hp
      exact .inr ⟨h1, h2⟩
  · rintro (⟨p, hp, h1, h2⟩ | ⟨h1, h2⟩)
    · exact ⟨p, List.mem_append_left _ hp, h1, h2⟩
    · exact ⟨(u, v), List.mem_append_right _ (by simp), h1, h2⟩
theorem foldT_inj {a g x y : Int} (h0 : a < g) (h : foldT a g x = foldT a g y) : x = y ∨ (x = a ∧ y = g) ∨ (x = g ∧ y = a) := by
  unfold foldT at h
  split at h <;> split at h <;> (try split at h) <;> (try split at h) <;> omega
theorem foldT_rg {n a g x : Int} (a0 : 0 ≤ a) (ag : a < g) (gn : g < n) (x0 : 0 ≤ x) (xn : x < n) : 0 ≤ foldT a g x ∧ foldT a g x < n - 1 := by
  unfold foldT
  split
  · omega
  · split <;> omega
theorem tieP_rg {n x y : Int} (h : x ≠ y) (x0 : 0 ≤ x) (xn : x < n) (y0 : 0 ≤ y) (yn : y < n) : prOk n (tieP x y) := by
  unfold prOk tieP
  simp only
  split <;> split <;> omega
theorem tieP_or (x y : Int) : tieP x y = (x, y) ∨ tieP x y = (y, x) := by
  unfold tieP
  rcases (by omega : x < y ∨ x = y ∨ y < x) with h | h | h
  · left; rw [if_neg (by omega), if_pos h]
  · left; subst h; rw [if_neg (by omega)]
  · right; rw [if_pos h, if_neg (by omega)]
theorem tieP_comm (x y : Int) : tieP x y = tieP y x := by
  unfold tieP
  rcases (by omega : x < y ∨ x = y ∨ y < x) with h | h | h
  · rw [if_neg (by omega), if_pos h, if_pos h, if_neg (by omega)]
  · subst h; rfl
  · rw [if_pos h, if_neg (by omega), if_neg (by omega), if_pos h]
theorem tieP_inj {x y u v : Int} (h : tieP x y = tieP u v) : (x = u ∧ y = v) ∨ (x = v ∧ y = u) := by
  have e1 := congrArg Prod.fst h
  have e2 := congrArg Prod.snd h
  unfold tieP at e1 e2
  simp only at e1 e2
  split at e1 <;> split at e1 <;> split at e2 <;> split at e2 <;> omega
theorem drawn_nbr {ps : List (Int × Int)} {a g x y : Int} {qs : List (Int × Int)} (mem : ∀ r, r ∈ qs ↔ DrawnM ps a g r) (h : y ∈ nbr ps x) : foldT a g x = foldT a g y ∨ foldT a g y ∈ nbr qs (foldT a g x) := by
  by_cases e : foldT a g x = foldT a g y
  · exact .inl e
  · refine .inr (nbr_mem.mpr ?_)
    rw [mem, mem]
    rcases nbr_mem.mp h with h | h
    · rcases tieP_or (foldT a g x) (foldT a g y) with t | t
      · exact .inl ⟨_, h, e, t.symm⟩
      · exact .inr ⟨_, h, e, t.symm⟩
    · have e' : foldT a g y ≠ foldT a g x := fun z => e z.symm
      rcases tieP_or (foldT a g y) (foldT a g x) with t | t
      · exact .inr ⟨_, h, e', t.symm⟩
      · exact .inl ⟨_, h, e', t.symm⟩
theorem drawn_ok {n a g : Int} {ps qs : List (Int × Int)} (B : BookOk n ps) (hm : (a, g) ∈ ps) (pw : qs.Pairwise prLt) (mem : ∀ r, r ∈ qs ↔ DrawnM ps a g r) : BookOk (n - 1) qs := by
  have hag := B.pr.ok _ hm
  unfold prOk at hag
  simp only at hag
  have hhi := B.hi
  refine ⟨by omega, by omega, ⟨fun r hr => ?_, pw⟩, ?_⟩
  · obtain ⟨p, hp, ne, rfl⟩ := (mem r).mp hr
    have hpo := B.pr.ok _ hp
    unfold prOk at hpo
    have h1 := foldT_rg (a := a) (g := g) (x := p.1) hag.1 hag.2.1 hag.2.2 hpo.1 (by omega)
    have h2 := foldT_rg (a := a) (g := g) (x := p.2) hag.1 hag.2.1 hag.2.2 (by omega) hpo.2.2
    exact tieP_rg ne h1.1 h1.2 h2.1 h2.2
  · have rg : ∀ x, x ∈ allOf n → foldT a g x ∈ allOf (n - 1) := fun x hx => by
      rw [allOf_mem] at hx ⊢
      exact foldT_rg hag.1 hag.2.1 hag.2.2 hx.1 hx.2
    have up : ∀ (t : Nat) (x y : Int), Wk ps (allOf n) x t y → Rch qs (allOf (n - 1)) (foldT a g x) (foldT a g y) := fun t => by
      induction t with
      | zero => intro x y h; unfold Wk at h; subst h; exact .refl
      | succ t ih =>
        rintro x y ⟨z, h1, h2, h3⟩
        rcases drawn_nbr mem h2 with e | e
        · rw [← e]; exact ih x z h1
        · exact (ih x z h1).step e (rg _ h3)
    have onto : ∀ y, y ∈ allOf (n - 1) → ∃ x, x ∈ allOf n ∧ foldT a g x = y := fun y hy => by
      rw [allOf_mem] at hy
      by_cases h : y < g
      · exact ⟨y, allOf_mem.mpr (by omega), by unfold foldT; rw [if_neg (by omega), if_neg (by omega)]⟩
      · exact ⟨y + 1, allOf_mem.mpr (by omega), by unfold foldT; rw [if_neg (by omega), if_pos (by omega)]; omega⟩
    intro x hx y hy
    obtain ⟨x', hx', rfl⟩ := onto x hx
    obtain ⟨y', hy', rfl⟩ := onto y hy
    obtain ⟨t, ht⟩ := B.hang x' hx' y' hy'
    exact up t x' y' ht

theorem len_split {α : Type} (f : α → Bool) : ∀ l : List α, l.length = (l.filter f).length + (l.filter fun x => !f x).length
  | [] => rfl
  | x :: l => by
    have := len_split f l
    cases hf : f x <;> simp only [List.filter_cons, hf, Bool.not_true, Bool.not_false, List.length_cons, if_true, if_false, Bool.false_eq_true] <;> omega
def bothL (ps : List (Int × Int)) (a g : Int) : List Int := (srt (nbr ps a)).filter fun x => decide (x ∈ srt (nbr ps g))
theorem bothL_mem {ps : List (Int × Int)} {a g c : Int} : c ∈ bothL ps a g ↔ c ∈ nbr ps a ∧ c ∈ nbr ps g := by
  unfold bothL
  rw [List.mem_filter, srt_mem, decide_eq_true_iff, srt_mem]
def dropT (ps : List (Int × Int)) (a g : Int) (p : Int × Int) : Bool := decide (p = (a, g) ∨ (p.1 = g ∧ p.2 ∈ nbr ps a) ∨ (p.2 = g ∧ p.1 ∈ nbr ps a))
theorem dropT_not {ps : List (Int × Int)} {a g : Int} {p : Int × Int} (h : (!dropT ps a g p) = true) : p ≠ (a, g) ∧ (p.1 = g → ¬ p.2 ∈ nbr ps a) ∧ (p.2 = g → ¬ p.1 ∈ nbr ps a) := by
  unfold dropT at h
  rw [Bool.not_eq_true', decide_eq_false_iff_not] at h
  exact ⟨fun e => h (.inl e), fun e1 e2 => h (.inr (.inl ⟨e1, e2⟩)), fun e1 e2 => h (.inr (.inr ⟨e1, e2⟩))⟩
theorem drawn_inj {n a g : Int} {ps : List (Int × Int)} (h : PrsOk n ps) (ag : a < g) {p q : Int × Int} (hp : p ∈ ps) (hq : q ∈ ps) (dp : (!dropT ps a g p) = true) (dq : (!dropT ps a g q) = true)
    (e : tieP (foldT a g p.1) (foldT a g p.2) = tieP (foldT a g q.1) (foldT a g q.2)) : p = q := by
  obtain ⟨u, v⟩ := p
  obtain ⟨x, y⟩ := q
  have po := h.ok _ hp
  have qo := h.ok _ hq
  unfold prOk at po qo
  simp only at po qo e
  obtain ⟨p1, p2, p3⟩ := dropT_not dp
  obtain ⟨q1, q2, q3⟩ := dropT_not dq
  simp only [nbr_mem, not_or] at p2 p3 q2 q3
  rcases tieP_inj e with ⟨f1, f2⟩ | ⟨f1, f2⟩
  · rcases foldT_inj ag f1 with e1 | ⟨e1, e3⟩ | ⟨e1, e3⟩
    · rcases foldT_inj ag f2 with e2 | ⟨e2, e4⟩ | ⟨e2, e4⟩
      · rw [e1, e2]
      · subst e1 e2 e4; exact absurd hp (q3 rfl).2
      · subst e1 e2 e4; exact absurd hq (p3 rfl).2
    · rcases foldT_inj ag f2 with e2 | ⟨e2, e4⟩ | ⟨e2, e4⟩
      · subst e1 e2 e3; exact absurd hp (q2 rfl).1
      · omega
      · subst e1 e2; exact absurd rfl p1
    · rcases foldT_inj ag f2 with e2 | ⟨e2, e4⟩ | ⟨e2, e4⟩
      · subst e1 e2 e3; exact absurd hq (p2 rfl).1
      · omega
      · omega
  · rcases foldT_inj ag f1 with e1 | ⟨e1, e3⟩ | ⟨e1, e3⟩
    · rcases foldT_inj ag f2 with e2 | ⟨e2, e4⟩ | ⟨e2, e4⟩
      · omega
      · subst e1 e2 e4; omega
      · subst e1 e2 e4; exact absurd hq (p3 rfl).1
    · rcases foldT_inj ag f2 with e2 | ⟨e2, e4⟩ | ⟨e2, e4⟩
      · subst e1 e2 e3; exact absurd hp (q3 rfl).1
      · omega
      · subst e1 e2; exact absurd rfl p1
    · rcases foldT_inj ag f2 with e2 | ⟨e2, e4⟩ | ⟨e2, e4⟩
      · subst e1 e2 e3; omega
      · omega
      · omega
theorem drawn_len {n a g : Int} {ps qs : List (Int × Int)} (h : PrsOk n ps) (hm : (a, g) ∈ ps) (pw : qs.Pairwise prLt) (mem : ∀ r, r ∈ qs ↔ DrawnM ps a g r) : qs.length + 1 + (bothL ps a g).length = ps.length := by
  have hag := h.ok _ hm
  unfold prOk at hag
  simp only at hag
  have rise : ∀ {u v : Int}, (u, v) ∈ ps → u < v := fun hu => by
    have := h.ok _ hu
    unfold prOk at this
    exact this.2.1
  have noa : ∀ c, c ∈ nbr ps c → False := fun c hc => by
    rcases nbr_mem.mp hc with z | z <;> (have := rise z; omega)
  have tg : ∀ c, c ∈ nbr ps g → tieP g c ∈ ps := fun c hc => by
    rcases nbr_mem.mp hc with z | z
    · have := rise z
      rw [show tieP g c = (g, c) by unfold tieP; rw [if_neg (by omega), if_pos (by omega)]]
      exact z
    · have := rise z
      rw [show tieP g c = (c, g) by unfold tieP; rw [if_pos (by omega), if_neg (by omega)]]
      exact z
  have A : (ps.filter (dropT ps a g)).length = (bothL ps a g).length + 1 := by
    have nb : (bothL ps a g).Nodup := (nodup_perm (srt_perm _) (nbr_nodup h)).filter _
    have nr : ((a, g) :: (bothL ps a g).map (fun c => tieP g c)).Nodup := by
      rw [List.nodup_cons]
      refine ⟨fun hx => ?_, List.pairwise_map.mpr (nb.imp fun {x y} hxy e => ?_)⟩
      · obtain ⟨c, hc, e⟩ := List.mem_map.mp hx
        rcases tieP_or g c with t | t
        · rw [t] at e; injection e with e1 e2; omega
        · rw [t] at e; injection e with e1 e2
          subst e1
          exact noa _ (bothL_mem.mp hc).1
      · rcases tieP_inj e with ⟨_, z⟩ | ⟨z, z2⟩
        · exact hxy z
        · exact hxy (z2.trans z)
    have l1 := nodup_lenG (l := ps.filter (dropT ps a g)) (m := (a, g) :: (bothL ps a g).map (fun c => tieP g c)) (h.nodup.filter _) fun p hp0 => by
      obtain ⟨hp, hd⟩ := List.mem_filter.mp hp0
      unfold dropT at hd
      rw [decide_eq_true_iff] at hd
      obtain ⟨u, v⟩ := p
      have := rise hp
      rcases hd with e | ⟨e, hn⟩ | ⟨e, hn⟩
      · rw [e]; exact List.mem_cons_self
      · simp only at e hn
        subst e
        refine List.mem_cons_of_mem _ (List.mem_map.mpr ⟨v, bothL_mem.mpr ⟨hn, nbr_mem.mpr (.inl hp)⟩, ?_⟩)
        unfold tieP; rw [if_neg (by omega), if_pos (by omega)]
      · simp only at e hn
        subst e
        refine List.mem_cons_of_mem _ (List.mem_map.mpr ⟨u, bothL_mem.mpr ⟨hn, nbr_mem.mpr (.inr hp)⟩, ?_⟩)
        unfold tieP; rw [if_pos (by omega), if_neg (by omega)]
    have l2 := nodup_lenG (m := ps.filter (dropT ps a g)) (l := (a, g) :: (bothL ps a g).map (fun c => tieP g c)) nr fun p hp => by
      rw [List.mem_filter]
      unfold dropT
      rw [decide_eq_true_iff]
      rcases List.mem_cons.mp hp with e | hp
      · exact ⟨e ▸ hm, .inl e⟩
      · obtain ⟨c, hc, rfl⟩ := List.mem_map.mp hp
        obtain ⟨h1, h2⟩ := bothL_mem.mp hc
        refine ⟨tg c h2, ?_⟩
        rcases tieP_or g c with t | t
        · rw [t]; exact .inr (.inl ⟨rfl, h1⟩)
        · rw [t]; exact .inr (.inr ⟨rfl, h1⟩)
    rw [List.length_cons, List.length_map] at l1 l2
    omega
  have Bq : (ps.filter fun p => !dropT ps a g p).length = qs.length := by
    have hl : ((ps.filter fun p => !dropT ps a g p).map fun p => tieP (foldT a g p.1) (foldT a g p.2)).Nodup := by
      refine List.pairwise_map.mpr ((h.nodup.filter _).imp_of_mem fun {p q} hp hq ne e => ne ?_)
      obtain ⟨hp, dp⟩ := List.mem_filter.mp hp
      obtain ⟨hq, dq⟩ := List.mem_filter.mp hq
      exact drawn_inj h hag.2.1 hp hq dp dq e
    have nq : qs.Nodup := (PrsOk.nodup (n := n) ⟨fun r hr => by
      obtain ⟨p, hp, ne, rfl⟩ := (mem r).mp hr
      have hpo := h.ok _ hp
      unfold prOk at hpo
      have h1 := foldT_rg (a := a) (g := g) (x := p.1) hag.1 hag.2.1 hag.2.2 hpo.1 (by omega)
      have h2 := foldT_rg (a := a) (g := g) (x := p.2) hag.1 hag.2.1 hag.2.2 (by omega) hpo.2.2
      exact tieP_rg ne h1.1 (by omega) h2.1 (by omega), pw⟩)
    have fne : ∀ p ∈ ps, p ≠ (a, g) → foldT a g p.1 ≠ foldT a g p.2 := fun p hp ne e => by
      obtain ⟨u, v⟩ := p
      have := rise hp
      rcases foldT_inj hag.2.1 e with z | ⟨z, z2⟩ | ⟨z, z2⟩
      · simp only at z; omega
      · simp only at z z2; exact ne (by rw [z, z2])
      · simp only at z z2; omega
    have l1 := nodup_lenG (m := qs) hl fun r hr => by
      obtain ⟨p, hp, rfl⟩ := List.mem_map.mp hr
      obtain ⟨hp, dp⟩ := List.mem_filter.mp hp
      exact (mem _).mpr ⟨p, hp, fne p hp (dropT_not dp).1, rfl⟩
    have l2 := nodup_lenG (l := qs) (m := (ps.filter fun p => !dropT ps a g p).map fun p => tieP (foldT a g p.1) (foldT a g p.2)) nq fun r hr => by
      obtain ⟨p, hp, ne, rfl⟩ := (mem r).mp hr
      -- p itself, or the other one of two that are one
      have key : ∀ c, (foldT a g p.1 = a ∧ foldT a g p.2 = foldT a g c) ∨ (foldT a g p.2 = a ∧ foldT a g p.1 = foldT a g c) → c ∈ nbr ps a → c ≠ g → tieP (foldT a g p.1) (foldT a g p.2) ∈ (ps.filter fun p => !dropT ps a g p).map fun p => tieP (foldT a g p.1) (foldT a g p.2) := fun c hc hn cg => by
        have fa : foldT a g a = a := by unfold foldT; rw [if_neg (by omega), if_neg (by omega)]
        have et : tieP (foldT a g p.1) (foldT a g p.2) = tieP (foldT a g a) (foldT a g c) := by
          rw [fa]
          rcases hc with ⟨e1, e2⟩ | ⟨e1, e2⟩
          · rw [e1, e2]
          · rw [e1, e2, tieP_comm]
        rw [et]
        have ac : a ≠ c := fun e => noa a (by rw [← e] at hn; exact hn)
        rcases nbr_mem.mp hn with z | z
        · refine List.mem_map.mpr ⟨(a, c), List.mem_filter.mpr ⟨z, ?_⟩, rfl⟩
          unfold dropT
          rw [Bool.not_eq_true', decide_eq_false_iff_not]
          rintro (e | ⟨e, _⟩ | ⟨e, _⟩)
          · injection e with e1 e2; exact cg e2
          · simp only at e; omega
          · exact cg e
        · refine List.mem_map.mpr ⟨(c, a), List.mem_filter.mpr ⟨z, ?_⟩, tieP_comm _ _⟩
          unfold dropT
          rw [Bool.not_eq_true', decide_eq_false_iff_not]
          rintro (e | ⟨e, _⟩ | ⟨e, _⟩)
          · injection e with e1 e2; omega
          · exact cg e
          · simp only at e; omega
      by_cases d : dropT ps a g p = true
      · unfold dropT at d
        rw [decide_eq_true_iff] at d
        have fg : foldT a g g = a := by unfold foldT; rw [if_pos rfl]
        obtain ⟨u, v⟩ := p
        have ru := rise hp
        rcases d with e | ⟨e, hn⟩ | ⟨e, hn⟩
        · rw [e] at ne
          exact absurd (by simp only [fg]; unfold foldT; rw [if_neg (by omega), if_neg (by omega)]) ne
        · simp only at e hn key
          subst e
          exact key v (.inl ⟨fg, rfl⟩) hn (by omega)
        · simp only at e hn key
          subst e
          exact key u (.inr ⟨fg, rfl⟩) hn (by omega)
      · exact List.mem_map.mpr ⟨p, List.mem_filter.mpr ⟨hp, by cases hd : dropT ps a g p with | false => rfl | true => exact absurd hd d⟩, rfl⟩
    rw [List.length_map] at l1 l2
    omega
  have := len_split (dropT ps a g) ps
  omega

def TiedT (ps : List (Int × Int)) (a g x y : Int) : Prop := ∃ p ∈ ps, (foldT a g p.1 = x ∧ foldT a g p.2 = y) ∨ (foldT a g p.1 = y ∧ foldT a g p.2 = x)
noncomputable def tiedB (ps : List (Int × Int)) (a g x y : Int) : Bool := @decide (TiedT ps a g x y) (Classical.propDecidable _)
theorem tiedB_iff {ps : List (Int × Int)} {a g x y : Int} : tiedB ps a g x y = true ↔ TiedT ps a g x y := @decide_eq_true_iff _ (Classical.propDecidable _)
theorem tiedB_of {ps : List (Int × Int)} {a g x y : Int} {b : Bool} (h : b = true ↔ TiedT ps a g x y) : b = tiedB ps a g x y := by
  have := h.trans tiedB_iff.symm
  cases b <;> cases hc : tiedB ps a g x y <;> simp_all
/-- the pairs of one row -/
noncomputable def rowT (ps : List (Int × Int)) (a g m x : Int) : List (Int × Int) := ((List.range (m - (x + 1)).toNat).map fun (k : Nat) => (x, x + 1 + (k : Int))).filter fun r => tiedB ps a g r.1 r.2
theorem rowT_mem {ps : List (Int × Int)} {a g m x : Int} {r : Int × Int} : r ∈ rowT ps a g m x ↔ r.1 = x ∧ x < r.2 ∧ r.2 < m ∧ TiedT ps a g r.1 r.2 := by
  unfold rowT
  rw [List.mem_filter, tiedB_iff, List.mem_map]
  constructor
  · rintro ⟨⟨k, hk, rfl⟩, h⟩
    have := List.mem_range.mp hk
    exact ⟨rfl, by simp only; omega, by simp only; omega, h⟩
  · rintro ⟨h1, h2, h3, h4⟩
    refine ⟨⟨(r.2 - (x + 1)).toNat, List.mem_range.mpr (by omega), ?_⟩, h4⟩
    refine Prod.ext h1.symm ?_
    show x + 1 + (((r.2 - (x + 1)).toNat : Nat) : Int) = r.2
    omega
theorem rowT_pw {ps : List (Int × Int)} {a g m x : Int} : (rowT ps a g m x).Pairwise prLt := by
  unfold rowT
  refine List.Pairwise.filter _ (List.pairwise_map.mpr (List.pairwise_lt_range.imp fun {k j} h => .inr ⟨rfl, ?_⟩))
  show x + 1 + (k : Int) < x + 1 + (j : Int)
  omega
theorem rowT_len {ps : List (Int × Int)} {a g m x : Int} : (rowT ps a g m x).length ≤ (m - (x + 1)).toNat := by
  unfold rowT
  refine Nat.le_trans (List.length_filter_le _ _) ?_
  rw [List.length_map, List.length_range]
  exact Nat.le_refl _
theorem due_iff {n a g : Int} {ps : List (Int × Int)} (h : PrsOk n ps) (a0 : 0 ≤ a) (ag : a < g) (gn : g < n) {r : Int × Int} : (0 ≤ r.1 ∧ r.1 < n - 1 ∧ r.1 < r.2 ∧ r.2 < n - 1 ∧ TiedT ps a g r.1 r.2) ↔ DrawnM ps a g r := by
  constructor
  · rintro ⟨_, _, h3, _, p, hp, e⟩
    refine ⟨p, hp, by omega, ?_⟩
    rcases e with ⟨e1, e2⟩ | ⟨e1, e2⟩
    · rw [e1, e2]; unfold tieP; rw [if_neg (by omega), if_pos h3]
    · rw [e1, e2]; unfold tieP; rw [if_pos h3, if_neg (by omega)]
  · rintro ⟨p, hp, ne, rfl⟩
    have hpo := h.ok _ hp
    unfold prOk at hpo
    have h1 := foldT_rg (a := a) (g := g) (x := p.1) a0 ag gn hpo.1 (by omega)
    have h2 := foldT_rg (a := a) (g := g) (x := p.2) a0 ag gn (by omega) hpo.2.2
    have := tieP_rg ne h1.1 h1.2 h2.1 h2.2
    unfold prOk at this
    refine ⟨this.1, by omega, this.2.1, this.2.2, p, hp, ?_⟩
    rcases tieP_or (foldT a g p.1) (foldT a g p.2) with t | t
    · rw [t]; exact .inl ⟨rfl, rfl⟩
    · rw [t]; exact .inr ⟨rfl, rfl⟩

theorem DiceAt.extE {M M' : Mp} {p : Addr} (h : DiceAt M p) (e : Ext M M' []) : DiceAt M' p := by
  obtain ⟨r, ns, a, m, c, h1, h2⟩ := h.ex
  exact ⟨r, ns, a, m, c, e _ _ (by simp) h1, h2⟩
theorem book2 : BookOk 2 [(0, 1)] := by
  refine ⟨by decide, by decide, ⟨fun p hp => ?_, by simp⟩, ?_⟩
  · rw [List.mem_singleton.mp hp]; unfold prOk; decide
  · have z : (0 : Int) ∈ allOf 2 := allOf_mem.mpr (by decide)
    refine (hangs_from z).mpr fun x hx => ?_
    have := allOf_mem.mp hx
    by_cases e : x = 0
    · rw [e]; exact .refl
    · have : x = 1 := by omega
      subst this
      exact Rch.refl.step (nbr_mem.mpr (.inl (by simp))) hx
theorem book1 : BookOk 1 [] := by
  refine ⟨by decide, by decide, ⟨fun p hp => (by cases hp), .nil⟩, ?_⟩
  rw [show allOf 1 = [0] by decide]
  exact HangsP.one
theorem book_some {n : Int} {ps : List (Int × Int)} (B : BookOk n ps) (h : 2 ≤ n) : 0 < ps.length := by
  cases ps with
  | cons p ps => exact Nat.zero_lt_succ _
  | nil =>
    obtain ⟨t, ht⟩ := B.hang 0 (allOf_mem.mpr (by omega)) 1 (allOf_mem.mpr (by omega))
    cases t with
    | zero => unfold Wk at ht; omega
    | succ t => obtain ⟨z, _, h2, _⟩ := ht; rcases nbr_mem.mp h2 with h | h <;> cases h
theorem book_none {ps : List (Int × Int)} (B : BookOk 1 ps) : ps = [] := by
  cases ps with
  | nil => rfl
  | cons p ps =>
    have := B.pr.ok p List.mem_cons_self
    unfold prOk at this
    omega

section
variable {P : Program} {w : World} {K : PySem.W.Frag} {mg : Str → Option Value} {base : Heap}
theorem sc_Book___eq__ : FnScope ["self", "other"] ["self", "other"] (defScope s_Book___eq__) := ⟨rfl, rfl, rfl, by decide +kernel, rfl, by decide +kernel, by decide +kernel⟩
def sp_Book___eq__ (C_TB : Addr) : DSp := fun ds M Q _ => ∃ p n ps d p2 n2 ps2 d2, ds = [.ref p, .ref p2] ∧ BookAt C_TB M p n ps d ∧ BookAt C_TB M p2 n2 ps2 d2 ∧ Q (.bl (decide (n = n2) && decide (ps = ps2))) M
theorem c_Book___eq__ {f : Addr} {C_TB : Addr} (F : DMet K "__eq__" "Book.__eq__" s_Book___eq__ f ["self", "other"]) (B : Bn mg) (G : Gs mg) (TB : Cl_TB K mg C_TB) (CN_TB : mg "Book" = some (.ref C_TB)) (IK_TB : IsC K C_TB) (IC_TB : ICl K C_TB) : ∃ fd, FnOk P w K mg base CX0 1 f fd ["self", "other"] (liftSp K (sp_Book___eq__ C_TB)) ∧ Binds K fd ["self", "other"] [] := by
  refine dokM F sc_Book___eq__ (fun ds M Q E h => (by obtain ⟨_, h⟩ := h; first | (obtain ⟨e, _⟩ := h; subst e; rfl) | (obtain ⟨_, e, _⟩ := h; subst e; rfl) | (obtain ⟨_, _, e, _⟩ := h; subst e; rfl) | (obtain ⟨_, _, _, e, _⟩ := h; subst e; rfl) | (obtain ⟨_, _, _, _, e, _⟩ := h; subst e; rfl) | (obtain ⟨_, _, _, _, _, e, _⟩ := h; subst e; rfl) | (obtain ⟨_, _, _, _, _, _, e, _⟩ := h; subst e; rfl) | (obtain ⟨_, _, _, _, _, _, _, e, _⟩ := h; subst e; rfl) | (obtain ⟨_, _, _, _, _, _, _, _, e, _⟩ := h; subst e; rfl) | (obtain ⟨_, _, _, _, _, _, _, _, _, e, _⟩ := h; subst e; rfl))) (fun cdv A outer s H E F0 hr => ?_)
  have nd := (sc_Book___eq__).nd
  refine ⟨_, _, (db_cons (ds_if (dt_not (dt_val (de_isiC IK_TB B.isinstance (da_cons (de_var 1) (da_cons (de_cls CN_TB) da_nil))))) (db_one (ds_ret de_bl)) db_nil)
      (db_one (ds_ret (de_and (de_eq hr (de_fld TB.cl TB.n_kept_size (de_var 0)) (de_fld TB.cl TB.n_kept_size (de_var 1))) (de_one (de_eq hr (de_fld TB.cl TB.n_kept_ties (de_var 0)) (de_fld TB.cl TB.n_kept_ties (de_var 1)))))))), ?_⟩
  rintro ds M Q E ⟨p, n, ps, d, p2, n2, ps2, d2, rfl, B, B2, q⟩
  simp only [dVar, dC, dOp, dTest, dII, dIC, dFld, dFldS, dMake, dProp, dAugS, dLcM, toM, dppNil, dppCons, dMerge, dDisp, dCatL, dCatLM, dRep, dRepM, dClear, dExtend, dRg1, dRg2, dLstRg, dLstRgM, dTupRg, dChain, dEq, dIsN, dAnd, dOr, dNot, dIfE, dNext, dSeq, dBreak, dCont, dDrop, dRet, dRetN, dIfS, dNever, dFrzS, dFrz, hName, hNil, hCons, hTup, hSub, dAsg, dPar, dAug, dipI, dNil, dCons, dTup, dLst, dLstM, dIx, dSet, dCall, dwipe, dYes, jSeq, jRng1, jRng2, jStr, jZip, dCB, dLen, dList, dListM, dTuple, dII2, dAbs, dInt, dBM0, dBM, dAppend, dPop, dPopAt, dAndV, dOrV, dNotV, dNeg, dTruth, dIn, dCat, dNoPart, dPart, dSl, dSlM, dNewK, dNewT, dIsi, dIsiT, dLc, dFor, dDc, dLenSet, dLenSetG, dRev, dIsB, dCallS, dRaise, dTry, dIsE, dOwnEq, dOwnNe, dIndex, dSortD, dMin1, dMax1, dIsiC, dLc2, dFrzA, dFrzE, jKeys, jVals, jItems, dLcH, dForH, dEqM, dSortX, dCmpX, dSortSet, dSortDM, dRaiseF, dMakeS, dTryHs, dWHs, dXf, endsD, slotD, dChain3, if_true, if_false, ite_true, ite_false, Bool.false_eq_true, reduceIte, Bool.not_true, Bool.not_false, List.getElem?_cons_zero, List.getElem?_cons_succ, List.set_cons_zero, List.set_cons_succ, List.map_cons, List.map_nil, List.replicate, List.cons_append, List.nil_append, List.length_cons, List.length_nil, dstart, B.ob, B2.ob]
  refine ⟨trivial, .inr ⟨p2, C_TB, _, true, rfl, B2.ob, IC_TB, kit_self, ?_⟩⟩
  simp only [if_true, if_false, ite_true, ite_false, Bool.false_eq_true, reduceIte, Bool.not_true, Bool.not_false, List.getElem?_cons_zero, List.getElem?_cons_succ, List.set_cons_zero, List.set_cons_succ, List.map_cons, List.map_nil, List.replicate, List.cons_append, List.nil_append, List.length_cons, List.length_nil, dstart]
  refine ⟨trivial, _, fb_size n ps d, trivial, _, fb_size n2 ps2 d2, rfl, rfl, ?_⟩
  rw [D.eq_int]
  by_cases e1 : n = n2
  · rw [beq_iff_eq.mpr e1]
    simp only [if_true, if_false, ite_true, ite_false, Bool.false_eq_true, reduceIte, Bool.not_true, Bool.not_false, List.getElem?_cons_zero, List.getElem?_cons_succ, List.set_cons_zero, List.set_cons_succ, List.map_cons, List.map_nil, List.replicate, List.cons_append, List.nil_append, List.length_cons, List.length_nil, dstart]
    refine ⟨trivial, _, fb_ties n ps d, trivial, _, fb_ties n2 ps2 d2, okL_pr _ _, okL_pr _ _, ?_⟩
    rw [D.eq_tup, eqL_pr]
    rw [decide_eq_true e1, Bool.true_and] at q
    exact fin_self q
  · rw [beq_eq_false_iff_ne.mpr e1]
    simp only [if_true, if_false, ite_true, ite_false, Bool.false_eq_true, reduceIte, Bool.not_true, Bool.not_false, List.getElem?_cons_zero, List.getElem?_cons_succ, List.set_cons_zero, List.set_cons_succ, List.map_cons, List.map_nil, List.replicate, List.cons_append, List.nil_append, List.length_cons, List.length_nil, dstart]
    rw [decide_eq_false e1, Bool.false_and] at q
    exact fin_self q
theorem sc__law_draw : FnScope ["_law_source_here", "_law_many", "_law_cell", "_law_digit", "_law_number"] ["_law_source_here", "_law_many"] (defScope s__law_draw) := ⟨rfl, rfl, rfl, by decide +kernel, rfl, by decide +kernel, by decide +kernel⟩
def sp__law_draw : DSp := fun ds M Q _ => ∃ (p : Addr) (n : Int), ds = [.ref p, .int n] ∧ DiceAt M p ∧ 1 ≤ n ∧ n < 1073741824 ∧ ∀ (r : Int) M2, 0 ≤ r → r < n → DiceAt M2 p → Agree M M2 [p] → Q (.int r) M2
theorem c__law_draw (F : DFun K mg "_law_draw" s__law_draw ["_law_source_here", "_law_many"]) (B : Bn mg) (G : Gs mg)  : DCal P w K mg base CX0 1 "_law_draw" sp__law_draw := by
  refine dok F sc__law_draw (fun ds M Q E h => (by obtain ⟨_, h⟩ := h; first | (obtain ⟨e, _⟩ := h; subst e; rfl) | (obtain ⟨_, e, _⟩ := h; subst e; rfl) | (obtain ⟨_, _, e, _⟩ := h; subst e; rfl) | (obtain ⟨_, _, _, e, _⟩ := h; subst e; rfl) | (obtain ⟨_, _, _, _, e, _⟩ := h; subst e; rfl) | (obtain ⟨_, _, _, _, _, e, _⟩ := h; subst e; rfl) | (obtain ⟨_, _, _, _, _, _, e, _⟩ := h; subst e; rfl) | (obtain ⟨_, _, _, _, _, _, _, e, _⟩ := h; subst e; rfl) | (obtain ⟨_, _, _, _, _, _, _, _, e, _⟩ := h; subst e; rfl) | (obtain ⟨_, _, _, _, _, _, _, _, _, e, _⟩ := h; subst e; rfl))) (fun f cdv A outer s H E F0 hr => ?_)
  have nd := (sc__law_draw).nd
  refine ⟨_, _, (db_cons (ds_if (DW.dt (dw_and (dt_eq hr (de_ix hr (de_var 0) de_str) de_int) (dw_and1 (dt_lt (de_ix hr (de_var 0) de_str) (de_len B.len (da_cons (de_ix hr (de_var 0) de_str) da_nil)))))) (db_cons (ds_set 2 nd (de_ix hr (de_ix hr (de_var 0) de_str) (de_ix hr (de_var 0) de_str)))
      (db_cons (ds_augS hr (de_var 0) de_str de_int ip_add (lip_I _))
      (db_one (ds_if (dt_ge (de_var 2) (de_pow de_int de_int)) (db_one (ds_put hr (de_var 0) de_str (de_var 2))) (db_one (ds_put hr (de_var 0) de_str (de_mod (de_bty call_int1 lc_int B.int (da_cons (de_mul (de_add (de_ix hr (de_var 0) de_str) (de_mod (de_bty call_int1 lc_int B.int (da_cons (de_var 2) da_nil)) de_int)) de_int) da_nil)) de_int))))))) db_nil)
      (db_cons (ds_if (dt_gt (de_ix hr (de_var 0) de_str) de_int) (db_cons (ds_set 3 nd (de_mod (de_bty call_int1 lc_int B.int (da_cons (de_ix hr (de_var 0) de_str) da_nil)) (de_var 1)))
      (db_cons (ds_put hr (de_var 0) de_str (de_fdiv (de_ix hr (de_var 0) de_str) (de_var 1)))
      (db_one (ds_ret (de_var 3))))) db_nil)
      (db_cons (ds_augS hr (de_var 0) de_str de_int ip_add (lip_I _))
      (db_cons (ds_set 4 nd (de_mod (de_bty call_int1 lc_int B.int (da_cons (de_mul (de_add (de_ix hr (de_var 0) de_str) (de_mul de_int (de_ix hr (de_var 0) de_str))) de_int) da_nil)) de_int))
      (db_cons (ds_set 4 nd (de_mod (de_bty call_int1 lc_int B.int (da_cons (de_mul (de_var 4) (de_add (de_fdiv (de_var 4) de_int) de_int)) da_nil)) de_int))
      (db_cons (ds_set 4 nd (de_mod (de_bty call_int1 lc_int B.int (da_cons (de_mul (de_var 4) (de_add (de_fdiv (de_var 4) de_int) de_int)) da_nil)) de_int))
      (db_cons (ds_put hr (de_var 0) de_str (de_add (de_var 4) de_int))
      (db_one (ds_ret (de_mod (de_bty call_int1 lc_int B.int (da_cons (de_fdiv (de_var 4) de_int) da_nil)) (de_var 1))))))))))), ?_⟩
  rintro ds M Q E ⟨p, n, rfl, ⟨r, ns, a, m, c, hp, hr0, ha0⟩, h1, h2, q⟩
  refine dSeq_gen (fun γ' M' => ∃ o r ns a m c, γ' = [some (.ref p), some (.int n), o, none, none] ∧ M' p = some (.dK (diceL r ns a m c)) ∧ 0 ≤ r ∧ 0 ≤ a ∧ Agree M M' [p]) ?_ (fun nx hn => ?_)
  · rintro γ' M' ⟨o, r, ns, a, m, c, rfl, hp, hr0, ha0, ag⟩
    have ag2 : ∀ kvs, Agree M (mset M' p (.dK kvs)) [p] := fun kvs => ag.trans (Agree.mset (by simp))
    simp only [dVar, dC, dOp, dTest, dII, dIC, dFld, dFldS, dMake, dProp, dAugS, dLcM, toM, dppNil, dppCons, dMerge, dDisp, dCatL, dCatLM, dRep, dRepM, dClear, dExtend, dRg1, dRg2, dLstRg, dLstRgM, dTupRg, dChain, dEq, dIsN, dAnd, dOr, dNot, dIfE, dNext, dSeq, dBreak, dCont, dDrop, dRet, dRetN, dIfS, dNever, dFrzS, dFrz, hName, hNil, hCons, hTup, hSub, dAsg, dPar, dAug, dipI, dNil, dCons, dTup, dLst, dLstM, dIx, dSet, dCall, dwipe, dYes, jSeq, jRng1, jRng2, jStr, jZip, dCB, dLen, dList, dListM, dTuple, dII2, dAbs, dInt, dBM0, dBM, dAppend, dPop, dPopAt, dAndV, dOrV, dNotV, dNeg, dTruth, dIn, dCat, dNoPart, dPart, dSl, dSlM, dNewK, dNewT, dIsi, dIsiT, dLc, dFor, dDc, dLenSet, dLenSetG, dRev, dIsB, dCallS, dRaise, dTry, dIsE, dOwnEq, dOwnNe, dIndex, dSortD, dMin1, dMax1, dIsiC, dLc2, dFrzA, dFrzE, jKeys, jVals, jItems, dLcH, dForH, dEqM, dSortX, dCmpX, dSortSet, dSortDM, dRaiseF, dMakeS, dTryHs, dWHs, dXf, endsD, slotD, dChain3, if_true, if_false, ite_true, ite_false, Bool.false_eq_true, reduceIte, Bool.not_true, Bool.not_false, List.getElem?_cons_zero, List.getElem?_cons_succ, List.set_cons_zero, List.set_cons_succ, List.map_cons, List.map_nil, List.replicate, List.cons_append, List.nil_append, List.length_cons, List.length_nil, dstart]
    refine ⟨_, ix_rest hp, ?_⟩
    by_cases hr1 : 0 < r
    · simp only [decide_eq_true hr1, if_true, if_false, ite_true, ite_false, Bool.false_eq_true, reduceIte, Bool.not_true, Bool.not_false, List.getElem?_cons_zero, List.getElem?_cons_succ, List.set_cons_zero, List.set_cons_succ, List.map_cons, List.map_nil, List.replicate, List.cons_append, List.nil_append, List.length_cons, List.length_nil, dstart]
      refine ⟨_, ix_rest hp, by omega, _, ix_rest hp, ⟨by omega, h2⟩, _, st_rest hp, ?_⟩
      refine fin_self (q _ _ (Int.emod_nonneg _ (by omega)) (Int.emod_lt_of_pos _ (by omega)) ⟨_, _, _, _, _, mset_same, Int.ediv_nonneg hr0 (by omega), ha0⟩ (ag2 _))
    · simp only [decide_eq_false hr1, if_true, if_false, ite_true, ite_false, Bool.false_eq_true, reduceIte, Bool.not_true, Bool.not_false, List.getElem?_cons_zero, List.getElem?_cons_succ, List.set_cons_zero, List.set_cons_succ, List.map_cons, List.map_nil, List.replicate, List.cons_append, List.nil_append, List.length_cons, List.length_nil, dstart]
      have h3 := mset_same (M := M') (a := p) (o := .dK (diceL r ns a m (c + 1)))
      refine ⟨_, lk_count hp, _, st_count hp, _, ix_mixed h3, _, ix_count h3, cmulL (by decide), cmulR (by decide), by decide, ?_⟩
      generalize hx : (m + 7919 * (c + 1)) * 48271 % 2147483647 = x
      have bx : 0 ≤ x ∧ x < 2147483647 := by omega
      refine ⟨⟨by decide, by decide⟩, cmulL (by omega), by decide, ?_⟩
      generalize hy : x * (x / 1009 + 69621) % 2147483647 = y
      have by' : 0 ≤ y ∧ y < 2147483647 := by omega
      refine ⟨⟨by decide, by decide⟩, cmulL (by omega), by decide, _, st_mixed h3, ⟨by decide, by decide⟩, by omega, ?_⟩
      rw [mset_mset]
      exact fin_self (q _ _ (Int.emod_nonneg _ (by omega)) (Int.emod_lt_of_pos _ (by omega)) ⟨_, _, _, _, _, mset_same, hr0, ha0⟩ (ag2 _))
  · simp only [dVar, dC, dOp, dTest, dII, dIC, dFld, dFldS, dMake, dProp, dAugS, dLcM, toM, dppNil, dppCons, dMerge, dDisp, dCatL, dCatLM, dRep, dRepM, dClear, dExtend, dRg1, dRg2, dLstRg, dLstRgM, dTupRg, dChain, dEq, dIsN, dAnd, dOr, dNot, dIfE, dNext, dSeq, dBreak, dCont, dDrop, dRet, dRetN, dIfS, dNever, dFrzS, dFrz, hName, hNil, hCons, hTup, hSub, dAsg, dPar, dAug, dipI, dNil, dCons, dTup, dLst, dLstM, dIx, dSet, dCall, dwipe, dYes, jSeq, jRng1, jRng2, jStr, jZip, dCB, dLen, dList, dListM, dTuple, dII2, dAbs, dInt, dBM0, dBM, dAppend, dPop, dPopAt, dAndV, dOrV, dNotV, dNeg, dTruth, dIn, dCat, dNoPart, dPart, dSl, dSlM, dNewK, dNewT, dIsi, dIsiT, dLc, dFor, dDc, dLenSet, dLenSetG, dRev, dIsB, dCallS, dRaise, dTry, dIsE, dOwnEq, dOwnNe, dIndex, dSortD, dMin1, dMax1, dIsiC, dLc2, dFrzA, dFrzE, jKeys, jVals, jItems, dLcH, dForH, dEqM, dSortX, dCmpX, dSortSet, dSortDM, dRaiseF, dMakeS, dTryHs, dWHs, dXf, endsD, slotD, dChain3, if_true, if_false, ite_true, ite_false, Bool.false_eq_true, reduceIte, Bool.not_true, Bool.not_false, List.getElem?_cons_zero, List.getElem?_cons_succ, List.set_cons_zero, List.set_cons_succ, List.map_cons, List.map_nil, List.replicate, List.cons_append, List.nil_append, List.length_cons, List.length_nil, dstart]
    refine ⟨_, ix_rest hp, rfl, rfl, ?_⟩
    rw [D.eq_int]
    have stay : nx [some (.ref p), some (.int n), none, none, none] M := hn _ _ ⟨none, r, ns, a, m, c, rfl, hp, hr0, ha0, Agree.refl _ _⟩
    by_cases hr1 : r = 0
    · simp only [hr1, beq_self_eq_true, if_true, if_false, ite_true, ite_false, Bool.false_eq_true, reduceIte, Bool.not_true, Bool.not_false, List.getElem?_cons_zero, List.getElem?_cons_succ, List.set_cons_zero, List.set_cons_succ, List.map_cons, List.map_nil, List.replicate, List.cons_append, List.nil_append, List.length_cons, List.length_nil, dstart]
      subst hr1
      refine ⟨_, ix_at hp, _, ix_cells hp, ns.length, by simp [lenV], ?_⟩
      by_cases hal : a < (ns.length : Int)
      · simp only [decide_eq_true hal, if_true, if_false, ite_true, ite_false, Bool.false_eq_true, reduceIte, Bool.not_true, Bool.not_false, List.getElem?_cons_zero, List.getElem?_cons_succ, List.set_cons_zero, List.set_cons_succ, List.map_cons, List.map_nil, List.replicate, List.cons_append, List.nil_append, List.length_cons, List.length_nil, dstart]
        have hk : a.toNat < ns.length := by omega
        have e1 : ns[a.toNat]? = some ns[a.toNat] := List.getElem?_eq_getElem hk
        generalize ns[a.toNat] = x at e1
        have e2 : dIxV M (.lst (ns.map .int)) (.int a) = some (.int x) := atI_at (k := a.toNat) (by omega) (by rw [List.getElem?_map, e1]; rfl)
        have h3 := mset_same (M := M) (a := p) (o := .dK (diceL 0 ns (a + 1) m c))
        refine ⟨_, ix_cells hp, _, ix_at hp, _, e2, _, lk_at hp, _, st_at hp, ⟨by decide, by decide, by decide⟩, ?_⟩
        by_cases hx : (10 : Int) ^ (18 : Int).toNat ≤ x
        · simp only [decide_eq_true hx, if_true, if_false, ite_true, ite_false, Bool.false_eq_true, reduceIte, Bool.not_true, Bool.not_false, List.getElem?_cons_zero, List.getElem?_cons_succ, List.set_cons_zero, List.set_cons_succ, List.map_cons, List.map_nil, List.replicate, List.cons_append, List.nil_append, List.length_cons, List.length_nil, dstart]
          refine ⟨_, st_rest h3, hn _ _ ⟨_, x, ns, a + 1, m, c, rfl, ?_, ?_, by omega, ?_⟩⟩
          · rw [mset_mset]; exact mset_same
          · have : (0 : Int) ≤ 10 ^ (18 : Int).toNat := by decide
            omega
          · rw [mset_mset]; exact Agree.mset (by simp)
        · simp only [decide_eq_false hx, if_true, if_false, ite_true, ite_false, Bool.false_eq_true, reduceIte, Bool.not_true, Bool.not_false, List.getElem?_cons_zero, List.getElem?_cons_succ, List.set_cons_zero, List.set_cons_succ, List.map_cons, List.map_nil, List.replicate, List.cons_append, List.nil_append, List.length_cons, List.length_nil, dstart]
          refine ⟨_, ix_mixed h3, by decide, cmulR (by decide), by decide, _, st_mixed h3, hn _ _ ⟨_, 0, ns, a + 1, (m + x % 2147483629) * 48271 % 2147483647, c, rfl, ?_, by omega, by omega, ?_⟩⟩
          · rw [mset_mset]; exact mset_same
          · rw [mset_mset]; exact Agree.mset (by simp)
      · simp only [decide_eq_false hal, if_true, if_false, ite_true, ite_false, Bool.false_eq_true, reduceIte, Bool.not_true, Bool.not_false, List.getElem?_cons_zero, List.getElem?_cons_succ, List.set_cons_zero, List.set_cons_succ, List.map_cons, List.map_nil, List.replicate, List.cons_append, List.nil_append, List.length_cons, List.length_nil, dstart]
        exact stay
    · rw [beq_eq_false_iff_ne.mpr hr1]
      simp only [if_true, if_false, ite_true, ite_false, Bool.false_eq_true, reduceIte, Bool.not_true, Bool.not_false, List.getElem?_cons_zero, List.getElem?_cons_succ, List.set_cons_zero, List.set_cons_succ, List.map_cons, List.map_nil, List.replicate, List.cons_append, List.nil_append, List.length_cons, List.length_nil, dstart]
      exact stay
theorem sc__law_order : FnScope ["_law_source_here", "_law_size", "_law_left", "_law_found", "_law_k"] ["_law_source_here", "_law_size"] (defScope s__law_order) := ⟨rfl, rfl, rfl, by decide +kernel, rfl, by decide +kernel, by decide +kernel⟩
def sp__law_order : DSp := fun ds M Q _ => ∃ (p : Addr) (n : Int), ds = [.ref p, .int n] ∧ DiceAt M p ∧ 0 ≤ n ∧ n ≤ 1000000 ∧ ∀ (ns : List Int) l M2, DiceAt M2 p → Agree M M2 [p] → M2 l = none → ns.Nodup → (∀ x, x ∈ ns ↔ 0 ≤ x ∧ x < n) → ns.length = n.toNat → Q (.ref l) (mset M2 l (.lst (ns.map .int)))
theorem c__law_order (F : DFun K mg "_law_order" s__law_order ["_law_source_here", "_law_size"]) (B : Bn mg) (G : Gs mg) (c__law_draw : DCal P w K mg base CX0 1 "_law_draw" sp__law_draw) : DCal P w K mg base CX0 2 "_law_order" sp__law_order := by
  refine dok F sc__law_order (fun ds M Q E h => (by obtain ⟨_, h⟩ := h; first | (obtain ⟨e, _⟩ := h; subst e; rfl) | (obtain ⟨_, e, _⟩ := h; subst e; rfl) | (obtain ⟨_, _, e, _⟩ := h; subst e; rfl) | (obtain ⟨_, _, _, e, _⟩ := h; subst e; rfl) | (obtain ⟨_, _, _, _, e, _⟩ := h; subst e; rfl) | (obtain ⟨_, _, _, _, _, e, _⟩ := h; subst e; rfl) | (obtain ⟨_, _, _, _, _, _, e, _⟩ := h; subst e; rfl) | (obtain ⟨_, _, _, _, _, _, _, e, _⟩ := h; subst e; rfl) | (obtain ⟨_, _, _, _, _, _, _, _, e, _⟩ := h; subst e; rfl) | (obtain ⟨_, _, _, _, _, _, _, _, _, e, _⟩ := h; subst e; rfl))) (fun f cdv A outer s H E F0 hr => ?_)
  have nd := (sc__law_order).nd
  refine ⟨_, _, (db_cons (ds_set 2 nd (de_listRgM B.list (drg_1 B.range (de_var 1))))
      (db_cons (ds_set 3 nd (de_lstM da_nil))
      (db_cons (ds_for PassesOwn.never rfl (di_range1 B.range (da_cons (de_var 1) da_nil)) (dg_name 4 nd) (db_one (ds_expr (de_append (de_var 3) (da_cons (de_popAt (de_var 2) (da_cons (de_call c__law_draw hr (goes0A (E := DXK.no)) (da_cons (de_var 0) (da_cons (de_len B.len (da_cons (de_var 2) da_nil)) da_nil))) da_nil)) da_nil)))))
      (db_one (ds_ret (de_var 3)))))), ?_⟩
  rintro ds M Q E ⟨p, n, rfl, hp, h0, hn, q⟩
  simp only [dVar, dC, dOp, dTest, dII, dIC, dFld, dFldS, dMake, dProp, dAugS, dLcM, toM, dppNil, dppCons, dMerge, dDisp, dCatL, dCatLM, dRep, dRepM, dClear, dExtend, dRg1, dRg2, dLstRg, dLstRgM, dTupRg, dChain, dEq, dIsN, dAnd, dOr, dNot, dIfE, dNext, dSeq, dBreak, dCont, dDrop, dRet, dRetN, dIfS, dNever, dFrzS, dFrz, hName, hNil, hCons, hTup, hSub, dAsg, dPar, dAug, dipI, dNil, dCons, dTup, dLst, dLstM, dIx, dSet, dCall, dwipe, dYes, jSeq, jRng1, jRng2, jStr, jZip, dCB, dLen, dList, dListM, dTuple, dII2, dAbs, dInt, dBM0, dBM, dAppend, dPop, dPopAt, dAndV, dOrV, dNotV, dNeg, dTruth, dIn, dCat, dNoPart, dPart, dSl, dSlM, dNewK, dNewT, dIsi, dIsiT, dLc, dFor, dDc, dLenSet, dLenSetG, dRev, dIsB, dCallS, dRaise, dTry, dIsE, dOwnEq, dOwnNe, dIndex, dSortD, dMin1, dMax1, dIsiC, dLc2, dFrzA, dFrzE, jKeys, jVals, jItems, dLcH, dForH, dEqM, dSortX, dCmpX, dSortSet, dSortDM, dRaiseF, dMakeS, dTryHs, dWHs, dXf, endsD, slotD, dChain3, if_true, if_false, ite_true, ite_false, Bool.false_eq_true, reduceIte, Bool.not_true, Bool.not_false, List.getElem?_cons_zero, List.getElem?_cons_succ, List.set_cons_zero, List.set_cons_succ, List.map_cons, List.map_nil, List.replicate, List.cons_append, List.nil_append, List.length_cons, List.length_nil, dstart]
  refine ⟨⟨by omega, by omega, by omega, by omega, by omega⟩, fun a ha => ⟨by decide, fun b hb => ⟨by omega, ?_⟩⟩⟩
  have nap : a ≠ p := hp.some ha
  have nba : b ≠ a := fun e => by (rw [e, mset_same] at hb; cases hb)
  have hb0 : M b = none := by rw [mset_ne nba] at hb; exact hb
  have nbp : b ≠ p := hp.some hb0
  refine dForI_of (fun i γ M' => ∃ (o : Option D) (ls fs : List Int), γ = [some (.ref p), some (.int n), some (.ref a), some (.ref b), o] ∧ M' a = some (.lst (ls.map .int)) ∧ M' b = some (.lst (fs.map .int)) ∧ DiceAt M' p ∧ Ext M M' [p] ∧ fs.length = i ∧ (ls ++ fs).Perm ((List.range n.toNat).map fun (i : Nat) => (0 : Int) + i)) ⟨none, (List.range n.toNat).map fun (i : Nat) => (0 : Int) + i, [], rfl, ?_, mset_same, ?_, ?_, rfl, by simp⟩ ?_ ?_
  · rw [mset_ne (Ne.symm nba), mset_same, rgL]
    simp
  · exact (hp.mset nap).mset nbp
  · exact ((Ext.refl M [p]).mset ha).mset hb0
  · rintro i d γ M' hd ⟨o, ls, fs, rfl, h1, h2, h3, h4, h5, h6⟩
    obtain ⟨hi, rfl⟩ := rgD_get hd
    have hlen : ls.length + fs.length = n.toNat := by
      have := h6.length_eq
      simpa using this
    simp only [dVar, dC, dOp, dTest, dII, dIC, dFld, dFldS, dMake, dProp, dAugS, dLcM, toM, dppNil, dppCons, dMerge, dDisp, dCatL, dCatLM, dRep, dRepM, dClear, dExtend, dRg1, dRg2, dLstRg, dLstRgM, dTupRg, dChain, dEq, dIsN, dAnd, dOr, dNot, dIfE, dNext, dSeq, dBreak, dCont, dDrop, dRet, dRetN, dIfS, dNever, dFrzS, dFrz, hName, hNil, hCons, hTup, hSub, dAsg, dPar, dAug, dipI, dNil, dCons, dTup, dLst, dLstM, dIx, dSet, dCall, dwipe, dYes, jSeq, jRng1, jRng2, jStr, jZip, dCB, dLen, dList, dListM, dTuple, dII2, dAbs, dInt, dBM0, dBM, dAppend, dPop, dPopAt, dAndV, dOrV, dNotV, dNeg, dTruth, dIn, dCat, dNoPart, dPart, dSl, dSlM, dNewK, dNewT, dIsi, dIsiT, dLc, dFor, dDc, dLenSet, dLenSetG, dRev, dIsB, dCallS, dRaise, dTry, dIsE, dOwnEq, dOwnNe, dIndex, dSortD, dMin1, dMax1, dIsiC, dLc2, dFrzA, dFrzE, jKeys, jVals, jItems, dLcH, dForH, dEqM, dSortX, dCmpX, dSortSet, dSortDM, dRaiseF, dMakeS, dTryHs, dWHs, dXf, endsD, slotD, dChain3, if_true, if_false, ite_true, ite_false, Bool.false_eq_true, reduceIte, Bool.not_true, Bool.not_false, List.getElem?_cons_zero, List.getElem?_cons_succ, List.set_cons_zero, List.set_cons_succ, List.map_cons, List.map_nil, List.replicate, List.cons_append, List.nil_append, List.length_cons, List.length_nil, dstart]
    simp only [tyD, h1, h2]
    refine ⟨trivial, trivial, ls.length, by simp only [lenV, h1, List.length_map], p, ls.length, rfl, h3, by omega, by omega, fun r M2 r0 r1 d2 a2 => ?_⟩
    have a2a : M2 a = some (.lst (ls.map .int)) := (a2 a (by simpa using nap)).trans h1
    have a2b : M2 b = some (.lst (fs.map .int)) := (a2 b (by simpa using nbp)).trans h2
    have hr : r.toNat < ls.length := by omega
    have e1 : ls[r.toNat]? = some ls[r.toNat] := List.getElem?_eq_getElem hr
    generalize ls[r.toNat] = x at e1
    simp only [a2a]
    refine ⟨r.toNat, .int x, ?_, by rw [List.getElem?_map, e1]; rfl, ?_⟩
    · rw [List.length_map]
      exact ixN_of (by omega) hr
    simp only [mset_ne nba, a2b]
    refine ⟨len_lt (by rw [List.length_map]; omega), _, ls.eraseIdx r.toNat, fs ++ [x], rfl, ?_, ?_, (d2.mset nap).mset nbp, ((h4.trans a2.ext).mset ha).mset hb0, by rw [List.length_append, h5]; rfl, ?_⟩
    · rw [mset_ne (Ne.symm nba), mset_same, map_erase]
    · rw [mset_same, List.map_append]; rfl
    · refine List.Perm.trans ?_ h6
      have z := eraseIdx_perm e1
      have : (ls.eraseIdx r.toNat ++ (fs ++ [x])).Perm ((ls.eraseIdx r.toNat ++ [x]) ++ fs) := by
        rw [List.append_assoc]
        exact List.Perm.append_left _ List.perm_append_comm
      exact this.trans (z.append_right fs)
  · rintro γ M' ⟨o, ls, fs, rfl, h1, h2, h3, h4, h5, h6⟩
    simp only [dVar, dC, dOp, dTest, dII, dIC, dFld, dFldS, dMake, dProp, dAugS, dLcM, toM, dppNil, dppCons, dMerge, dDisp, dCatL, dCatLM, dRep, dRepM, dClear, dExtend, dRg1, dRg2, dLstRg, dLstRgM, dTupRg, dChain, dEq, dIsN, dAnd, dOr, dNot, dIfE, dNext, dSeq, dBreak, dCont, dDrop, dRet, dRetN, dIfS, dNever, dFrzS, dFrz, hName, hNil, hCons, hTup, hSub, dAsg, dPar, dAug, dipI, dNil, dCons, dTup, dLst, dLstM, dIx, dSet, dCall, dwipe, dYes, jSeq, jRng1, jRng2, jStr, jZip, dCB, dLen, dList, dListM, dTuple, dII2, dAbs, dInt, dBM0, dBM, dAppend, dPop, dPopAt, dAndV, dOrV, dNotV, dNeg, dTruth, dIn, dCat, dNoPart, dPart, dSl, dSlM, dNewK, dNewT, dIsi, dIsiT, dLc, dFor, dDc, dLenSet, dLenSetG, dRev, dIsB, dCallS, dRaise, dTry, dIsE, dOwnEq, dOwnNe, dIndex, dSortD, dMin1, dMax1, dIsiC, dLc2, dFrzA, dFrzE, jKeys, jVals, jItems, dLcH, dForH, dEqM, dSortX, dCmpX, dSortSet, dSortDM, dRaiseF, dMakeS, dTryHs, dWHs, dXf, endsD, slotD, dChain3, if_true, if_false, ite_true, ite_false, Bool.false_eq_true, reduceIte, Bool.not_true, Bool.not_false, List.getElem?_cons_zero, List.getElem?_cons_succ, List.set_cons_zero, List.set_cons_succ, List.map_cons, List.map_nil, List.replicate, List.cons_append, List.nil_append, List.length_cons, List.length_nil, dstart]
    rw [rgD_len] at h5
    have hlen : ls.length + fs.length = n.toNat := by
      have := h6.length_eq
      simpa using this
    have : ls = [] := List.length_eq_zero_iff.mp (by omega)
    subst this
    rw [List.nil_append] at h6
    obtain ⟨M2, le, ag, ep⟩ := h4.cut
    have hb2 : M2 b = none := by rw [ag b (by simpa using nbp)]; exact hb0
    refine fin_less (fun q o h => ?_) (q fs b M2 ⟨by rw [ep]; exact h3.ex⟩ ag hb2 (nodup_perm h6 (rgL_nodup _)) (fun x => ?_) (by omega))
    · by_cases e : q = b
      · rw [e, mset_same] at h; rw [e, h2]; exact h
      · rw [mset_ne e] at h; exact le q o h
    · rw [h6.mem_iff, List.mem_map]
      constructor
      · rintro ⟨j, hj, rfl⟩
        have := List.mem_range.mp hj
        omega
      · rintro ⟨x0, x1⟩
        exact ⟨x.toNat, List.mem_range.mpr (by omega), by omega⟩
theorem sc__law_rising : FnScope ["_law_pairs", "_law_found", "_law_pair"] ["_law_pairs"] (defScope s__law_rising) := ⟨rfl, rfl, rfl, by decide +kernel, rfl, by decide +kernel, by decide +kernel⟩
def sp__law_rising : DSp := fun ds M Q _ => ∃ (l : Addr) (ps : List (Int × Int)), ds = [.ref l] ∧ M l = some (.lst (ps.map prD)) ∧ ps.length ≤ 1000000 ∧ ∀ qs : List (Int × Int), qs.Pairwise prLt → (∀ p, p ∈ qs ↔ p ∈ ps) → qs.length ≤ ps.length → Q (.tup (qs.map prD)) (mdel M l)
theorem c__law_rising (F : DFun K mg "_law_rising" s__law_rising ["_law_pairs"]) (B : Bn mg) (G : Gs mg)  : DCal P w K mg base CX0 1 "_law_rising" sp__law_rising := by
  refine dok F sc__law_rising (fun ds M Q E h => (by obtain ⟨_, h⟩ := h; first | (obtain ⟨e, _⟩ := h; subst e; rfl) | (obtain ⟨_, e, _⟩ := h; subst e; rfl) | (obtain ⟨_, _, e, _⟩ := h; subst e; rfl) | (obtain ⟨_, _, _, e, _⟩ := h; subst e; rfl) | (obtain ⟨_, _, _, _, e, _⟩ := h; subst e; rfl) | (obtain ⟨_, _, _, _, _, e, _⟩ := h; subst e; rfl) | (obtain ⟨_, _, _, _, _, _, e, _⟩ := h; subst e; rfl) | (obtain ⟨_, _, _, _, _, _, _, e, _⟩ := h; subst e; rfl) | (obtain ⟨_, _, _, _, _, _, _, _, e, _⟩ := h; subst e; rfl) | (obtain ⟨_, _, _, _, _, _, _, _, _, e, _⟩ := h; subst e; rfl))) (fun f cdv A outer s H E F0 hr => ?_)
  have nd := (sc__law_rising).nd
  refine ⟨_, _, (db_cons (ds_set 1 nd de_newT)
      (db_frz 0 (db_cons (ds_for PassesOwn.never rfl (di_seq (de_var 0)) (dg_name 2 nd) (db_one (ds_put hr (de_var 1) (de_var 2) de_bl)))
      (db_one (ds_ret (de_bty call_tuple_of lc_tuple B.tuple (da_cons (de_sortP B.sorted (da_cons (de_bty (call_listA rfl) lc_list B.list (da_cons (de_var 1) da_nil)) da_nil)) da_nil))))))), ?_⟩
  rintro ds M Q E ⟨l, ps, rfl, hl, hz, q⟩
  simp only [dVar, dC, dOp, dTest, dII, dIC, dFld, dFldS, dMake, dProp, dAugS, dLcM, toM, dppNil, dppCons, dMerge, dDisp, dCatL, dCatLM, dRep, dRepM, dClear, dExtend, dRg1, dRg2, dLstRg, dLstRgM, dTupRg, dChain, dEq, dIsN, dAnd, dOr, dNot, dIfE, dNext, dSeq, dBreak, dCont, dDrop, dRet, dRetN, dIfS, dNever, dFrzS, dFrz, hName, hNil, hCons, hTup, hSub, dAsg, dPar, dAug, dipI, dNil, dCons, dTup, dLst, dLstM, dIx, dSet, dCall, dwipe, dYes, jSeq, jRng1, jRng2, jStr, jZip, dCB, dLen, dList, dListM, dTuple, dII2, dAbs, dInt, dBM0, dBM, dAppend, dPop, dPopAt, dAndV, dOrV, dNotV, dNeg, dTruth, dIn, dCat, dNoPart, dPart, dSl, dSlM, dNewK, dNewT, dIsi, dIsiT, dLc, dFor, dDc, dLenSet, dLenSetG, dRev, dIsB, dCallS, dRaise, dTry, dIsE, dOwnEq, dOwnNe, dIndex, dSortD, dMin1, dMax1, dIsiC, dLc2, dFrzA, dFrzE, jKeys, jVals, jItems, dLcH, dForH, dEqM, dSortX, dCmpX, dSortSet, dSortDM, dRaiseF, dMakeS, dTryHs, dWHs, dXf, endsD, slotD, dChain3, if_true, if_false, ite_true, ite_false, Bool.false_eq_true, reduceIte, Bool.not_true, Bool.not_false, List.getElem?_cons_zero, List.getElem?_cons_succ, List.set_cons_zero, List.set_cons_succ, List.map_cons, List.map_nil, List.replicate, List.cons_append, List.nil_append, List.length_cons, List.length_nil, dstart]
  intro d hd
  have ne : l ≠ d := fun e => by rw [e, hd] at hl; cases hl
  have hl2 : mset M d (.dT []) l = some (.lst (ps.map prD)) := by rw [mset_ne ne]; exact hl
  simp only [hl2]
  refine dForI_of (fun i γ M' => ∃ (o : Option D) (ks : List (Int × Int)), γ = [some (.lst (ps.map prD)), some (.ref d), o] ∧ M' d = some (.dT (ks.map kvP)) ∧ ks.Nodup ∧ (∀ p, p ∈ ks ↔ p ∈ ps.take i) ∧ ks.length ≤ i ∧ ∀ q o, M q = some o → q ≠ l → M' q = some o) ?_ ?_ ?_
  · refine ⟨none, [], rfl, ?_, List.nodup_nil, by simp, Nat.le_refl _, fun q o h hq => ?_⟩
    · rw [mdel_ne (Ne.symm ne)]; exact mset_same
    · rw [mdel_ne hq, mset_ne fun e => by rw [e, hd] at h; cases h]; exact h
  · rintro i x γ M' hx ⟨o, ks, rfl, h1, h2, h3, h4, h5⟩
    obtain ⟨p, hp, rfl⟩ := get_pr hx
    have hi := (List.getElem?_eq_some_iff.mp hp).1
    simp only [dVar, dC, dOp, dTest, dII, dIC, dFld, dFldS, dMake, dProp, dAugS, dLcM, toM, dppNil, dppCons, dMerge, dDisp, dCatL, dCatLM, dRep, dRepM, dClear, dExtend, dRg1, dRg2, dLstRg, dLstRgM, dTupRg, dChain, dEq, dIsN, dAnd, dOr, dNot, dIfE, dNext, dSeq, dBreak, dCont, dDrop, dRet, dRetN, dIfS, dNever, dFrzS, dFrz, hName, hNil, hCons, hTup, hSub, dAsg, dPar, dAug, dipI, dNil, dCons, dTup, dLst, dLstM, dIx, dSet, dCall, dwipe, dYes, jSeq, jRng1, jRng2, jStr, jZip, dCB, dLen, dList, dListM, dTuple, dII2, dAbs, dInt, dBM0, dBM, dAppend, dPop, dPopAt, dAndV, dOrV, dNotV, dNeg, dTruth, dIn, dCat, dNoPart, dPart, dSl, dSlM, dNewK, dNewT, dIsi, dIsiT, dLc, dFor, dDc, dLenSet, dLenSetG, dRev, dIsB, dCallS, dRaise, dTry, dIsE, dOwnEq, dOwnNe, dIndex, dSortD, dMin1, dMax1, dIsiC, dLc2, dFrzA, dFrzE, jKeys, jVals, jItems, dLcH, dForH, dEqM, dSortX, dCmpX, dSortSet, dSortDM, dRaiseF, dMakeS, dTryHs, dWHs, dXf, endsD, slotD, dChain3, if_true, if_false, ite_true, ite_false, Bool.false_eq_true, reduceIte, Bool.not_true, Bool.not_false, List.getElem?_cons_zero, List.getElem?_cons_succ, List.set_cons_zero, List.set_cons_succ, List.map_cons, List.map_nil, List.replicate, List.cons_append, List.nil_append, List.length_cons, List.length_nil, dstart]
    have e : dStore M' d (prD p) (.bl true) = some (mset M' d (.dT ((if p ∈ ks then ks else ks ++ [p]).map kvP))) := by
      simp only [dStore, h1, prD, keysOf, keyOf, Option.bind_some]
      rw [if_pos (by rw [List.length_map]; exact len_lt (by omega)), dput_kvP]
    refine ⟨_, e, _, _, rfl, mset_same, ?_, fun r => ?_, ?_, fun q u h hq => ?_⟩
    · by_cases hk : p ∈ ks
      · rw [if_pos hk]; exact h2
      · rw [if_neg hk, List.nodup_append]
        exact ⟨h2, by simp, fun a ha b hb => by
          rw [List.mem_singleton.mp hb]
          exact fun z => hk (z ▸ ha)⟩
    · rw [take_succ_of hp, List.mem_append, ← h3 r]
      by_cases hk : p ∈ ks
      · rw [if_pos hk]
        constructor
        · exact .inl
        · rintro (z | z)
          · exact z
          · rw [List.mem_singleton.mp z]; exact hk
      · rw [if_neg hk, List.mem_append]
    · by_cases hk : p ∈ ks
      · rw [if_pos hk]; omega
      · rw [if_neg hk, List.length_append]; simp; omega
    · rw [mset_ne fun e => by rw [e, hd] at h; cases h]; exact h5 q u h hq
  · rintro γ M' ⟨o, ks, rfl, h1, h2, h3, h4, h5⟩
    simp only [dVar, dC, dOp, dTest, dII, dIC, dFld, dFldS, dMake, dProp, dAugS, dLcM, toM, dppNil, dppCons, dMerge, dDisp, dCatL, dCatLM, dRep, dRepM, dClear, dExtend, dRg1, dRg2, dLstRg, dLstRgM, dTupRg, dChain, dEq, dIsN, dAnd, dOr, dNot, dIfE, dNext, dSeq, dBreak, dCont, dDrop, dRet, dRetN, dIfS, dNever, dFrzS, dFrz, hName, hNil, hCons, hTup, hSub, dAsg, dPar, dAug, dipI, dNil, dCons, dTup, dLst, dLstM, dIx, dSet, dCall, dwipe, dYes, jSeq, jRng1, jRng2, jStr, jZip, dCB, dLen, dList, dListM, dTuple, dII2, dAbs, dInt, dBM0, dBM, dAppend, dPop, dPopAt, dAndV, dOrV, dNotV, dNeg, dTruth, dIn, dCat, dNoPart, dPart, dSl, dSlM, dNewK, dNewT, dIsi, dIsiT, dLc, dFor, dDc, dLenSet, dLenSetG, dRev, dIsB, dCallS, dRaise, dTry, dIsE, dOwnEq, dOwnNe, dIndex, dSortD, dMin1, dMax1, dIsiC, dLc2, dFrzA, dFrzE, jKeys, jVals, jItems, dLcH, dForH, dEqM, dSortX, dCmpX, dSortSet, dSortDM, dRaiseF, dMakeS, dTryHs, dWHs, dXf, endsD, slotD, dChain3, if_true, if_false, ite_true, ite_false, Bool.false_eq_true, reduceIte, Bool.not_true, Bool.not_false, List.getElem?_cons_zero, List.getElem?_cons_succ, List.set_cons_zero, List.set_cons_succ, List.map_cons, List.map_nil, List.replicate, List.cons_append, List.nil_append, List.length_cons, List.length_nil, dstart]
    rw [List.length_map] at h3 h4
    rw [List.take_length] at h3
    refine ⟨_, by simp only [itemsV, h1]; rfl, ks, .inl (by rw [items_kvP]), fun qs hq hs => ?_⟩
    refine fin_less (M2 := mdel M l) (fun a u h => ?_) (q qs (srtd_lt hs (hq.nodup_iff.mpr h2)) (fun p => (hq.mem_iff).trans (h3 p)) (by rw [hq.length_eq]; exact h4))
    by_cases e : a = l
    · rw [e, mdel_same] at h; cases h
    · rw [mdel_ne e] at h; exact h5 a u h e
theorem sc__law_book : FnScope ["_law_source_here", "_law_most", "_law_kind", "_law_size", "_law_more", "_law_names", "_law_pairs", "_law_k", "_law_ahead", "_law_one", "_law_j", "_law_pair"] ["_law_source_here", "_law_most"] (defScope s__law_book) := ⟨rfl, rfl, rfl, by decide +kernel, rfl, by decide +kernel, by decide +kernel⟩
def sp__law_book : DSp := fun ds M Q _ => ∃ (p : Addr) (most : Int), ds = [.ref p, .int most] ∧ DiceAt M p ∧ 1 ≤ most ∧ most ≤ 8 ∧ ∀ n ps M2, BookOk n ps → n ≤ most → DiceAt M2 p → Agree M M2 [p] → Q (.tup [.int n, .tup (ps.map prD)]) M2
theorem c__law_book (F : DFun K mg "_law_book" s__law_book ["_law_source_here", "_law_most"]) (B : Bn mg) (G : Gs mg) (c__law_draw : DCal P w K mg base CX0 1 "_law_draw" sp__law_draw) (c__law_order : DCal P w K mg base CX0 2 "_law_order" sp__law_order) (c__law_rising : DCal P w K mg base CX0 1 "_law_rising" sp__law_rising) : DCal P w K mg base CX0 3 "_law_book" sp__law_book := by
  refine dok F sc__law_book (fun ds M Q E h => (by obtain ⟨_, h⟩ := h; first | (obtain ⟨e, _⟩ := h; subst e; rfl) | (obtain ⟨_, e, _⟩ := h; subst e; rfl) | (obtain ⟨_, _, e, _⟩ := h; subst e; rfl) | (obtain ⟨_, _, _, e, _⟩ := h; subst e; rfl) | (obtain ⟨_, _, _, _, e, _⟩ := h; subst e; rfl) | (obtain ⟨_, _, _, _, _, e, _⟩ := h; subst e; rfl) | (obtain ⟨_, _, _, _, _, _, e, _⟩ := h; subst e; rfl) | (obtain ⟨_, _, _, _, _, _, _, e, _⟩ := h; subst e; rfl) | (obtain ⟨_, _, _, _, _, _, _, _, e, _⟩ := h; subst e; rfl) | (obtain ⟨_, _, _, _, _, _, _, _, _, e, _⟩ := h; subst e; rfl))) (fun f cdv A outer s H E F0 hr => ?_)
  have nd := (sc__law_book).nd
  refine ⟨_, _, (db_cons (ds_set 2 nd (de_call c__law_draw hr (goes0A (E := DXK.no)) (da_cons (de_var 0) (da_cons de_int da_nil))))
      (db_cons (ds_set 3 nd (de_add de_int (de_call c__law_draw hr (goes0A (E := DXK.no)) (da_cons (de_var 0) (da_cons (de_var 1) da_nil)))))
      (db_cons (ds_set 4 nd (de_call c__law_draw hr (goes0A (E := DXK.no)) (da_cons (de_var 0) (da_cons de_int da_nil))))
      (db_cons (ds_set 5 nd (de_call c__law_order hr (goes0A (E := DXK.no)) (da_cons (de_var 0) (da_cons (de_var 3) da_nil))))
      (db_frz 5 (db_cons (ds_set 6 nd (de_lstM da_nil))
      (db_cons (ds_for PassesOwn.never rfl (di_range2 B.range (da_cons de_int (da_cons (de_var 3) da_nil))) (dg_name 7 nd) (db_cons (ds_set 8 nd (de_call c__law_draw hr (goes0A (E := DXK.no)) (da_cons (de_var 0) (da_cons (de_var 7) da_nil))))
      (db_cons (ds_if (DW.dt (dw_or (dt_eq hr (de_var 2) de_int) (dw_or1 (dt_eq hr (de_var 2) de_int)))) (db_one (ds_set 8 nd (de_sub (de_var 7) de_int))) db_nil)
      (db_cons (ds_if (dt_eq hr (de_var 2) de_int) (db_one (ds_set 8 nd de_int)) db_nil)
      (db_one (ds_expr (de_append (de_var 6) (da_cons (de_tup (da_cons (de_ix hr (de_var 5) (de_var 8)) (da_cons (de_ix hr (de_var 5) (de_var 7)) da_nil))) da_nil))))))))
      (db_cons (ds_if (DW.dt (dw_and (dt_eq hr (de_var 2) de_int) (dw_and1 (dt_gt (de_var 3) de_int)))) (db_one (ds_expr (de_append (de_var 6) (da_cons (de_tup (da_cons (de_ix hr (de_var 5) de_int) (da_cons (de_ix hr (de_var 5) (de_sub (de_var 3) de_int)) da_nil))) da_nil)))) db_nil)
      (db_cons (ds_if (dt_eq hr (de_var 2) de_int) (db_one (ds_for PassesOwn.never rfl (di_range1 B.range (da_cons (de_var 3) da_nil)) (dg_name 7 nd) (db_one (ds_set 6 nd (de_catLM (de_var 6) (dx_lc (own := [("_law_j", 10)]) rfl nd (di_range1 B.range (da_cons (de_var 7) da_nil)) (blkOk_by (N := ["_law_source_here", "_law_most", "_law_kind", "_law_size", "_law_more", "_law_names", "_law_pairs", "_law_k", "_law_ahead", "_law_one", "_law_j", "_law_pair"]) (sc := defScope s__law_book) (by decide +kernel)) (fun _ _ _ _ _ => ⟨_, (dg_name 10 nd), (gw_name (by decide))⟩) (fun _ _ _ _ _ => ⟨_, dts_nil⟩) (fun _ _ _ _ _ => ⟨_, (de_tup (da_cons (de_ix hr (de_var 5) (de_var 7)) (da_cons (de_ix hr (de_var 5) (de_var 10)) da_nil)))⟩))))))) db_nil)
      (db_cons (ds_if (dt_gt (de_var 2) de_int) (db_one (ds_for PassesOwn.never rfl (di_range1 B.range (da_cons (de_mul (de_var 4) (de_bty call_int1 lc_int B.int (da_cons (de_gt (de_var 3) de_int) da_nil))) da_nil)) (dg_name 7 nd) (db_cons (ds_set 9 nd (de_call c__law_draw hr (goes0A (E := DXK.no)) (da_cons (de_var 0) (da_cons (de_var 3) da_nil))))
      (db_one (ds_expr (de_append (de_var 6) (da_cons (de_tup (da_cons (de_var 9) (da_cons (de_mod (de_bty call_int1 lc_int B.int (da_cons (de_add (de_add (de_var 9) de_int) (de_call c__law_draw hr (goes0A (E := DXK.no)) (da_cons (de_var 0) (da_cons (de_sub (de_var 3) de_int) da_nil)))) da_nil)) (de_var 3)) da_nil))) da_nil))))))) db_nil)
      (db_frz 6 (db_one (ds_ret (de_tup (da_cons (de_var 3) (da_cons (de_call c__law_rising hr (goes0A (E := DXK.no)) (da_cons (dx_lcM (own := [("_law_pair", 11)]) rfl nd (di_seq (de_var 6)) (blkOk_by (N := ["_law_source_here", "_law_most", "_law_kind", "_law_size", "_law_more", "_law_names", "_law_pairs", "_law_k", "_law_ahead", "_law_one", "_law_j", "_law_pair"]) (sc := defScope s__law_book) (by decide +kernel)) (fun _ _ _ _ _ => ⟨_, (dg_name 11 nd), (gw_name (by decide))⟩) (fun _ _ _ _ _ => ⟨_, dts_nil⟩) (fun _ _ _ _ _ => ⟨_, (de_tup (da_cons (de_blt (cr_min1 rfl) lc_min1 B.min (da_cons (de_var 11) da_nil)) (da_cons (de_blt (cr_max1 rfl) lc_max1 B.max (da_cons (de_var 11) da_nil)) da_nil)))⟩)) da_nil)) da_nil)))))))))))))))), ?_⟩
  rintro ds M Q E ⟨p, most, rfl, hp, m1, m8, q⟩
  refine dSeq_then (fun γ' M' => ∃ kd : Int, γ' = [some (.ref p), some (.int most), some (.int kd), none, none, none, none, none, none, none, none, none] ∧ DiceAt M' p ∧ Ext M M' [p]) (fun nx hn => ?_) (fun γ1 M1 h => ?_)
  · simp only [dVar, dC, dOp, dTest, dII, dIC, dFld, dFldS, dMake, dProp, dAugS, dLcM, toM, dppNil, dppCons, dMerge, dDisp, dCatL, dCatLM, dRep, dRepM, dClear, dExtend, dRg1, dRg2, dLstRg, dLstRgM, dTupRg, dChain, dEq, dIsN, dAnd, dOr, dNot, dIfE, dNext, dSeq, dBreak, dCont, dDrop, dRet, dRetN, dIfS, dNever, dFrzS, dFrz, hName, hNil, hCons, hTup, hSub, dAsg, dPar, dAug, dipI, dNil, dCons, dTup, dLst, dLstM, dIx, dSet, dCall, dwipe, dYes, jSeq, jRng1, jRng2, jStr, jZip, dCB, dLen, dList, dListM, dTuple, dII2, dAbs, dInt, dBM0, dBM, dAppend, dPop, dPopAt, dAndV, dOrV, dNotV, dNeg, dTruth, dIn, dCat, dNoPart, dPart, dSl, dSlM, dNewK, dNewT, dIsi, dIsiT, dLc, dFor, dDc, dLenSet, dLenSetG, dRev, dIsB, dCallS, dRaise, dTry, dIsE, dOwnEq, dOwnNe, dIndex, dSortD, dMin1, dMax1, dIsiC, dLc2, dFrzA, dFrzE, jKeys, jVals, jItems, dLcH, dForH, dEqM, dSortX, dCmpX, dSortSet, dSortDM, dRaiseF, dMakeS, dTryHs, dWHs, dXf, endsD, slotD, dChain3, if_true, if_false, ite_true, ite_false, Bool.false_eq_true, reduceIte, Bool.not_true, Bool.not_false, List.getElem?_cons_zero, List.getElem?_cons_succ, List.set_cons_zero, List.set_cons_succ, List.map_cons, List.map_nil, List.replicate, List.cons_append, List.nil_append, List.length_cons, List.length_nil, dstart]
    exact ⟨p, 7, rfl, hp, by decide, by decide, fun k M1 _ _ d a => hn _ _ ⟨k, rfl, d, a.ext⟩⟩
  clear hp
  obtain ⟨kd, rfl, hp, ex⟩ := h
  refine dSeq_then (fun γ' M' => ∃ n : Int, γ' = [some (.ref p), some (.int most), some (.int kd), some (.int n), none, none, none, none, none, none, none, none] ∧ 1 ≤ n ∧ n ≤ most ∧ DiceAt M' p ∧ Ext M M' [p]) (fun nx hn => ?_) (fun γ2 M2 h => ?_)
  · simp only [dVar, dC, dOp, dTest, dII, dIC, dFld, dFldS, dMake, dProp, dAugS, dLcM, toM, dppNil, dppCons, dMerge, dDisp, dCatL, dCatLM, dRep, dRepM, dClear, dExtend, dRg1, dRg2, dLstRg, dLstRgM, dTupRg, dChain, dEq, dIsN, dAnd, dOr, dNot, dIfE, dNext, dSeq, dBreak, dCont, dDrop, dRet, dRetN, dIfS, dNever, dFrzS, dFrz, hName, hNil, hCons, hTup, hSub, dAsg, dPar, dAug, dipI, dNil, dCons, dTup, dLst, dLstM, dIx, dSet, dCall, dwipe, dYes, jSeq, jRng1, jRng2, jStr, jZip, dCB, dLen, dList, dListM, dTuple, dII2, dAbs, dInt, dBM0, dBM, dAppend, dPop, dPopAt, dAndV, dOrV, dNotV, dNeg, dTruth, dIn, dCat, dNoPart, dPart, dSl, dSlM, dNewK, dNewT, dIsi, dIsiT, dLc, dFor, dDc, dLenSet, dLenSetG, dRev, dIsB, dCallS, dRaise, dTry, dIsE, dOwnEq, dOwnNe, dIndex, dSortD, dMin1, dMax1, dIsiC, dLc2, dFrzA, dFrzE, jKeys, jVals, jItems, dLcH, dForH, dEqM, dSortX, dCmpX, dSortSet, dSortDM, dRaiseF, dMakeS, dTryHs, dWHs, dXf, endsD, slotD, dChain3, if_true, if_false, ite_true, ite_false, Bool.false_eq_true, reduceIte, Bool.not_true, Bool.not_false, List.getElem?_cons_zero, List.getElem?_cons_succ, List.set_cons_zero, List.set_cons_succ, List.map_cons, List.map_nil, List.replicate, List.cons_append, List.nil_append, List.length_cons, List.length_nil, dstart]
    exact ⟨p, most, rfl, hp, m1, by omega, fun k M1 _ _ d a => hn _ _ ⟨1 + k, rfl, by omega, by omega, d, ex.trans a.ext⟩⟩
  clear hp ex
  obtain ⟨n, rfl, n1, nm_, hp, ex⟩ := h
  have n8 : n ≤ 8 := by omega
  refine dSeq_then (fun γ' M' => ∃ mo : Int, γ' = [some (.ref p), some (.int most), some (.int kd), some (.int n), some (.int mo), none, none, none, none, none, none, none] ∧ 0 ≤ mo ∧ mo < 4 ∧ DiceAt M' p ∧ Ext M M' [p]) (fun nx hn => ?_) (fun γ3 M3 h => ?_)
  · simp only [dVar, dC, dOp, dTest, dII, dIC, dFld, dFldS, dMake, dProp, dAugS, dLcM, toM, dppNil, dppCons, dMerge, dDisp, dCatL, dCatLM, dRep, dRepM, dClear, dExtend, dRg1, dRg2, dLstRg, dLstRgM, dTupRg, dChain, dEq, dIsN, dAnd, dOr, dNot, dIfE, dNext, dSeq, dBreak, dCont, dDrop, dRet, dRetN, dIfS, dNever, dFrzS, dFrz, hName, hNil, hCons, hTup, hSub, dAsg, dPar, dAug, dipI, dNil, dCons, dTup, dLst, dLstM, dIx, dSet, dCall, dwipe, dYes, jSeq, jRng1, jRng2, jStr, jZip, dCB, dLen, dList, dListM, dTuple, dII2, dAbs, dInt, dBM0, dBM, dAppend, dPop, dPopAt, dAndV, dOrV, dNotV, dNeg, dTruth, dIn, dCat, dNoPart, dPart, dSl, dSlM, dNewK, dNewT, dIsi, dIsiT, dLc, dFor, dDc, dLenSet, dLenSetG, dRev, dIsB, dCallS, dRaise, dTry, dIsE, dOwnEq, dOwnNe, dIndex, dSortD, dMin1, dMax1, dIsiC, dLc2, dFrzA, dFrzE, jKeys, jVals, jItems, dLcH, dForH, dEqM, dSortX, dCmpX, dSortSet, dSortDM, dRaiseF, dMakeS, dTryHs, dWHs, dXf, endsD, slotD, dChain3, if_true, if_false, ite_true, ite_false, Bool.false_eq_true, reduceIte, Bool.not_true, Bool.not_false, List.getElem?_cons_zero, List.getElem?_cons_succ, List.set_cons_zero, List.set_cons_succ, List.map_cons, List.map_nil, List.replicate, List.cons_append, List.nil_append, List.length_cons, List.length_nil, dstart]
    exact ⟨p, 4, rfl, hp, by decide, by decide, fun k M1 _ _ d a => hn _ _ ⟨k, rfl, by omega, by omega, d, ex.trans a.ext⟩⟩
  clear hp ex
  obtain ⟨mo, rfl, mo0, mo4, hp, ex⟩ := h
  refine dSeq_then (fun γ' M' => ∃ (l0 : Addr) (nm : List Int) (Mb : Mp), γ' = [some (.ref p), some (.int most), some (.int kd), some (.int n), some (.int mo), some (.ref l0), none, none, none, none, none, none] ∧ M' = mset Mb l0 (.lst (nm.map .int)) ∧ Mb l0 = none ∧ DiceAt Mb p ∧ Ext M Mb [p] ∧ nm.Nodup ∧ (∀ x, x ∈ nm ↔ 0 ≤ x ∧ x < n) ∧ nm.length = n.toNat) (fun nx hn => ?_) (fun γ4 M4 h => ?_)
  · simp only [dVar, dC, dOp, dTest, dII, dIC, dFld, dFldS, dMake, dProp, dAugS, dLcM, toM, dppNil, dppCons, dMerge, dDisp, dCatL, dCatLM, dRep, dRepM, dClear, dExtend, dRg1, dRg2, dLstRg, dLstRgM, dTupRg, dChain, dEq, dIsN, dAnd, dOr, dNot, dIfE, dNext, dSeq, dBreak, dCont, dDrop, dRet, dRetN, dIfS, dNever, dFrzS, dFrz, hName, hNil, hCons, hTup, hSub, dAsg, dPar, dAug, dipI, dNil, dCons, dTup, dLst, dLstM, dIx, dSet, dCall, dwipe, dYes, jSeq, jRng1, jRng2, jStr, jZip, dCB, dLen, dList, dListM, dTuple, dII2, dAbs, dInt, dBM0, dBM, dAppend, dPop, dPopAt, dAndV, dOrV, dNotV, dNeg, dTruth, dIn, dCat, dNoPart, dPart, dSl, dSlM, dNewK, dNewT, dIsi, dIsiT, dLc, dFor, dDc, dLenSet, dLenSetG, dRev, dIsB, dCallS, dRaise, dTry, dIsE, dOwnEq, dOwnNe, dIndex, dSortD, dMin1, dMax1, dIsiC, dLc2, dFrzA, dFrzE, jKeys, jVals, jItems, dLcH, dForH, dEqM, dSortX, dCmpX, dSortSet, dSortDM, dRaiseF, dMakeS, dTryHs, dWHs, dXf, endsD, slotD, dChain3, if_true, if_false, ite_true, ite_false, Bool.false_eq_true, reduceIte, Bool.not_true, Bool.not_false, List.getElem?_cons_zero, List.getElem?_cons_succ, List.set_cons_zero, List.set_cons_succ, List.map_cons, List.map_nil, List.replicate, List.cons_append, List.nil_append, List.length_cons, List.length_nil, dstart]
    exact ⟨p, n, rfl, hp, by omega, by omega, fun nm l M2 d a hl nd mem len => hn _ _ ⟨l, nm, M2, rfl, rfl, hl, d, ex.trans a.ext, nd, mem, len⟩⟩
  clear hp ex
  obtain ⟨l0, nm, Mb, rfl, rfl, hl0, hp, ex, nd, mem, nml⟩ := h
  simp only [dFrzS, List.getElem?_cons_zero, List.getElem?_cons_succ, mset_same, List.set_cons_zero, List.set_cons_succ, mdel_mset hl0]
  have at_ : ∀ (i : Int), 0 ≤ i → i < n → ∃ x, nm[i.toNat]? = some x ∧ (0 ≤ x ∧ x < n) ∧ ∀ M', dIxV M' (.lst (nm.map .int)) (.int i) = some (.int x) := fun i i0 i1 => by
    have hi : i.toNat < nm.length := by omega
    have e1 : nm[i.toNat]? = some nm[i.toNat] := List.getElem?_eq_getElem hi
    exact ⟨_, e1, (mem _).mp (List.mem_of_getElem? e1), fun M' => ixL_at (k := i.toNat) (by omega) (by rw [List.getElem?_map, e1]; rfl)⟩
  have dis : ∀ {i j : Nat} {x y : Int}, i ≠ j → nm[i]? = some x → nm[j]? = some y → x ≠ y := fun {i j x y} hij hx hy e => by
    subst e
    have hi := (List.getElem?_eq_some_iff.mp hx).1
    exact hij ((List.getElem?_inj hi nd).mp (hx.trans hy.symm))
  obtain ⟨s, hs, hsr, hsi⟩ := at_ 0 (by omega) (by omega)
  refine dSeq_then (fun γ' M' => ∃ l : Addr, γ' = [some (.ref p), some (.int most), some (.int kd), some (.int n), some (.int mo), some (.lst (nm.map .int)), some (.ref l), none, none, none, none, none] ∧ BSt M p n s (fun x => x = s) 0 M' l []) (fun nx hn => ?_) (fun γ5 M5 h => ?_)
  · simp only [dVar, dC, dOp, dTest, dII, dIC, dFld, dFldS, dMake, dProp, dAugS, dLcM, toM, dppNil, dppCons, dMerge, dDisp, dCatL, dCatLM, dRep, dRepM, dClear, dExtend, dRg1, dRg2, dLstRg, dLstRgM, dTupRg, dChain, dEq, dIsN, dAnd, dOr, dNot, dIfE, dNext, dSeq, dBreak, dCont, dDrop, dRet, dRetN, dIfS, dNever, dFrzS, dFrz, hName, hNil, hCons, hTup, hSub, dAsg, dPar, dAug, dipI, dNil, dCons, dTup, dLst, dLstM, dIx, dSet, dCall, dwipe, dYes, jSeq, jRng1, jRng2, jStr, jZip, dCB, dLen, dList, dListM, dTuple, dII2, dAbs, dInt, dBM0, dBM, dAppend, dPop, dPopAt, dAndV, dOrV, dNotV, dNeg, dTruth, dIn, dCat, dNoPart, dPart, dSl, dSlM, dNewK, dNewT, dIsi, dIsiT, dLc, dFor, dDc, dLenSet, dLenSetG, dRev, dIsB, dCallS, dRaise, dTry, dIsE, dOwnEq, dOwnNe, dIndex, dSortD, dMin1, dMax1, dIsiC, dLc2, dFrzA, dFrzE, jKeys, jVals, jItems, dLcH, dForH, dEqM, dSortX, dCmpX, dSortSet, dSortDM, dRaiseF, dMakeS, dTryHs, dWHs, dXf, endsD, slotD, dChain3, if_true, if_false, ite_true, ite_false, Bool.false_eq_true, reduceIte, Bool.not_true, Bool.not_false, List.getElem?_cons_zero, List.getElem?_cons_succ, List.set_cons_zero, List.set_cons_succ, List.map_cons, List.map_nil, List.replicate, List.cons_append, List.nil_append, List.length_cons, List.length_nil, dstart]
    refine ⟨by decide, fun l hl => hn _ _ ⟨l, rfl, ?_⟩⟩
    have ne : l ≠ p := hp.some hl
    have fr := ex.fresh (by simpa using ne) hl
    exact ⟨hp.mset ne, ex.mset fr, fr, mset_same, (fun _ h => by cases h), Nat.le_refl _, (fun x hx => by rw [show x = s from hx]; exact .refl)⟩
  clear hp ex hl0
  obtain ⟨l, rfl, W⟩ := h
  refine dSeq_then (fun γ' M' => ∃ (o7 o8 : Option D) (qs : List (Int × Int)), γ' = [some (.ref p), some (.int most), some (.int kd), some (.int n), some (.int mo), some (.lst (nm.map .int)), some (.ref l), o7, o8, none, none, none] ∧ BSt M p n s (fun x => 0 ≤ x ∧ x < n) 8 M' l qs) (fun nx hn => ?_) (fun γ6 M6 h => ?_)
  · simp only [dVar, dC, dOp, dTest, dII, dIC, dFld, dFldS, dMake, dProp, dAugS, dLcM, toM, dppNil, dppCons, dMerge, dDisp, dCatL, dCatLM, dRep, dRepM, dClear, dExtend, dRg1, dRg2, dLstRg, dLstRgM, dTupRg, dChain, dEq, dIsN, dAnd, dOr, dNot, dIfE, dNext, dSeq, dBreak, dCont, dDrop, dRet, dRetN, dIfS, dNever, dFrzS, dFrz, hName, hNil, hCons, hTup, hSub, dAsg, dPar, dAug, dipI, dNil, dCons, dTup, dLst, dLstM, dIx, dSet, dCall, dwipe, dYes, jSeq, jRng1, jRng2, jStr, jZip, dCB, dLen, dList, dListM, dTuple, dII2, dAbs, dInt, dBM0, dBM, dAppend, dPop, dPopAt, dAndV, dOrV, dNotV, dNeg, dTruth, dIn, dCat, dNoPart, dPart, dSl, dSlM, dNewK, dNewT, dIsi, dIsiT, dLc, dFor, dDc, dLenSet, dLenSetG, dRev, dIsB, dCallS, dRaise, dTry, dIsE, dOwnEq, dOwnNe, dIndex, dSortD, dMin1, dMax1, dIsiC, dLc2, dFrzA, dFrzE, jKeys, jVals, jItems, dLcH, dForH, dEqM, dSortX, dCmpX, dSortSet, dSortDM, dRaiseF, dMakeS, dTryHs, dWHs, dXf, endsD, slotD, dChain3, if_true, if_false, ite_true, ite_false, Bool.false_eq_true, reduceIte, Bool.not_true, Bool.not_false, List.getElem?_cons_zero, List.getElem?_cons_succ, List.set_cons_zero, List.set_cons_succ, List.map_cons, List.map_nil, List.replicate, List.cons_append, List.nil_append, List.length_cons, List.length_nil, dstart]
    refine ⟨by omega, dForI_of (fun i γ M' => ∃ (o7 o8 : Option D) (qs : List (Int × Int)), γ = [some (.ref p), some (.int most), some (.int kd), some (.int n), some (.int mo), some (.lst (nm.map .int)), some (.ref l), o7, o8, none, none, none] ∧ BSt M p n s (fun x => ∃ j, j < i + 1 ∧ nm[j]? = some x) i M' l qs) ⟨none, none, [], rfl, W.rch' fun x ⟨j, hj, hx⟩ => ?_⟩ ?_ ?_⟩
    · have : j = 0 := by omega
      subst this
      rw [show (0 : Int).toNat = 0 from rfl] at hs
      rw [hs] at hx; cases hx; rfl
    · rintro i e γ M' he ⟨o7, o8, qs, rfl, W⟩
      obtain ⟨hi, rfl⟩ := rgD_get he
      refine dSeq_then (fun γ' M' => ∃ ah : Int, γ' = [some (.ref p), some (.int most), some (.int kd), some (.int n), some (.int mo), some (.lst (nm.map .int)), some (.ref l), some (.int (1 + (i : Int))), some (.int ah), none, none, none] ∧ BSt M p n s (fun x => ∃ j, j < i + 1 ∧ nm[j]? = some x) i M' l qs ∧ 0 ≤ ah ∧ ah < 1 + i) (fun nx hn => ?_) (fun γ7 M7 h => ?_)
      · simp only [dVar, dC, dOp, dTest, dII, dIC, dFld, dFldS, dMake, dProp, dAugS, dLcM, toM, dppNil, dppCons, dMerge, dDisp, dCatL, dCatLM, dRep, dRepM, dClear, dExtend, dRg1, dRg2, dLstRg, dLstRgM, dTupRg, dChain, dEq, dIsN, dAnd, dOr, dNot, dIfE, dNext, dSeq, dBreak, dCont, dDrop, dRet, dRetN, dIfS, dNever, dFrzS, dFrz, hName, hNil, hCons, hTup, hSub, dAsg, dPar, dAug, dipI, dNil, dCons, dTup, dLst, dLstM, dIx, dSet, dCall, dwipe, dYes, jSeq, jRng1, jRng2, jStr, jZip, dCB, dLen, dList, dListM, dTuple, dII2, dAbs, dInt, dBM0, dBM, dAppend, dPop, dPopAt, dAndV, dOrV, dNotV, dNeg, dTruth, dIn, dCat, dNoPart, dPart, dSl, dSlM, dNewK, dNewT, dIsi, dIsiT, dLc, dFor, dDc, dLenSet, dLenSetG, dRev, dIsB, dCallS, dRaise, dTry, dIsE, dOwnEq, dOwnNe, dIndex, dSortD, dMin1, dMax1, dIsiC, dLc2, dFrzA, dFrzE, jKeys, jVals, jItems, dLcH, dForH, dEqM, dSortX, dCmpX, dSortSet, dSortDM, dRaiseF, dMakeS, dTryHs, dWHs, dXf, endsD, slotD, dChain3, if_true, if_false, ite_true, ite_false, Bool.false_eq_true, reduceIte, Bool.not_true, Bool.not_false, List.getElem?_cons_zero, List.getElem?_cons_succ, List.set_cons_zero, List.set_cons_succ, List.map_cons, List.map_nil, List.replicate, List.cons_append, List.nil_append, List.length_cons, List.length_nil, dstart]
        exact ⟨p, 1 + (i : Int), rfl, W.dice, by omega, by omega, fun r M2 r0 r1 d a => hn _ _ ⟨r, rfl, W.to d a, r0, r1⟩⟩
      clear W
      obtain ⟨ah, rfl, W, a0, a1⟩ := h
      refine dSeq_then (fun γ' M' => ∃ ah : Int, γ' = [some (.ref p), some (.int most), some (.int kd), some (.int n), some (.int mo), some (.lst (nm.map .int)), some (.ref l), some (.int (1 + (i : Int))), some (.int ah), none, none, none] ∧ M' = M7 ∧ 0 ≤ ah ∧ ah < 1 + i) (fun nx hn => ?_) (fun γ8 M8 h => ?_)
      · simp only [dVar, dC, dOp, dTest, dII, dIC, dFld, dFldS, dMake, dProp, dAugS, dLcM, toM, dppNil, dppCons, dMerge, dDisp, dCatL, dCatLM, dRep, dRepM, dClear, dExtend, dRg1, dRg2, dLstRg, dLstRgM, dTupRg, dChain, dEq, dIsN, dAnd, dOr, dNot, dIfE, dNext, dSeq, dBreak, dCont, dDrop, dRet, dRetN, dIfS, dNever, dFrzS, dFrz, hName, hNil, hCons, hTup, hSub, dAsg, dPar, dAug, dipI, dNil, dCons, dTup, dLst, dLstM, dIx, dSet, dCall, dwipe, dYes, jSeq, jRng1, jRng2, jStr, jZip, dCB, dLen, dList, dListM, dTuple, dII2, dAbs, dInt, dBM0, dBM, dAppend, dPop, dPopAt, dAndV, dOrV, dNotV, dNeg, dTruth, dIn, dCat, dNoPart, dPart, dSl, dSlM, dNewK, dNewT, dIsi, dIsiT, dLc, dFor, dDc, dLenSet, dLenSetG, dRev, dIsB, dCallS, dRaise, dTry, dIsE, dOwnEq, dOwnNe, dIndex, dSortD, dMin1, dMax1, dIsiC, dLc2, dFrzA, dFrzE, jKeys, jVals, jItems, dLcH, dForH, dEqM, dSortX, dCmpX, dSortSet, dSortDM, dRaiseF, dMakeS, dTryHs, dWHs, dXf, endsD, slotD, dChain3, if_true, if_false, ite_true, ite_false, Bool.false_eq_true, reduceIte, Bool.not_true, Bool.not_false, List.getElem?_cons_zero, List.getElem?_cons_succ, List.set_cons_zero, List.set_cons_succ, List.map_cons, List.map_nil, List.replicate, List.cons_append, List.nil_append, List.length_cons, List.length_nil, dstart]
        refine ⟨rfl, rfl, ?_⟩
        split
        · exact hn _ _ ⟨_, rfl, rfl, by omega, by omega⟩
        · refine ⟨rfl, rfl, ?_⟩
          split
          · exact hn _ _ ⟨_, rfl, rfl, by omega, by omega⟩
          · exact hn _ _ ⟨_, rfl, rfl, a0, a1⟩
      clear a0 a1
      obtain ⟨ah, rfl, rfl, a0, a1⟩ := h
      refine dSeq_then (fun γ' M' => ∃ ah : Int, γ' = [some (.ref p), some (.int most), some (.int kd), some (.int n), some (.int mo), some (.lst (nm.map .int)), some (.ref l), some (.int (1 + (i : Int))), some (.int ah), none, none, none] ∧ M' = M8 ∧ 0 ≤ ah ∧ ah < 1 + i) (fun nx hn => ?_) (fun γ9 M9 h => ?_)
      · simp only [dVar, dC, dOp, dTest, dII, dIC, dFld, dFldS, dMake, dProp, dAugS, dLcM, toM, dppNil, dppCons, dMerge, dDisp, dCatL, dCatLM, dRep, dRepM, dClear, dExtend, dRg1, dRg2, dLstRg, dLstRgM, dTupRg, dChain, dEq, dIsN, dAnd, dOr, dNot, dIfE, dNext, dSeq, dBreak, dCont, dDrop, dRet, dRetN, dIfS, dNever, dFrzS, dFrz, hName, hNil, hCons, hTup, hSub, dAsg, dPar, dAug, dipI, dNil, dCons, dTup, dLst, dLstM, dIx, dSet, dCall, dwipe, dYes, jSeq, jRng1, jRng2, jStr, jZip, dCB, dLen, dList, dListM, dTuple, dII2, dAbs, dInt, dBM0, dBM, dAppend, dPop, dPopAt, dAndV, dOrV, dNotV, dNeg, dTruth, dIn, dCat, dNoPart, dPart, dSl, dSlM, dNewK, dNewT, dIsi, dIsiT, dLc, dFor, dDc, dLenSet, dLenSetG, dRev, dIsB, dCallS, dRaise, dTry, dIsE, dOwnEq, dOwnNe, dIndex, dSortD, dMin1, dMax1, dIsiC, dLc2, dFrzA, dFrzE, jKeys, jVals, jItems, dLcH, dForH, dEqM, dSortX, dCmpX, dSortSet, dSortDM, dRaiseF, dMakeS, dTryHs, dWHs, dXf, endsD, slotD, dChain3, if_true, if_false, ite_true, ite_false, Bool.false_eq_true, reduceIte, Bool.not_true, Bool.not_false, List.getElem?_cons_zero, List.getElem?_cons_succ, List.set_cons_zero, List.set_cons_succ, List.map_cons, List.map_nil, List.replicate, List.cons_append, List.nil_append, List.length_cons, List.length_nil, dstart]
        refine ⟨rfl, rfl, ?_⟩
        split
        · exact hn _ _ ⟨_, rfl, rfl, by omega, by omega⟩
        · exact hn _ _ ⟨_, rfl, rfl, a0, a1⟩
      clear a0 a1
      obtain ⟨ah, rfl, rfl, a0, a1⟩ := h
      obtain ⟨x, hx, xr, xi⟩ := at_ ah a0 (by omega)
      obtain ⟨y, hy, yr, yi⟩ := at_ (1 + (i : Int)) (by omega) (by omega)
      have e1 : (1 + (i : Int)).toNat = i + 1 := by omega
      rw [e1] at hy
      simp only [dVar, dC, dOp, dTest, dII, dIC, dFld, dFldS, dMake, dProp, dAugS, dLcM, toM, dppNil, dppCons, dMerge, dDisp, dCatL, dCatLM, dRep, dRepM, dClear, dExtend, dRg1, dRg2, dLstRg, dLstRgM, dTupRg, dChain, dEq, dIsN, dAnd, dOr, dNot, dIfE, dNext, dSeq, dBreak, dCont, dDrop, dRet, dRetN, dIfS, dNever, dFrzS, dFrz, hName, hNil, hCons, hTup, hSub, dAsg, dPar, dAug, dipI, dNil, dCons, dTup, dLst, dLstM, dIx, dSet, dCall, dwipe, dYes, jSeq, jRng1, jRng2, jStr, jZip, dCB, dLen, dList, dListM, dTuple, dII2, dAbs, dInt, dBM0, dBM, dAppend, dPop, dPopAt, dAndV, dOrV, dNotV, dNeg, dTruth, dIn, dCat, dNoPart, dPart, dSl, dSlM, dNewK, dNewT, dIsi, dIsiT, dLc, dFor, dDc, dLenSet, dLenSetG, dRev, dIsB, dCallS, dRaise, dTry, dIsE, dOwnEq, dOwnNe, dIndex, dSortD, dMin1, dMax1, dIsiC, dLc2, dFrzA, dFrzE, jKeys, jVals, jItems, dLcH, dForH, dEqM, dSortX, dCmpX, dSortSet, dSortDM, dRaiseF, dMakeS, dTryHs, dWHs, dXf, endsD, slotD, dChain3, if_true, if_false, ite_true, ite_false, Bool.false_eq_true, reduceIte, Bool.not_true, Bool.not_false, List.getElem?_cons_zero, List.getElem?_cons_succ, List.set_cons_zero, List.set_cons_succ, List.map_cons, List.map_nil, List.replicate, List.cons_append, List.nil_append, List.length_cons, List.length_nil, dstart]
      refine ⟨by simp only [tyD, W.lst], _, xi _, _, yi _, by decide, ?_⟩
      simp only [W.lst]
      have wl := W.len
      refine ⟨len_lt (by rw [List.length_map]; omega), _, _, qs ++ [(x, y)], rfl, ?_⟩
      have := W.add (l' := l) (ms := [(x, y)]) (R' := fun x => ∃ j, j < i + 1 + 1 ∧ nm[j]? = some x) (.inl rfl) (fun q hq => by
        rw [List.mem_singleton.mp hq]
        exact ⟨xr, yr, dis (by omega) hx hy⟩) fun z ⟨j, hj, hz⟩ => ?_
      · rw [List.map_append] at this; exact this
      · by_cases ej : j < i + 1
        · exact .inl ⟨j, ej, hz⟩
        · have : j = i + 1 := by omega
          subst this
          rw [hy] at hz; cases hz
          exact .inr ⟨x, ⟨_, by omega, hx⟩, nbr_mem.mpr (.inl (by simp)), yr⟩
    · rintro γ M' ⟨o7, o8, qs, rfl, W⟩
      rw [rgD_len] at W
      refine hn _ _ ⟨o7, o8, qs, rfl, (W.weak (by omega)).rch' fun x hx => ?_⟩
      obtain ⟨j, hj⟩ := List.mem_iff_getElem?.mp ((mem x).mpr hx)
      have := (List.getElem?_eq_some_iff.mp hj).1
      exact ⟨j, by omega, hj⟩
  clear W
  obtain ⟨o7, o8, qs, rfl, W⟩ := h
  refine dSeq_then (fun γ' M' => ∃ (qs : List (Int × Int)), γ' = [some (.ref p), some (.int most), some (.int kd), some (.int n), some (.int mo), some (.lst (nm.map .int)), some (.ref l), o7, o8, none, none, none] ∧ BSt M p n s (fun x => 0 ≤ x ∧ x < n) 9 M' l qs) (fun nx hn => ?_) (fun γ7 M7 h => ?_)
  · simp only [dVar, dC, dOp, dTest, dII, dIC, dFld, dFldS, dMake, dProp, dAugS, dLcM, toM, dppNil, dppCons, dMerge, dDisp, dCatL, dCatLM, dRep, dRepM, dClear, dExtend, dRg1, dRg2, dLstRg, dLstRgM, dTupRg, dChain, dEq, dIsN, dAnd, dOr, dNot, dIfE, dNext, dSeq, dBreak, dCont, dDrop, dRet, dRetN, dIfS, dNever, dFrzS, dFrz, hName, hNil, hCons, hTup, hSub, dAsg, dPar, dAug, dipI, dNil, dCons, dTup, dLst, dLstM, dIx, dSet, dCall, dwipe, dYes, jSeq, jRng1, jRng2, jStr, jZip, dCB, dLen, dList, dListM, dTuple, dII2, dAbs, dInt, dBM0, dBM, dAppend, dPop, dPopAt, dAndV, dOrV, dNotV, dNeg, dTruth, dIn, dCat, dNoPart, dPart, dSl, dSlM, dNewK, dNewT, dIsi, dIsiT, dLc, dFor, dDc, dLenSet, dLenSetG, dRev, dIsB, dCallS, dRaise, dTry, dIsE, dOwnEq, dOwnNe, dIndex, dSortD, dMin1, dMax1, dIsiC, dLc2, dFrzA, dFrzE, jKeys, jVals, jItems, dLcH, dForH, dEqM, dSortX, dCmpX, dSortSet, dSortDM, dRaiseF, dMakeS, dTryHs, dWHs, dXf, endsD, slotD, dChain3, if_true, if_false, ite_true, ite_false, Bool.false_eq_true, reduceIte, Bool.not_true, Bool.not_false, List.getElem?_cons_zero, List.getElem?_cons_succ, List.set_cons_zero, List.set_cons_succ, List.map_cons, List.map_nil, List.replicate, List.cons_append, List.nil_append, List.length_cons, List.length_nil, dstart]
    refine ⟨rfl, rfl, ?_⟩
    have stay := hn _ _ ⟨qs, rfl, W.weak (by decide)⟩
    by_cases k2 : D.eq (.int kd) (.int 2) = true
    · simp only [k2, if_true, if_false, ite_true, ite_false, Bool.false_eq_true, reduceIte, Bool.not_true, Bool.not_false, List.getElem?_cons_zero, List.getElem?_cons_succ, List.set_cons_zero, List.set_cons_succ, List.map_cons, List.map_nil, List.replicate, List.cons_append, List.nil_append, List.length_cons, List.length_nil, dstart]
      by_cases n2 : 2 < n
      · simp only [decide_eq_true n2, if_true, if_false, ite_true, ite_false, Bool.false_eq_true, reduceIte, Bool.not_true, Bool.not_false, List.getElem?_cons_zero, List.getElem?_cons_succ, List.set_cons_zero, List.set_cons_succ, List.map_cons, List.map_nil, List.replicate, List.cons_append, List.nil_append, List.length_cons, List.length_nil, dstart]
        obtain ⟨y, hy, yr, yi⟩ := at_ (n - 1) (by omega) (by omega)
        refine ⟨by simp only [tyD, W.lst], _, hsi _, _, yi _, by decide, ?_⟩
        simp only [W.lst]
        have wl := W.len
        refine ⟨len_lt (by rw [List.length_map]; omega), hn _ _ ⟨qs ++ [(s, y)], rfl, ?_⟩⟩
        have := W.add (l' := l) (ms := [(s, y)]) (.inl rfl) (fun q hq => by
          rw [List.mem_singleton.mp hq]
          exact ⟨hsr, yr, dis (by omega) hs hy⟩) fun z hz => .inl hz
        rw [List.map_append] at this; exact this
      · simp only [decide_eq_false n2, if_true, if_false, ite_true, ite_false, Bool.false_eq_true, reduceIte, Bool.not_true, Bool.not_false, List.getElem?_cons_zero, List.getElem?_cons_succ, List.set_cons_zero, List.set_cons_succ, List.map_cons, List.map_nil, List.replicate, List.cons_append, List.nil_append, List.length_cons, List.length_nil, dstart]
        exact stay
    · simp only [Bool.not_eq_true] at k2
      simp only [k2, if_true, if_false, ite_true, ite_false, Bool.false_eq_true, reduceIte, Bool.not_true, Bool.not_false, List.getElem?_cons_zero, List.getElem?_cons_succ, List.set_cons_zero, List.set_cons_succ, List.map_cons, List.map_nil, List.replicate, List.cons_append, List.nil_append, List.length_cons, List.length_nil, dstart]
      exact stay
  clear W
  obtain ⟨qs, rfl, W⟩ := h
  refine dSeq_then (fun γ' M' => ∃ (l : Addr) (o7 : Option D) (qs : List (Int × Int)), γ' = [some (.ref p), some (.int most), some (.int kd), some (.int n), some (.int mo), some (.lst (nm.map .int)), some (.ref l), o7, o8, none, none, none] ∧ BSt M p n s (fun x => 0 ≤ x ∧ x < n) 100 M' l qs) (fun nx hn => ?_) (fun γ8 M8 h => ?_)
  · simp only [dVar, dC, dOp, dTest, dII, dIC, dFld, dFldS, dMake, dProp, dAugS, dLcM, toM, dppNil, dppCons, dMerge, dDisp, dCatL, dCatLM, dRep, dRepM, dClear, dExtend, dRg1, dRg2, dLstRg, dLstRgM, dTupRg, dChain, dEq, dIsN, dAnd, dOr, dNot, dIfE, dNext, dSeq, dBreak, dCont, dDrop, dRet, dRetN, dIfS, dNever, dFrzS, dFrz, hName, hNil, hCons, hTup, hSub, dAsg, dPar, dAug, dipI, dNil, dCons, dTup, dLst, dLstM, dIx, dSet, dCall, dwipe, dYes, jSeq, jRng1, jRng2, jStr, jZip, dCB, dLen, dList, dListM, dTuple, dII2, dAbs, dInt, dBM0, dBM, dAppend, dPop, dPopAt, dAndV, dOrV, dNotV, dNeg, dTruth, dIn, dCat, dNoPart, dPart, dSl, dSlM, dNewK, dNewT, dIsi, dIsiT, dLc, dFor, dDc, dLenSet, dLenSetG, dRev, dIsB, dCallS, dRaise, dTry, dIsE, dOwnEq, dOwnNe, dIndex, dSortD, dMin1, dMax1, dIsiC, dLc2, dFrzA, dFrzE, jKeys, jVals, jItems, dLcH, dForH, dEqM, dSortX, dCmpX, dSortSet, dSortDM, dRaiseF, dMakeS, dTryHs, dWHs, dXf, endsD, slotD, dChain3, if_true, if_false, ite_true, ite_false, Bool.false_eq_true, reduceIte, Bool.not_true, Bool.not_false, List.getElem?_cons_zero, List.getElem?_cons_succ, List.set_cons_zero, List.set_cons_succ, List.map_cons, List.map_nil, List.replicate, List.cons_append, List.nil_append, List.length_cons, List.length_nil, dstart]
    refine ⟨rfl, rfl, ?_⟩
    by_cases k4 : D.eq (.int kd) (.int 4) = true
    · simp only [k4, if_true, if_false, ite_true, ite_false, Bool.false_eq_true, reduceIte, Bool.not_true, Bool.not_false, List.getElem?_cons_zero, List.getElem?_cons_succ, List.set_cons_zero, List.set_cons_succ, List.map_cons, List.map_nil, List.replicate, List.cons_append, List.nil_append, List.length_cons, List.length_nil, dstart]
      refine ⟨by omega, dForI_of (fun i γ M' => ∃ (l : Addr) (o7 : Option D) (qs : List (Int × Int)), γ = [some (.ref p), some (.int most), some (.int kd), some (.int n), some (.int mo), some (.lst (nm.map .int)), some (.ref l), o7, o8, none, none, none] ∧ BSt M p n s (fun x => 0 ≤ x ∧ x < n) (9 + 8 * i) M' l qs) ⟨_, _, qs, rfl, W⟩ ?_ ?_⟩
      · rintro i e γ M' he ⟨l, o7, qs, rfl, W⟩
        obtain ⟨hi, rfl⟩ := rgD_get he
        obtain ⟨x, hx, xr, xi⟩ := at_ (0 + (i : Int)) (by omega) (by omega)
        simp only [dVar, dC, dOp, dTest, dII, dIC, dFld, dFldS, dMake, dProp, dAugS, dLcM, toM, dppNil, dppCons, dMerge, dDisp, dCatL, dCatLM, dRep, dRepM, dClear, dExtend, dRg1, dRg2, dLstRg, dLstRgM, dTupRg, dChain, dEq, dIsN, dAnd, dOr, dNot, dIfE, dNext, dSeq, dBreak, dCont, dDrop, dRet, dRetN, dIfS, dNever, dFrzS, dFrz, hName, hNil, hCons, hTup, hSub, dAsg, dPar, dAug, dipI, dNil, dCons, dTup, dLst, dLstM, dIx, dSet, dCall, dwipe, dYes, jSeq, jRng1, jRng2, jStr, jZip, dCB, dLen, dList, dListM, dTuple, dII2, dAbs, dInt, dBM0, dBM, dAppend, dPop, dPopAt, dAndV, dOrV, dNotV, dNeg, dTruth, dIn, dCat, dNoPart, dPart, dSl, dSlM, dNewK, dNewT, dIsi, dIsiT, dLc, dFor, dDc, dLenSet, dLenSetG, dRev, dIsB, dCallS, dRaise, dTry, dIsE, dOwnEq, dOwnNe, dIndex, dSortD, dMin1, dMax1, dIsiC, dLc2, dFrzA, dFrzE, jKeys, jVals, jItems, dLcH, dForH, dEqM, dSortX, dCmpX, dSortSet, dSortDM, dRaiseF, dMakeS, dTryHs, dWHs, dXf, endsD, slotD, dChain3, if_true, if_false, ite_true, ite_false, Bool.false_eq_true, reduceIte, Bool.not_true, Bool.not_false, List.getElem?_cons_zero, List.getElem?_cons_succ, List.set_cons_zero, List.set_cons_succ, List.map_cons, List.map_nil, List.replicate, List.cons_append, List.nil_append, List.length_cons, List.length_nil, dstart]
        refine ⟨by omega, by rw [rgD_len]; exact len_ok (by omega), dLcI_idx (fun j => prD (x, nm.getD j 0)) (fun j d hd Q2 q2 => ?_) ?_⟩
        · obtain ⟨hj, rfl⟩ := rgD_get hd
          obtain ⟨y, hy, yr, yi⟩ := at_ (0 + (j : Int)) (by omega) (by omega)
          have ej : (0 + (j : Int)).toNat = j := by omega
          rw [ej] at hy
          simp only [dVar, dC, dOp, dTest, dII, dIC, dFld, dFldS, dMake, dProp, dAugS, dLcM, toM, dppNil, dppCons, dMerge, dDisp, dCatL, dCatLM, dRep, dRepM, dClear, dExtend, dRg1, dRg2, dLstRg, dLstRgM, dTupRg, dChain, dEq, dIsN, dAnd, dOr, dNot, dIfE, dNext, dSeq, dBreak, dCont, dDrop, dRet, dRetN, dIfS, dNever, dFrzS, dFrz, hName, hNil, hCons, hTup, hSub, dAsg, dPar, dAug, dipI, dNil, dCons, dTup, dLst, dLstM, dIx, dSet, dCall, dwipe, dYes, jSeq, jRng1, jRng2, jStr, jZip, dCB, dLen, dList, dListM, dTuple, dII2, dAbs, dInt, dBM0, dBM, dAppend, dPop, dPopAt, dAndV, dOrV, dNotV, dNeg, dTruth, dIn, dCat, dNoPart, dPart, dSl, dSlM, dNewK, dNewT, dIsi, dIsiT, dLc, dFor, dDc, dLenSet, dLenSetG, dRev, dIsB, dCallS, dRaise, dTry, dIsE, dOwnEq, dOwnNe, dIndex, dSortD, dMin1, dMax1, dIsiC, dLc2, dFrzA, dFrzE, jKeys, jVals, jItems, dLcH, dForH, dEqM, dSortX, dCmpX, dSortSet, dSortDM, dRaiseF, dMakeS, dTryHs, dWHs, dXf, endsD, slotD, dChain3, if_true, if_false, ite_true, ite_false, Bool.false_eq_true, reduceIte, Bool.not_true, Bool.not_false, List.getElem?_cons_zero, List.getElem?_cons_succ, List.set_cons_zero, List.set_cons_succ, List.map_cons, List.map_nil, List.replicate, List.cons_append, List.nil_append, List.length_cons, List.length_nil, dstart]
          refine ⟨_, xi _, _, yi _, by decide, ?_⟩
          have e : nm.getD j 0 = y := by rw [List.getD_eq_getElem?_getD, hy]; rfl
          rw [e] at q2
          exact q2
        · have e : (List.range (rgD 0 (0 + (i : Int)).toNat).length).map (fun j => prD (x, nm.getD j 0)) = ((List.range i).map fun j => (x, nm.getD j 0)).map prD := by
            rw [rgD_len, List.map_map, show (0 + (i : Int)).toNat = i by omega]; rfl
          rw [e]
          have ei : (0 + (i : Int)).toNat = i := by omega
          rw [ei] at hx
          have ml : ((List.range i).map fun j => (x, nm.getD j 0)).length = i := by simp
          have mok : ∀ q ∈ (List.range i).map fun j => (x, nm.getD j 0), (0 ≤ q.1 ∧ q.1 < n) ∧ (0 ≤ q.2 ∧ q.2 < n) ∧ q.1 ≠ q.2 := fun q hq => by
            obtain ⟨j, hj, rfl⟩ := List.mem_map.mp hq
            have hj := List.mem_range.mp hj
            obtain ⟨y, hy, yr, yi⟩ := at_ (0 + (j : Int)) (by omega) (by omega)
            have ej : (0 + (j : Int)).toNat = j := by omega
            rw [ej] at hy
            have e : nm.getD j 0 = y := by rw [List.getD_eq_getElem?_getD, hy]; rfl
            rw [e]
            exact ⟨xr, yr, dis (by omega) hx hy⟩
          revert ml mok
          generalize (List.range i).map (fun j => (x, nm.getD j 0)) = ms
          intro ml mok
          have wl := W.len
          refine ⟨_, _, by simp only [lstOf, W.lst]; rfl, rfl, by rw [List.length_map, List.length_map]; exact len_ok (by omega), fun l2 hl2 => ⟨l2, _, qs ++ ms, rfl, ?_⟩⟩
          have := W.add (l' := l2) (ms := ms) (.inr hl2) mok fun z hz => .inl hz
          rw [List.map_append] at this
          exact this.weak (by omega)
      · rintro γ M' ⟨l, o7, qs, rfl, W⟩
        rw [rgD_len] at W
        exact hn _ _ ⟨l, o7, qs, rfl, W.weak (by omega)⟩
    · simp only [Bool.not_eq_true] at k4
      simp only [k4, if_true, if_false, ite_true, ite_false, Bool.false_eq_true, reduceIte, Bool.not_true, Bool.not_false, List.getElem?_cons_zero, List.getElem?_cons_succ, List.set_cons_zero, List.set_cons_succ, List.map_cons, List.map_nil, List.replicate, List.cons_append, List.nil_append, List.length_cons, List.length_nil, dstart]
      exact hn _ _ ⟨l, o7, qs, rfl, W.weak (by decide)⟩
  clear W
  obtain ⟨l, o7, qs, rfl, W⟩ := h
  refine dSeq_then (fun γ' M' => ∃ (o7 o9 : Option D) (qs : List (Int × Int)), γ' = [some (.ref p), some (.int most), some (.int kd), some (.int n), some (.int mo), some (.lst (nm.map .int)), some (.ref l), o7, o8, o9, none, none] ∧ BSt M p n s (fun x => 0 ≤ x ∧ x < n) 110 M' l qs) (fun nx hn => ?_) (fun γ9 M9 h => ?_)
  · simp only [dVar, dC, dOp, dTest, dII, dIC, dFld, dFldS, dMake, dProp, dAugS, dLcM, toM, dppNil, dppCons, dMerge, dDisp, dCatL, dCatLM, dRep, dRepM, dClear, dExtend, dRg1, dRg2, dLstRg, dLstRgM, dTupRg, dChain, dEq, dIsN, dAnd, dOr, dNot, dIfE, dNext, dSeq, dBreak, dCont, dDrop, dRet, dRetN, dIfS, dNever, dFrzS, dFrz, hName, hNil, hCons, hTup, hSub, dAsg, dPar, dAug, dipI, dNil, dCons, dTup, dLst, dLstM, dIx, dSet, dCall, dwipe, dYes, jSeq, jRng1, jRng2, jStr, jZip, dCB, dLen, dList, dListM, dTuple, dII2, dAbs, dInt, dBM0, dBM, dAppend, dPop, dPopAt, dAndV, dOrV, dNotV, dNeg, dTruth, dIn, dCat, dNoPart, dPart, dSl, dSlM, dNewK, dNewT, dIsi, dIsiT, dLc, dFor, dDc, dLenSet, dLenSetG, dRev, dIsB, dCallS, dRaise, dTry, dIsE, dOwnEq, dOwnNe, dIndex, dSortD, dMin1, dMax1, dIsiC, dLc2, dFrzA, dFrzE, jKeys, jVals, jItems, dLcH, dForH, dEqM, dSortX, dCmpX, dSortSet, dSortDM, dRaiseF, dMakeS, dTryHs, dWHs, dXf, endsD, slotD, dChain3, if_true, if_false, ite_true, ite_false, Bool.false_eq_true, reduceIte, Bool.not_true, Bool.not_false, List.getElem?_cons_zero, List.getElem?_cons_succ, List.set_cons_zero, List.set_cons_succ, List.map_cons, List.map_nil, List.replicate, List.cons_append, List.nil_append, List.length_cons, List.length_nil, dstart]
    by_cases k5 : 4 < kd
    · simp only [decide_eq_true k5, if_true, if_false, ite_true, ite_false, Bool.false_eq_true, reduceIte, Bool.not_true, Bool.not_false, List.getElem?_cons_zero, List.getElem?_cons_succ, List.set_cons_zero, List.set_cons_succ, List.map_cons, List.map_nil, List.replicate, List.cons_append, List.nil_append, List.length_cons, List.length_nil, dstart]
      refine ⟨cmulL (by omega), by split <;> omega, dForI_of (fun i γ M' => ∃ (o7 o9 : Option D) (qs : List (Int × Int)), γ = [some (.ref p), some (.int most), some (.int kd), some (.int n), some (.int mo), some (.lst (nm.map .int)), some (.ref l), o7, o8, o9, none, none] ∧ BSt M p n s (fun x => 0 ≤ x ∧ x < n) (100 + i) M' l qs) ⟨_, _, qs, rfl, W⟩ ?_ ?_⟩
      · rintro i e γ M' he ⟨o7, o9, qs, rfl, W⟩
        obtain ⟨hi, rfl⟩ := rgD_get he
        have h1n : 1 < n := by
          by_cases h : 1 < n
          · exact h
          · simp [h] at hi
        have hi2 : i < 4 := by
          simp only [decide_eq_true h1n, if_true] at hi
          omega
        simp only [dVar, dC, dOp, dTest, dII, dIC, dFld, dFldS, dMake, dProp, dAugS, dLcM, toM, dppNil, dppCons, dMerge, dDisp, dCatL, dCatLM, dRep, dRepM, dClear, dExtend, dRg1, dRg2, dLstRg, dLstRgM, dTupRg, dChain, dEq, dIsN, dAnd, dOr, dNot, dIfE, dNext, dSeq, dBreak, dCont, dDrop, dRet, dRetN, dIfS, dNever, dFrzS, dFrz, hName, hNil, hCons, hTup, hSub, dAsg, dPar, dAug, dipI, dNil, dCons, dTup, dLst, dLstM, dIx, dSet, dCall, dwipe, dYes, jSeq, jRng1, jRng2, jStr, jZip, dCB, dLen, dList, dListM, dTuple, dII2, dAbs, dInt, dBM0, dBM, dAppend, dPop, dPopAt, dAndV, dOrV, dNotV, dNeg, dTruth, dIn, dCat, dNoPart, dPart, dSl, dSlM, dNewK, dNewT, dIsi, dIsiT, dLc, dFor, dDc, dLenSet, dLenSetG, dRev, dIsB, dCallS, dRaise, dTry, dIsE, dOwnEq, dOwnNe, dIndex, dSortD, dMin1, dMax1, dIsiC, dLc2, dFrzA, dFrzE, jKeys, jVals, jItems, dLcH, dForH, dEqM, dSortX, dCmpX, dSortSet, dSortDM, dRaiseF, dMakeS, dTryHs, dWHs, dXf, endsD, slotD, dChain3, if_true, if_false, ite_true, ite_false, Bool.false_eq_true, reduceIte, Bool.not_true, Bool.not_false, List.getElem?_cons_zero, List.getElem?_cons_succ, List.set_cons_zero, List.set_cons_succ, List.map_cons, List.map_nil, List.replicate, List.cons_append, List.nil_append, List.length_cons, List.length_nil, dstart]
        refine ⟨p, n, rfl, W.dice, by omega, by omega, fun x M1 x0 x1 e1 b1 => ?_⟩
        have W1 := W.to e1 b1
        refine ⟨by simp only [tyD, W1.lst], p, n - 1, rfl, e1, by omega, by omega, fun y M2 y0 y1 e2 b2 => ⟨by omega, by decide, ?_⟩⟩
        have W2 := W1.to e2 b2
        have z0 : 0 ≤ (x + 1 + y) % n := Int.emod_nonneg _ (by omega)
        have z1 : (x + 1 + y) % n < n := Int.emod_lt_of_pos _ (by omega)
        have z2 : (x + 1 + y) % n ≠ x := by
          by_cases h : x + 1 + y < n
          · rw [Int.emod_eq_of_lt (by omega) h]; omega
          · have e : (x + 1 + y) % n = (x + 1 + y - n) % n := by
              have := Int.add_mul_emod_self_right (x + 1 + y - n) 1 n
              rw [Int.one_mul, Int.sub_add_cancel] at this
              exact this
            rw [e, Int.emod_eq_of_lt (by omega) (by omega)]; omega
        generalize (x + 1 + y) % n = z at z0 z1 z2 ⊢
        simp only [W2.lst]
        have wl := W2.len
        refine ⟨len_lt (by rw [List.length_map]; omega), _, _, qs ++ [(x, z)], rfl, ?_⟩
        have := W2.add (l' := l) (ms := [(x, z)]) (.inl rfl) (fun q hq => by
          rw [List.mem_singleton.mp hq]
          exact ⟨⟨x0, x1⟩, ⟨z0, z1⟩, fun e => z2 e.symm⟩) fun z hz => .inl hz
        rw [List.map_append] at this; exact this
      · rintro γ M' ⟨o7, o9, qs, rfl, W⟩
        have hb : 100 + (rgD 0 (mo * if decide (1 < n) = true then 1 else 0).toNat).length ≤ 110 := by
          rw [rgD_len]
          split <;> omega
        exact hn _ _ ⟨_, _, qs, rfl, W.weak hb⟩
    · simp only [decide_eq_false k5, if_true, if_false, ite_true, ite_false, Bool.false_eq_true, reduceIte, Bool.not_true, Bool.not_false, List.getElem?_cons_zero, List.getElem?_cons_succ, List.set_cons_zero, List.set_cons_succ, List.map_cons, List.map_nil, List.replicate, List.cons_append, List.nil_append, List.length_cons, List.length_nil, dstart]
      exact hn _ _ ⟨_, _, qs, rfl, W.weak (by decide)⟩
  clear W
  obtain ⟨o7, o9, qs, rfl, W⟩ := h
  simp only [dFrzS, List.getElem?_cons_zero, List.getElem?_cons_succ, W.lst, List.set_cons_zero, List.set_cons_succ]
  simp only [dVar, dC, dOp, dTest, dII, dIC, dFld, dFldS, dMake, dProp, dAugS, dLcM, toM, dppNil, dppCons, dMerge, dDisp, dCatL, dCatLM, dRep, dRepM, dClear, dExtend, dRg1, dRg2, dLstRg, dLstRgM, dTupRg, dChain, dEq, dIsN, dAnd, dOr, dNot, dIfE, dNext, dSeq, dBreak, dCont, dDrop, dRet, dRetN, dIfS, dNever, dFrzS, dFrz, hName, hNil, hCons, hTup, hSub, dAsg, dPar, dAug, dipI, dNil, dCons, dTup, dLst, dLstM, dIx, dSet, dCall, dwipe, dYes, jSeq, jRng1, jRng2, jStr, jZip, dCB, dLen, dList, dListM, dTuple, dII2, dAbs, dInt, dBM0, dBM, dAppend, dPop, dPopAt, dAndV, dOrV, dNotV, dNeg, dTruth, dIn, dCat, dNoPart, dPart, dSl, dSlM, dNewK, dNewT, dIsi, dIsiT, dLc, dFor, dDc, dLenSet, dLenSetG, dRev, dIsB, dCallS, dRaise, dTry, dIsE, dOwnEq, dOwnNe, dIndex, dSortD, dMin1, dMax1, dIsiC, dLc2, dFrzA, dFrzE, jKeys, jVals, jItems, dLcH, dForH, dEqM, dSortX, dCmpX, dSortSet, dSortDM, dRaiseF, dMakeS, dTryHs, dWHs, dXf, endsD, slotD, dChain3, if_true, if_false, ite_true, ite_false, Bool.false_eq_true, reduceIte, Bool.not_true, Bool.not_false, List.getElem?_cons_zero, List.getElem?_cons_succ, List.set_cons_zero, List.set_cons_succ, List.map_cons, List.map_nil, List.replicate, List.cons_append, List.nil_append, List.length_cons, List.length_nil, dstart]
  have wl := W.len
  refine ⟨by rw [List.length_map]; exact len_ok (by omega), dLcI_map (fun d => match d with | .tup [.int a, .int b] => prD (if b < a then b else a, if a < b then b else a) | d => d) (fun i e he Q2 q2 => ?_) ?_⟩
  · obtain ⟨⟨a, b⟩, ha, rfl⟩ := get_pr he
    simp only [dVar, dC, dOp, dTest, dII, dIC, dFld, dFldS, dMake, dProp, dAugS, dLcM, toM, dppNil, dppCons, dMerge, dDisp, dCatL, dCatLM, dRep, dRepM, dClear, dExtend, dRg1, dRg2, dLstRg, dLstRgM, dTupRg, dChain, dEq, dIsN, dAnd, dOr, dNot, dIfE, dNext, dSeq, dBreak, dCont, dDrop, dRet, dRetN, dIfS, dNever, dFrzS, dFrz, hName, hNil, hCons, hTup, hSub, dAsg, dPar, dAug, dipI, dNil, dCons, dTup, dLst, dLstM, dIx, dSet, dCall, dwipe, dYes, jSeq, jRng1, jRng2, jStr, jZip, dCB, dLen, dList, dListM, dTuple, dII2, dAbs, dInt, dBM0, dBM, dAppend, dPop, dPopAt, dAndV, dOrV, dNotV, dNeg, dTruth, dIn, dCat, dNoPart, dPart, dSl, dSlM, dNewK, dNewT, dIsi, dIsiT, dLc, dFor, dDc, dLenSet, dLenSetG, dRev, dIsB, dCallS, dRaise, dTry, dIsE, dOwnEq, dOwnNe, dIndex, dSortD, dMin1, dMax1, dIsiC, dLc2, dFrzA, dFrzE, jKeys, jVals, jItems, dLcH, dForH, dEqM, dSortX, dCmpX, dSortSet, dSortDM, dRaiseF, dMakeS, dTryHs, dWHs, dXf, endsD, slotD, dChain3, if_true, if_false, ite_true, ite_false, Bool.false_eq_true, reduceIte, Bool.not_true, Bool.not_false, List.getElem?_cons_zero, List.getElem?_cons_succ, List.set_cons_zero, List.set_cons_succ, List.map_cons, List.map_nil, List.replicate, List.cons_append, List.nil_append, List.length_cons, List.length_nil, dstart]
    refine ⟨[a, b], rfl, by simp, fun m hm hle => ⟨[a, b], rfl, by simp, fun m2 hm2 hle2 => ⟨by decide, ?_⟩⟩⟩
    have e1 : m = if b < a then b else a := by
      have h1 := hle a (by simp)
      have h2 := hle b (by simp)
      simp at hm
      split <;> omega
    have e2 : m2 = if a < b then b else a := by
      have h1 := hle2 a (by simp)
      have h2 := hle2 b (by simp)
      simp at hm2
      split <;> omega
    rw [e1, e2]
    exact q2
  · have e : ((qs.map prD).map fun d => match d with | .tup [.int a, .int b] => prD (if b < a then b else a, if a < b then b else a) | d => d) = (qs.map fun q => (if q.2 < q.1 then q.2 else q.1, if q.1 < q.2 then q.2 else q.1)).map prD := by rw [List.map_map, List.map_map]; rfl
    rw [e]
    intro l2 hl2
    refine ⟨l2, _, rfl, mset_same, by rw [List.length_map]; omega, fun rs pw mem2 _ => ⟨by decide, ?_⟩⟩
    rw [mdel_mset hl2]
    obtain ⟨M2, le, ag, ep⟩ := (W.ext.mdel W.fr).cut
    exact fin_less le (q n rs M2 (W.book n1 n8 hsr pw mem2) nm_ ⟨by rw [ep]; exact (W.dice.mdel W.ne).ex⟩ ag)
theorem sc__law_are_tied : FnScope ["_law_ties", "_law_tie", "_law_one", "_law_other", "_law_less", "_law_gone", "_law_pair", "_law_ends", "_law_k"] ["_law_ties", "_law_tie", "_law_one", "_law_other"] (defScope s__law_are_tied) := ⟨rfl, rfl, rfl, by decide +kernel, rfl, by decide +kernel, by decide +kernel⟩
def sp__law_are_tied : DSp := fun ds M Q _ => ∃ n ps a g x y, ds = [.tup (ps.map prD), .tup [.int a, .int g], .int x, .int y] ∧ PrsOk n ps ∧ 0 ≤ a ∧ a < g ∧ g < n ∧ n ≤ 8 ∧ ∀ b : Bool, (b = true ↔ ∃ p ∈ ps, (foldT a g p.1 = x ∧ foldT a g p.2 = y) ∨ (foldT a g p.1 = y ∧ foldT a g p.2 = x)) → Q (.bl b) M
theorem c__law_are_tied (F : DFun K mg "_law_are_tied" s__law_are_tied ["_law_ties", "_law_tie", "_law_one", "_law_other"]) (B : Bn mg) (G : Gs mg)  : DCal P w K mg base CX0 1 "_law_are_tied" sp__law_are_tied := by
  refine dok F sc__law_are_tied (fun ds M Q E h => (by obtain ⟨_, h⟩ := h; first | (obtain ⟨e, _⟩ := h; subst e; rfl) | (obtain ⟨_, e, _⟩ := h; subst e; rfl) | (obtain ⟨_, _, e, _⟩ := h; subst e; rfl) | (obtain ⟨_, _, _, e, _⟩ := h; subst e; rfl) | (obtain ⟨_, _, _, _, e, _⟩ := h; subst e; rfl) | (obtain ⟨_, _, _, _, _, e, _⟩ := h; subst e; rfl) | (obtain ⟨_, _, _, _, _, _, e, _⟩ := h; subst e; rfl) | (obtain ⟨_, _, _, _, _, _, _, e, _⟩ := h; subst e; rfl) | (obtain ⟨_, _, _, _, _, _, _, _, e, _⟩ := h; subst e; rfl) | (obtain ⟨_, _, _, _, _, _, _, _, _, e, _⟩ := h; subst e; rfl))) (fun f cdv A outer s H E F0 hr => ?_)
  have nd := (sc__law_are_tied).nd
  refine ⟨_, _, (db_cons (ds_asg (de_var 1) (dg_tup (n := 2) rfl (dgs_cons (dg_name 4 nd) (dgs_cons (dg_name 5 nd) dgs_nil))))
      (db_cons (ds_for PassesOwn.never rfl (di_seq (de_var 0)) (dg_name 6 nd) (db_cons (ds_set 7 nd (de_lstM (da_cons (de_ix hr (de_var 6) de_int) (da_cons (de_ix hr (de_var 6) de_int) da_nil))))
      (db_cons (ds_for PassesOwn.never rfl (di_range1 B.range (da_cons de_int da_nil)) (dg_name 8 nd) (db_one (ds_if (dt_eq hr (de_ix hr (de_var 7) (de_var 8)) (de_var 5)) (db_one (ds_put hr (de_var 7) (de_var 8) (de_var 4))) (db_one (ds_if (dt_gt (de_ix hr (de_var 7) (de_var 8)) (de_var 5)) (db_one (ds_put hr (de_var 7) (de_var 8) (de_sub (de_ix hr (de_var 7) (de_var 8)) de_int))) db_nil)))))
      (db_one (ds_if (DW.dt (dw_or (dt_eqM hr (de_var 7) (de_lst (da_cons (de_var 2) (da_cons (de_var 3) da_nil)))) (dw_or1 (dt_eqM hr (de_var 7) (de_lst (da_cons (de_var 3) (da_cons (de_var 2) da_nil))))))) (db_one (ds_ret de_bl)) db_nil)))))
      (db_one (ds_ret de_bl)))), ?_⟩
  rintro ds M Q E ⟨n, ps, a, g, x, y, rfl, ok, a0, ag, gn, n8, q⟩
  have l28 := ok.len28 n8
  simp only [dVar, dC, dOp, dTest, dII, dIC, dFld, dFldS, dMake, dProp, dAugS, dLcM, toM, dppNil, dppCons, dMerge, dDisp, dCatL, dCatLM, dRep, dRepM, dClear, dExtend, dRg1, dRg2, dLstRg, dLstRgM, dTupRg, dChain, dEq, dIsN, dAnd, dOr, dNot, dIfE, dNext, dSeq, dBreak, dCont, dDrop, dRet, dRetN, dIfS, dNever, dFrzS, dFrz, hName, hNil, hCons, hTup, hSub, dAsg, dPar, dAug, dipI, dNil, dCons, dTup, dLst, dLstM, dIx, dSet, dCall, dwipe, dYes, jSeq, jRng1, jRng2, jStr, jZip, dCB, dLen, dList, dListM, dTuple, dII2, dAbs, dInt, dBM0, dBM, dAppend, dPop, dPopAt, dAndV, dOrV, dNotV, dNeg, dTruth, dIn, dCat, dNoPart, dPart, dSl, dSlM, dNewK, dNewT, dIsi, dIsiT, dLc, dFor, dDc, dLenSet, dLenSetG, dRev, dIsB, dCallS, dRaise, dTry, dIsE, dOwnEq, dOwnNe, dIndex, dSortD, dMin1, dMax1, dIsiC, dLc2, dFrzA, dFrzE, jKeys, jVals, jItems, dLcH, dForH, dEqM, dSortX, dCmpX, dSortSet, dSortDM, dRaiseF, dMakeS, dTryHs, dWHs, dXf, endsD, slotD, dChain3, if_true, if_false, ite_true, ite_false, Bool.false_eq_true, reduceIte, Bool.not_true, Bool.not_false, List.getElem?_cons_zero, List.getElem?_cons_succ, List.set_cons_zero, List.set_cons_succ, List.map_cons, List.map_nil, List.replicate, List.cons_append, List.nil_append, List.length_cons, List.length_nil, dstart]
  refine ⟨trivial, ?_⟩
  refine dForI_of (fun i γ M' => ∃ o6 o7 o8 : Option D, γ = [some (.tup (ps.map prD)), some (.tup [.int a, .int g]), some (.int x), some (.int y), some (.int a), some (.int g), o6, o7, o8] ∧ Ext M M' [] ∧ ∀ p ∈ ps.take i, ¬ ((foldT a g p.1 = x ∧ foldT a g p.2 = y) ∨ (foldT a g p.1 = y ∧ foldT a g p.2 = x))) ⟨none, none, none, rfl, Ext.refl _ _, fun p hp => by rw [List.take_zero] at hp; cases hp⟩ ?_ ?_
  · rintro i e γ M' he ⟨o6, o7, o8, rfl, ex, no⟩
    obtain ⟨⟨u, v⟩, huv, rfl⟩ := get_pr he
    have hm := List.mem_of_getElem? huv
    refine dSeq_then (fun γ' M2 => ∃ l, M' l = none ∧ γ' = [some (.tup (ps.map prD)), some (.tup [.int a, .int g]), some (.int x), some (.int y), some (.int a), some (.int g), some (prD (u, v)), some (.ref l), o8] ∧ M2 = mset M' l (.lst [.int u, .int v])) (fun nx hn => ?_) (fun γ1 M1 h => ?_)
    · simp only [dVar, dC, dOp, dTest, dII, dIC, dFld, dFldS, dMake, dProp, dAugS, dLcM, toM, dppNil, dppCons, dMerge, dDisp, dCatL, dCatLM, dRep, dRepM, dClear, dExtend, dRg1, dRg2, dLstRg, dLstRgM, dTupRg, dChain, dEq, dIsN, dAnd, dOr, dNot, dIfE, dNext, dSeq, dBreak, dCont, dDrop, dRet, dRetN, dIfS, dNever, dFrzS, dFrz, hName, hNil, hCons, hTup, hSub, dAsg, dPar, dAug, dipI, dNil, dCons, dTup, dLst, dLstM, dIx, dSet, dCall, dwipe, dYes, jSeq, jRng1, jRng2, jStr, jZip, dCB, dLen, dList, dListM, dTuple, dII2, dAbs, dInt, dBM0, dBM, dAppend, dPop, dPopAt, dAndV, dOrV, dNotV, dNeg, dTruth, dIn, dCat, dNoPart, dPart, dSl, dSlM, dNewK, dNewT, dIsi, dIsiT, dLc, dFor, dDc, dLenSet, dLenSetG, dRev, dIsB, dCallS, dRaise, dTry, dIsE, dOwnEq, dOwnNe, dIndex, dSortD, dMin1, dMax1, dIsiC, dLc2, dFrzA, dFrzE, jKeys, jVals, jItems, dLcH, dForH, dEqM, dSortX, dCmpX, dSortSet, dSortDM, dRaiseF, dMakeS, dTryHs, dWHs, dXf, endsD, slotD, dChain3, if_true, if_false, ite_true, ite_false, Bool.false_eq_true, reduceIte, Bool.not_true, Bool.not_false, List.getElem?_cons_zero, List.getElem?_cons_succ, List.set_cons_zero, List.set_cons_succ, List.map_cons, List.map_nil, List.replicate, List.cons_append, List.nil_append, List.length_cons, List.length_nil, dstart]
      exact ⟨_, rfl, _, rfl, by decide, fun l hl => hn _ _ ⟨l, hl, rfl, rfl⟩⟩
    obtain ⟨l, hl, rfl, rfl⟩ := h
    have s0 : ∀ p q z : Int, dStore (mset M' l (.lst [.int p, .int q])) l (.int 0) (.int z) = some (mset M' l (.lst [.int z, .int q])) := fun p q z => by
      simp only [dStore, mset_same]
      show some (mset (mset M' l _) l _) = _
      rw [mset_mset]; rfl
    have s1 : ∀ p q z : Int, dStore (mset M' l (.lst [.int p, .int q])) l (.int 1) (.int z) = some (mset M' l (.lst [.int p, .int z])) := fun p q z => by
      simp only [dStore, mset_same]
      show some (mset (mset M' l _) l _) = _
      rw [mset_mset]; rfl
    have i0 : ∀ p q : Int, dIxV (mset M' l (.lst [.int p, .int q])) (.ref l) (.int 0) = some (.int p) := fun p q => by simp only [dIxV, mset_same]; rfl
    have i1 : ∀ p q : Int, dIxV (mset M' l (.lst [.int p, .int q])) (.ref l) (.int 1) = some (.int q) := fun p q => by simp only [dIxV, mset_same]; rfl
    refine dSeq_then (fun γ' M2 => ∃ o8, γ' = [some (.tup (ps.map prD)), some (.tup [.int a, .int g]), some (.int x), some (.int y), some (.int a), some (.int g), some (prD (u, v)), some (.ref l), o8] ∧ M2 = mset M' l (.lst [.int (foldT a g u), .int (foldT a g v)])) (fun nx hn => ?_) (fun γ2 M2 h => ?_)
    · simp only [dFor, jRng1, dCons, dNil, dC, if_true, if_false, ite_true, ite_false, Bool.false_eq_true, reduceIte, Bool.not_true, Bool.not_false, List.getElem?_cons_zero, List.getElem?_cons_succ, List.set_cons_zero, List.set_cons_succ, List.map_cons, List.map_nil, List.replicate, List.cons_append, List.nil_append, List.length_cons, List.length_nil, dstart]
      refine ⟨by decide, dForI_of (fun i γ' M2 => ∃ o8, γ' = [some (.tup (ps.map prD)), some (.tup [.int a, .int g]), some (.int x), some (.int y), some (.int a), some (.int g), some (prD (u, v)), some (.ref l), o8] ∧ M2 = mset M' l (.lst [.int (if 0 < i then foldT a g u else u), .int (if 1 < i then foldT a g v else v)])) ⟨o8, rfl, rfl⟩ ?_ ?_⟩
      · rintro j e γ M2 hj ⟨o8, rfl, rfl⟩
        obtain ⟨hj, rfl⟩ := rgD_get hj
        rcases (by omega : j = 0 ∨ j = 1) with rfl | rfl
        · have z0 : ((0 : Int) + ((0 : Nat) : Int)) = 0 := rfl
          simp only [dVar, dC, dOp, dTest, dII, dIC, dFld, dFldS, dMake, dProp, dAugS, dLcM, toM, dppNil, dppCons, dMerge, dDisp, dCatL, dCatLM, dRep, dRepM, dClear, dExtend, dRg1, dRg2, dLstRg, dLstRgM, dTupRg, dChain, dEq, dIsN, dAnd, dOr, dNot, dIfE, dNext, dSeq, dBreak, dCont, dDrop, dRet, dRetN, dIfS, dNever, dFrzS, dFrz, hName, hNil, hCons, hTup, hSub, dAsg, dPar, dAug, dipI, dNil, dCons, dTup, dLst, dLstM, dIx, dSet, dCall, dwipe, dYes, jSeq, jRng1, jRng2, jStr, jZip, dCB, dLen, dList, dListM, dTuple, dII2, dAbs, dInt, dBM0, dBM, dAppend, dPop, dPopAt, dAndV, dOrV, dNotV, dNeg, dTruth, dIn, dCat, dNoPart, dPart, dSl, dSlM, dNewK, dNewT, dIsi, dIsiT, dLc, dFor, dDc, dLenSet, dLenSetG, dRev, dIsB, dCallS, dRaise, dTry, dIsE, dOwnEq, dOwnNe, dIndex, dSortD, dMin1, dMax1, dIsiC, dLc2, dFrzA, dFrzE, jKeys, jVals, jItems, dLcH, dForH, dEqM, dSortX, dCmpX, dSortSet, dSortDM, dRaiseF, dMakeS, dTryHs, dWHs, dXf, endsD, slotD, dChain3, if_true, if_false, ite_true, ite_false, Bool.false_eq_true, reduceIte, Bool.not_true, Bool.not_false, List.getElem?_cons_zero, List.getElem?_cons_succ, List.set_cons_zero, List.set_cons_succ, List.map_cons, List.map_nil, List.replicate, List.cons_append, List.nil_append, List.length_cons, List.length_nil, dstart, z0, i0, s0]
          refine ⟨.int u, rfl, rfl, rfl, ?_⟩
          rw [D.eq_int]
          by_cases e1 : u = g
          · rw [if_pos (beq_iff_eq.mpr e1)]
            refine ⟨_, rfl, _, rfl, ?_⟩
            show mset M' l (.lst [.int a, .int v]) = mset M' l (.lst [.int (foldT a g u), .int v])
            rw [show foldT a g u = a by unfold foldT; rw [if_pos e1]]
          · rw [if_neg (fun z => e1 (beq_iff_eq.mp z))]
            refine ⟨.int u, rfl, ?_⟩
            show (if decide (g < u) = true then _ else _)
            by_cases e2 : g < u
            · rw [if_pos (decide_eq_true e2)]
              refine ⟨.int u, rfl, _, rfl, _, rfl, ?_⟩
              show mset M' l (.lst [.int (u - 1), .int v]) = mset M' l (.lst [.int (foldT a g u), .int v])
              rw [show foldT a g u = u - 1 by unfold foldT; rw [if_neg e1, if_pos e2]]
            · rw [if_neg (fun z => e2 (of_decide_eq_true z))]
              refine ⟨_, rfl, ?_⟩
              show mset M' l (.lst [.int u, .int v]) = mset M' l (.lst [.int (foldT a g u), .int v])
              rw [show foldT a g u = u by unfold foldT; rw [if_neg e1, if_neg e2]]
        · have z0 : ((0 : Int) + ((1 : Nat) : Int)) = 1 := rfl
          simp only [dVar, dC, dOp, dTest, dII, dIC, dFld, dFldS, dMake, dProp, dAugS, dLcM, toM, dppNil, dppCons, dMerge, dDisp, dCatL, dCatLM, dRep, dRepM, dClear, dExtend, dRg1, dRg2, dLstRg, dLstRgM, dTupRg, dChain, dEq, dIsN, dAnd, dOr, dNot, dIfE, dNext, dSeq, dBreak, dCont, dDrop, dRet, dRetN, dIfS, dNever, dFrzS, dFrz, hName, hNil, hCons, hTup, hSub, dAsg, dPar, dAug, dipI, dNil, dCons, dTup, dLst, dLstM, dIx, dSet, dCall, dwipe, dYes, jSeq, jRng1, jRng2, jStr, jZip, dCB, dLen, dList, dListM, dTuple, dII2, dAbs, dInt, dBM0, dBM, dAppend, dPop, dPopAt, dAndV, dOrV, dNotV, dNeg, dTruth, dIn, dCat, dNoPart, dPart, dSl, dSlM, dNewK, dNewT, dIsi, dIsiT, dLc, dFor, dDc, dLenSet, dLenSetG, dRev, dIsB, dCallS, dRaise, dTry, dIsE, dOwnEq, dOwnNe, dIndex, dSortD, dMin1, dMax1, dIsiC, dLc2, dFrzA, dFrzE, jKeys, jVals, jItems, dLcH, dForH, dEqM, dSortX, dCmpX, dSortSet, dSortDM, dRaiseF, dMakeS, dTryHs, dWHs, dXf, endsD, slotD, dChain3, if_true, if_false, ite_true, ite_false, Bool.false_eq_true, reduceIte, Bool.not_true, Bool.not_false, List.getElem?_cons_zero, List.getElem?_cons_succ, List.set_cons_zero, List.set_cons_succ, List.map_cons, List.map_nil, List.replicate, List.cons_append, List.nil_append, List.length_cons, List.length_nil, dstart, z0, i1, s1]
          refine ⟨.int v, rfl, rfl, rfl, ?_⟩
          rw [D.eq_int]
          by_cases e1 : v = g
          · rw [if_pos (beq_iff_eq.mpr e1)]
            refine ⟨_, rfl, _, rfl, ?_⟩
            show mset M' l (.lst [.int (foldT a g u), .int a]) = mset M' l (.lst [.int (foldT a g u), .int (foldT a g v)])
            rw [show foldT a g v = a by unfold foldT; rw [if_pos e1]]
          · rw [if_neg (fun z => e1 (beq_iff_eq.mp z))]
            refine ⟨.int v, rfl, ?_⟩
            show (if decide (g < v) = true then _ else _)
            by_cases e2 : g < v
            · rw [if_pos (decide_eq_true e2)]
              refine ⟨.int v, rfl, _, rfl, _, rfl, ?_⟩
              show mset M' l (.lst [.int (foldT a g u), .int (v - 1)]) = mset M' l (.lst [.int (foldT a g u), .int (foldT a g v)])
              rw [show foldT a g v = v - 1 by unfold foldT; rw [if_neg e1, if_pos e2]]
            · rw [if_neg (fun z => e2 (of_decide_eq_true z))]
              refine ⟨_, rfl, ?_⟩
              show mset M' l (.lst [.int (foldT a g u), .int v]) = mset M' l (.lst [.int (foldT a g u), .int (foldT a g v)])
              rw [show foldT a g v = v by unfold foldT; rw [if_neg e1, if_neg e2]]
      · rintro γ M2 ⟨o8, rfl, rfl⟩
        exact hn _ _ ⟨_, rfl, rfl⟩
    obtain ⟨o8, rfl, rfl⟩ := h
    simp only [dVar, dC, dOp, dTest, dII, dIC, dFld, dFldS, dMake, dProp, dAugS, dLcM, toM, dppNil, dppCons, dMerge, dDisp, dCatL, dCatLM, dRep, dRepM, dClear, dExtend, dRg1, dRg2, dLstRg, dLstRgM, dTupRg, dChain, dEq, dIsN, dAnd, dOr, dNot, dIfE, dNext, dSeq, dBreak, dCont, dDrop, dRet, dRetN, dIfS, dNever, dFrzS, dFrz, hName, hNil, hCons, hTup, hSub, dAsg, dPar, dAug, dipI, dNil, dCons, dTup, dLst, dLstM, dIx, dSet, dCall, dwipe, dYes, jSeq, jRng1, jRng2, jStr, jZip, dCB, dLen, dList, dListM, dTuple, dII2, dAbs, dInt, dBM0, dBM, dAppend, dPop, dPopAt, dAndV, dOrV, dNotV, dNeg, dTruth, dIn, dCat, dNoPart, dPart, dSl, dSlM, dNewK, dNewT, dIsi, dIsiT, dLc, dFor, dDc, dLenSet, dLenSetG, dRev, dIsB, dCallS, dRaise, dTry, dIsE, dOwnEq, dOwnNe, dIndex, dSortD, dMin1, dMax1, dIsiC, dLc2, dFrzA, dFrzE, jKeys, jVals, jItems, dLcH, dForH, dEqM, dSortX, dCmpX, dSortSet, dSortDM, dRaiseF, dMakeS, dTryHs, dWHs, dXf, endsD, slotD, dChain3, if_true, if_false, ite_true, ite_false, Bool.false_eq_true, reduceIte, Bool.not_true, Bool.not_false, List.getElem?_cons_zero, List.getElem?_cons_succ, List.set_cons_zero, List.set_cons_succ, List.map_cons, List.map_nil, List.replicate, List.cons_append, List.nil_append, List.length_cons, List.length_nil, dstart]
    have rl : resV (mset M' l (.lst [.int (foldT a g u), .int (foldT a g v)])) (.ref l) = .lst [.int (foldT a g u), .int (foldT a g v)] := by simp only [resV, mset_same]
    have rl2 : ∀ (M2 : Mp) (p q : Int), resV M2 (.lst [.int p, .int q]) = .lst [.int p, .int q] := fun _ _ _ => rfl
    have el : ∀ p q r s : Int, D.eq (.lst [.int p, .int q]) (.lst [.int r, .int s]) = ((p == r) && (q == s)) := fun p q r s => by
      rw [D.eq_lst, D.eqL_cons, D.eqL_cons, D.eqL_nil, D.eq_int, D.eq_int, Bool.and_true]
    have ex2 : Ext M (mset M' l (.lst [.int (foldT a g u), .int (foldT a g v)])) [] := ex.mset (ex.fresh (by simp) hl)
    rw [rl, rl2, rl2, el, el]
    refine ⟨by decide, rfl, rfl, ?_⟩
    by_cases c1 : foldT a g u = x ∧ foldT a g v = y
    · rw [if_pos (by rw [beq_iff_eq.mpr c1.1, beq_iff_eq.mpr c1.2]; rfl)]
      exact fin_less (fun q o hq => ex2 q o (by simp) hq) (q true ⟨fun _ => ⟨(u, v), hm, .inl c1⟩, fun _ => rfl⟩)
    · rw [if_neg (fun z => c1 (by rw [Bool.and_eq_true, beq_iff_eq, beq_iff_eq] at z; exact z))]
      refine ⟨by decide, rfl, rfl, ?_⟩
      by_cases c2 : foldT a g u = y ∧ foldT a g v = x
      · rw [if_pos (by rw [beq_iff_eq.mpr c2.1, beq_iff_eq.mpr c2.2]; rfl)]
        exact fin_less (fun q o hq => ex2 q o (by simp) hq) (q true ⟨fun _ => ⟨(u, v), hm, .inr c2⟩, fun _ => rfl⟩)
      · rw [if_neg (fun z => c2 (by rw [Bool.and_eq_true, beq_iff_eq, beq_iff_eq] at z; exact z))]
        refine ⟨_, _, _, rfl, ex2, fun p hp => ?_⟩
        rw [take_succ_of huv] at hp
        rcases List.mem_append.mp hp with hp | hp
        · exact no p hp
        · rw [List.mem_singleton.mp hp]
          exact fun h => h.elim c1 c2
  · rintro γ M' ⟨o6, o7, o8, rfl, ex, no⟩
    simp only [dVar, dC, dOp, dTest, dII, dIC, dFld, dFldS, dMake, dProp, dAugS, dLcM, toM, dppNil, dppCons, dMerge, dDisp, dCatL, dCatLM, dRep, dRepM, dClear, dExtend, dRg1, dRg2, dLstRg, dLstRgM, dTupRg, dChain, dEq, dIsN, dAnd, dOr, dNot, dIfE, dNext, dSeq, dBreak, dCont, dDrop, dRet, dRetN, dIfS, dNever, dFrzS, dFrz, hName, hNil, hCons, hTup, hSub, dAsg, dPar, dAug, dipI, dNil, dCons, dTup, dLst, dLstM, dIx, dSet, dCall, dwipe, dYes, jSeq, jRng1, jRng2, jStr, jZip, dCB, dLen, dList, dListM, dTuple, dII2, dAbs, dInt, dBM0, dBM, dAppend, dPop, dPopAt, dAndV, dOrV, dNotV, dNeg, dTruth, dIn, dCat, dNoPart, dPart, dSl, dSlM, dNewK, dNewT, dIsi, dIsiT, dLc, dFor, dDc, dLenSet, dLenSetG, dRev, dIsB, dCallS, dRaise, dTry, dIsE, dOwnEq, dOwnNe, dIndex, dSortD, dMin1, dMax1, dIsiC, dLc2, dFrzA, dFrzE, jKeys, jVals, jItems, dLcH, dForH, dEqM, dSortX, dCmpX, dSortSet, dSortDM, dRaiseF, dMakeS, dTryHs, dWHs, dXf, endsD, slotD, dChain3, if_true, if_false, ite_true, ite_false, Bool.false_eq_true, reduceIte, Bool.not_true, Bool.not_false, List.getElem?_cons_zero, List.getElem?_cons_succ, List.set_cons_zero, List.set_cons_succ, List.map_cons, List.map_nil, List.replicate, List.cons_append, List.nil_append, List.length_cons, List.length_nil, dstart]
    rw [List.length_map, List.take_length] at no
    exact fin_less (fun q o hq => ex q o (by simp) hq) (q false ⟨(fun h => by cases h), fun ⟨p, hp, h⟩ => absurd h (no p hp)⟩)
theorem sc__law_due : FnScope ["_law_size", "_law_ties", "_law_tie", "_law_pairs", "_law_one", "_law_other"] ["_law_size", "_law_ties", "_law_tie"] (defScope s__law_due) := ⟨rfl, rfl, rfl, by decide +kernel, rfl, by decide +kernel, by decide +kernel⟩
def sp__law_due : DSp := fun ds M Q _ => ∃ n ps a g, ds = [.int n, .tup (ps.map prD), .tup [.int a, .int g]] ∧ PrsOk n ps ∧ 0 ≤ a ∧ a < g ∧ g < n ∧ n ≤ 8 ∧ ∀ qs : List (Int × Int), qs.Pairwise prLt → (∀ r, r ∈ qs ↔ DrawnM ps a g r) → Q (.tup (qs.map prD)) M
theorem c__law_due (F : DFun K mg "_law_due" s__law_due ["_law_size", "_law_ties", "_law_tie"]) (B : Bn mg) (G : Gs mg) (c__law_are_tied : DCal P w K mg base CX0 1 "_law_are_tied" sp__law_are_tied) : DCal P w K mg base CX0 2 "_law_due" sp__law_due := by
  refine dok F sc__law_due (fun ds M Q E h => (by obtain ⟨_, h⟩ := h; first | (obtain ⟨e, _⟩ := h; subst e; rfl) | (obtain ⟨_, e, _⟩ := h; subst e; rfl) | (obtain ⟨_, _, e, _⟩ := h; subst e; rfl) | (obtain ⟨_, _, _, e, _⟩ := h; subst e; rfl) | (obtain ⟨_, _, _, _, e, _⟩ := h; subst e; rfl) | (obtain ⟨_, _, _, _, _, e, _⟩ := h; subst e; rfl) | (obtain ⟨_, _, _, _, _, _, e, _⟩ := h; subst e; rfl) | (obtain ⟨_, _, _, _, _, _, _, e, _⟩ := h; subst e; rfl) | (obtain ⟨_, _, _, _, _, _, _, _, e, _⟩ := h; subst e; rfl) | (obtain ⟨_, _, _, _, _, _, _, _, _, e, _⟩ := h; subst e; rfl))) (fun f cdv A outer s H E F0 hr => ?_)
  have nd := (sc__law_due).nd
  refine ⟨_, _, (db_cons (ds_set 3 nd (de_lst da_nil))
      (db_cons (ds_for PassesOwn.never rfl (di_range1 B.range (da_cons (de_sub (de_var 0) de_int) da_nil)) (dg_name 4 nd) (db_one (ds_set 3 nd (de_catL (de_var 3) (dx_lc (own := [("_law_other", 5)]) rfl nd (di_range2 B.range (da_cons (de_add (de_var 4) de_int) (da_cons (de_sub (de_var 0) de_int) da_nil))) (blkOk_by (N := ["_law_size", "_law_ties", "_law_tie", "_law_pairs", "_law_one", "_law_other"]) (sc := defScope s__law_due) (by decide +kernel)) (fun _ _ _ _ _ => ⟨_, (dg_name 5 nd), (gw_name (by decide))⟩) (fun _ _ _ _ _ => ⟨_, (dts_one (dt_val (de_call c__law_are_tied hr (goes0A (E := DXK.no)) (da_cons (de_var 1) (da_cons (de_var 2) (da_cons (de_var 4) (da_cons (de_var 5) da_nil)))))))⟩) (fun _ _ _ _ _ => ⟨_, (de_tup (da_cons (de_var 4) (da_cons (de_var 5) da_nil)))⟩))))))
      (db_one (ds_ret (de_bty call_tuple_of lc_tuple B.tuple (da_cons (de_var 3) da_nil)))))), ?_⟩
  rintro ds M Q E ⟨n, ps, a, g, rfl, ok, a0, ag, gn, n8, q⟩
  simp only [dVar, dC, dOp, dTest, dII, dIC, dFld, dFldS, dMake, dProp, dAugS, dLcM, toM, dppNil, dppCons, dMerge, dDisp, dCatL, dCatLM, dRep, dRepM, dClear, dExtend, dRg1, dRg2, dLstRg, dLstRgM, dTupRg, dChain, dEq, dIsN, dAnd, dOr, dNot, dIfE, dNext, dSeq, dBreak, dCont, dDrop, dRet, dRetN, dIfS, dNever, dFrzS, dFrz, hName, hNil, hCons, hTup, hSub, dAsg, dPar, dAug, dipI, dNil, dCons, dTup, dLst, dLstM, dIx, dSet, dCall, dwipe, dYes, jSeq, jRng1, jRng2, jStr, jZip, dCB, dLen, dList, dListM, dTuple, dII2, dAbs, dInt, dBM0, dBM, dAppend, dPop, dPopAt, dAndV, dOrV, dNotV, dNeg, dTruth, dIn, dCat, dNoPart, dPart, dSl, dSlM, dNewK, dNewT, dIsi, dIsiT, dLc, dFor, dDc, dLenSet, dLenSetG, dRev, dIsB, dCallS, dRaise, dTry, dIsE, dOwnEq, dOwnNe, dIndex, dSortD, dMin1, dMax1, dIsiC, dLc2, dFrzA, dFrzE, jKeys, jVals, jItems, dLcH, dForH, dEqM, dSortX, dCmpX, dSortSet, dSortDM, dRaiseF, dMakeS, dTryHs, dWHs, dXf, endsD, slotD, dChain3, if_true, if_false, ite_true, ite_false, Bool.false_eq_true, reduceIte, Bool.not_true, Bool.not_false, List.getElem?_cons_zero, List.getElem?_cons_succ, List.set_cons_zero, List.set_cons_succ, List.map_cons, List.map_nil, List.replicate, List.cons_append, List.nil_append, List.length_cons, List.length_nil, dstart]
  refine ⟨by omega, by omega, ?_⟩
  refine dForI_of (fun i γ M' => ∃ (o4 : Option D) (qs : List (Int × Int)), γ = [some (.int n), some (.tup (ps.map prD)), some (.tup [.int a, .int g]), some (.lst (qs.map prD)), o4, none] ∧ M' = M ∧ qs.Pairwise prLt ∧ qs.length ≤ 8 * i ∧ ∀ r, r ∈ qs ↔ 0 ≤ r.1 ∧ r.1 < (i : Int) ∧ r.1 < r.2 ∧ r.2 < n - 1 ∧ TiedT ps a g r.1 r.2) ⟨none, [], rfl, rfl, .nil, Nat.le_refl _, fun r => ⟨(fun h => by cases h), fun h => by omega⟩⟩ ?_ ?_
  · rintro i e γ M' he ⟨o4, qs, rfl, rfl, pw, hz, mem⟩
    obtain ⟨hi, rfl⟩ := rgD_get he
    simp only [dVar, dC, dOp, dTest, dII, dIC, dFld, dFldS, dMake, dProp, dAugS, dLcM, toM, dppNil, dppCons, dMerge, dDisp, dCatL, dCatLM, dRep, dRepM, dClear, dExtend, dRg1, dRg2, dLstRg, dLstRgM, dTupRg, dChain, dEq, dIsN, dAnd, dOr, dNot, dIfE, dNext, dSeq, dBreak, dCont, dDrop, dRet, dRetN, dIfS, dNever, dFrzS, dFrz, hName, hNil, hCons, hTup, hSub, dAsg, dPar, dAug, dipI, dNil, dCons, dTup, dLst, dLstM, dIx, dSet, dCall, dwipe, dYes, jSeq, jRng1, jRng2, jStr, jZip, dCB, dLen, dList, dListM, dTuple, dII2, dAbs, dInt, dBM0, dBM, dAppend, dPop, dPopAt, dAndV, dOrV, dNotV, dNeg, dTruth, dIn, dCat, dNoPart, dPart, dSl, dSlM, dNewK, dNewT, dIsi, dIsiT, dLc, dFor, dDc, dLenSet, dLenSetG, dRev, dIsB, dCallS, dRaise, dTry, dIsE, dOwnEq, dOwnNe, dIndex, dSortD, dMin1, dMax1, dIsiC, dLc2, dFrzA, dFrzE, jKeys, jVals, jItems, dLcH, dForH, dEqM, dSortX, dCmpX, dSortSet, dSortDM, dRaiseF, dMakeS, dTryHs, dWHs, dXf, endsD, slotD, dChain3, if_true, if_false, ite_true, ite_false, Bool.false_eq_true, reduceIte, Bool.not_true, Bool.not_false, List.getElem?_cons_zero, List.getElem?_cons_succ, List.set_cons_zero, List.set_cons_succ, List.map_cons, List.map_nil, List.replicate, List.cons_append, List.nil_append, List.length_cons, List.length_nil, dstart]
    have ef : (((rgD (0 + (i : Int) + 1) (n - 1 - (0 + (i : Int) + 1)).toNat).filter fun e : D => match e with | .int x => tiedB ps a g (0 + i) x | _ => false).map fun e : D => D.tup [.int (0 + i), e]) = (rowT ps a g (n - 1) (0 + i)).map prD := by
      unfold rgD rowT
      rw [List.filter_map, List.map_map, List.filter_map, List.map_map]
      rfl
    have rl := rowT_len (ps := ps) (a := a) (g := g) (m := n - 1) (x := 0 + (i : Int))
    refine ⟨⟨by omega, by omega, by omega, by omega⟩, by rw [rgD_len]; exact len_ok (by omega), dLcI_filter (fun e : D => match e with | .int x => tiedB ps a g (0 + i) x | _ => false) (fun e : D => D.tup [.int (0 + i), e]) (fun j e he Q2 qf qt => ?_) ?_⟩
    · obtain ⟨hj, rfl⟩ := rgD_get he
      simp only [dVar, dC, dOp, dTest, dII, dIC, dFld, dFldS, dMake, dProp, dAugS, dLcM, toM, dppNil, dppCons, dMerge, dDisp, dCatL, dCatLM, dRep, dRepM, dClear, dExtend, dRg1, dRg2, dLstRg, dLstRgM, dTupRg, dChain, dEq, dIsN, dAnd, dOr, dNot, dIfE, dNext, dSeq, dBreak, dCont, dDrop, dRet, dRetN, dIfS, dNever, dFrzS, dFrz, hName, hNil, hCons, hTup, hSub, dAsg, dPar, dAug, dipI, dNil, dCons, dTup, dLst, dLstM, dIx, dSet, dCall, dwipe, dYes, jSeq, jRng1, jRng2, jStr, jZip, dCB, dLen, dList, dListM, dTuple, dII2, dAbs, dInt, dBM0, dBM, dAppend, dPop, dPopAt, dAndV, dOrV, dNotV, dNeg, dTruth, dIn, dCat, dNoPart, dPart, dSl, dSlM, dNewK, dNewT, dIsi, dIsiT, dLc, dFor, dDc, dLenSet, dLenSetG, dRev, dIsB, dCallS, dRaise, dTry, dIsE, dOwnEq, dOwnNe, dIndex, dSortD, dMin1, dMax1, dIsiC, dLc2, dFrzA, dFrzE, jKeys, jVals, jItems, dLcH, dForH, dEqM, dSortX, dCmpX, dSortSet, dSortDM, dRaiseF, dMakeS, dTryHs, dWHs, dXf, endsD, slotD, dChain3, if_true, if_false, ite_true, ite_false, Bool.false_eq_true, reduceIte, Bool.not_true, Bool.not_false, List.getElem?_cons_zero, List.getElem?_cons_succ, List.set_cons_zero, List.set_cons_succ, List.map_cons, List.map_nil, List.replicate, List.cons_append, List.nil_append, List.length_cons, List.length_nil, dstart]
      refine ⟨n, ps, a, g, _, _, rfl, ok, a0, ag, gn, n8, fun b hb => ?_⟩
      obtain rfl := tiedB_of hb
      cases hc : tiedB ps a g (0 + (i : Int)) (0 + (i : Int) + 1 + (j : Int)) with
      | false => simp only [if_true, if_false, ite_true, ite_false, Bool.false_eq_true, reduceIte, Bool.not_true, Bool.not_false, List.getElem?_cons_zero, List.getElem?_cons_succ, List.set_cons_zero, List.set_cons_succ, List.map_cons, List.map_nil, List.replicate, List.cons_append, List.nil_append, List.length_cons, List.length_nil, dstart]; exact qf hc
      | true => simp only [if_true, if_false, ite_true, ite_false, Bool.false_eq_true, reduceIte, Bool.not_true, Bool.not_false, List.getElem?_cons_zero, List.getElem?_cons_succ, List.set_cons_zero, List.set_cons_succ, List.map_cons, List.map_nil, List.replicate, List.cons_append, List.nil_append, List.length_cons, List.length_nil, dstart]; exact ⟨by decide, qt hc⟩
    · rw [ef]
      refine ⟨_, _, rfl, rfl, by rw [List.length_map, List.length_map]; exact len_ok (by omega), _, qs ++ rowT ps a g (n - 1) (0 + i), by rw [List.map_append], rfl, List.pairwise_append.mpr ⟨pw, rowT_pw, fun p hp r hr => .inl ?_⟩, by rw [List.length_append]; omega, fun r => ?_⟩
      · have := ((mem p).mp hp).2.1
        have := (rowT_mem.mp hr).1
        omega
      · rw [List.mem_append, mem, rowT_mem]
        constructor
        · rintro (⟨h1, h2, h3, h4, h5⟩ | ⟨h1, h2, h3, h4⟩)
          · exact ⟨h1, by omega, h3, h4, h5⟩
          · exact ⟨by omega, by omega, by omega, h3, h4⟩
        · rintro ⟨h1, h2, h3, h4, h5⟩
          by_cases c : r.1 < i
          · exact .inl ⟨h1, c, h3, h4, h5⟩
          · exact .inr ⟨by omega, by omega, h4, h5⟩
  · rintro γ M' ⟨o4, qs, rfl, rfl, pw, hz, mem⟩
    simp only [dVar, dC, dOp, dTest, dII, dIC, dFld, dFldS, dMake, dProp, dAugS, dLcM, toM, dppNil, dppCons, dMerge, dDisp, dCatL, dCatLM, dRep, dRepM, dClear, dExtend, dRg1, dRg2, dLstRg, dLstRgM, dTupRg, dChain, dEq, dIsN, dAnd, dOr, dNot, dIfE, dNext, dSeq, dBreak, dCont, dDrop, dRet, dRetN, dIfS, dNever, dFrzS, dFrz, hName, hNil, hCons, hTup, hSub, dAsg, dPar, dAug, dipI, dNil, dCons, dTup, dLst, dLstM, dIx, dSet, dCall, dwipe, dYes, jSeq, jRng1, jRng2, jStr, jZip, dCB, dLen, dList, dListM, dTuple, dII2, dAbs, dInt, dBM0, dBM, dAppend, dPop, dPopAt, dAndV, dOrV, dNotV, dNeg, dTruth, dIn, dCat, dNoPart, dPart, dSl, dSlM, dNewK, dNewT, dIsi, dIsiT, dLc, dFor, dDc, dLenSet, dLenSetG, dRev, dIsB, dCallS, dRaise, dTry, dIsE, dOwnEq, dOwnNe, dIndex, dSortD, dMin1, dMax1, dIsiC, dLc2, dFrzA, dFrzE, jKeys, jVals, jItems, dLcH, dForH, dEqM, dSortX, dCmpX, dSortSet, dSortDM, dRaiseF, dMakeS, dTryHs, dWHs, dXf, endsD, slotD, dChain3, if_true, if_false, ite_true, ite_false, Bool.false_eq_true, reduceIte, Bool.not_true, Bool.not_false, List.getElem?_cons_zero, List.getElem?_cons_succ, List.set_cons_zero, List.set_cons_succ, List.map_cons, List.map_nil, List.replicate, List.cons_append, List.nil_append, List.length_cons, List.length_nil, dstart]
    rw [rgD_len] at mem
    exact fin_self (q qs pw fun r => (mem r).trans (Iff.trans ⟨fun h => ⟨h.1, by omega, h.2.2⟩, fun h => ⟨h.1, by omega, h.2.2⟩⟩ (due_iff ok a0 ag gn)))
theorem sc_is_integer : FnScope ["thing"] ["thing"] (defScope s_is_integer) := ⟨rfl, rfl, rfl, by decide +kernel, rfl, by decide +kernel, by decide +kernel⟩
def sp_is_integer : DSp := fun ds M Q _ => ∃ d, ds = [d] ∧ (tyN M d).isSome = true ∧ Q (.bl d.isInt) M
theorem c_is_integer (F : DFun K mg "is_integer" s_is_integer ["thing"]) (B : Bn mg) (G : Gs mg)  : DCal P w K mg base CX0 1 "is_integer" sp_is_integer := by
  refine dok F sc_is_integer (fun ds M Q E h => (by obtain ⟨_, h⟩ := h; first | (obtain ⟨e, _⟩ := h; subst e; rfl) | (obtain ⟨_, e, _⟩ := h; subst e; rfl) | (obtain ⟨_, _, e, _⟩ := h; subst e; rfl) | (obtain ⟨_, _, _, e, _⟩ := h; subst e; rfl) | (obtain ⟨_, _, _, _, e, _⟩ := h; subst e; rfl) | (obtain ⟨_, _, _, _, _, e, _⟩ := h; subst e; rfl) | (obtain ⟨_, _, _, _, _, _, e, _⟩ := h; subst e; rfl) | (obtain ⟨_, _, _, _, _, _, _, e, _⟩ := h; subst e; rfl) | (obtain ⟨_, _, _, _, _, _, _, _, e, _⟩ := h; subst e; rfl) | (obtain ⟨_, _, _, _, _, _, _, _, _, e, _⟩ := h; subst e; rfl))) (fun f cdv A outer s H E F0 hr => ?_)
  have nd := (sc_is_integer).nd
  refine ⟨_, _, (db_one (ds_ret (de_and (de_isi B.isinstance (da_cons (de_var 0) (da_cons (de_ty (n := "int") B.int) da_nil))) (de_one (de_not (de_isi B.isinstance (da_cons (de_var 0) (da_cons (de_ty (n := "bool") B.bool) da_nil)))))))), ?_⟩
  rintro ds M Q E ⟨d, rfl, h, q⟩
  simp only [dVar, dC, dOp, dTest, dII, dIC, dFld, dFldS, dMake, dProp, dAugS, dLcM, toM, dppNil, dppCons, dMerge, dDisp, dCatL, dCatLM, dRep, dRepM, dClear, dExtend, dRg1, dRg2, dLstRg, dLstRgM, dTupRg, dChain, dEq, dIsN, dAnd, dOr, dNot, dIfE, dNext, dSeq, dBreak, dCont, dDrop, dRet, dRetN, dIfS, dNever, dFrzS, dFrz, hName, hNil, hCons, hTup, hSub, dAsg, dPar, dAug, dipI, dNil, dCons, dTup, dLst, dLstM, dIx, dSet, dCall, dwipe, dYes, jSeq, jRng1, jRng2, jStr, jZip, dCB, dLen, dList, dListM, dTuple, dII2, dAbs, dInt, dBM0, dBM, dAppend, dPop, dPopAt, dAndV, dOrV, dNotV, dNeg, dTruth, dIn, dCat, dNoPart, dPart, dSl, dSlM, dNewK, dNewT, dIsi, dIsiT, dLc, dFor, dDc, dLenSet, dLenSetG, dRev, dIsB, dCallS, dRaise, dTry, dIsE, dOwnEq, dOwnNe, dIndex, dSortD, dMin1, dMax1, dIsiC, dLc2, dFrzA, dFrzE, jKeys, jVals, jItems, dLcH, dForH, dEqM, dSortX, dCmpX, dSortSet, dSortDM, dRaiseF, dMakeS, dTryHs, dWHs, dXf, endsD, slotD, dChain3, if_true, if_false, ite_true, ite_false, Bool.false_eq_true, reduceIte, Bool.not_true, Bool.not_false, List.getElem?_cons_zero, List.getElem?_cons_succ, List.set_cons_zero, List.set_cons_succ, List.map_cons, List.map_nil, List.replicate, List.cons_append, List.nil_append, List.length_cons, List.length_nil, dstart]
  obtain ⟨T, hT⟩ := Option.isSome_iff_exists.mp h
  obtain ⟨e1, e2⟩ := ty_int hT
  refine ⟨by decide +kernel, T, hT, ?_⟩
  rw [e1]
  cases d <;> first
    | exact ⟨by decide +kernel, T, hT, by rw [e2]; exact fin_self q⟩
    | exact fin_self q
theorem sc_is_within : FnScope ["thing", "least", "most"] ["thing", "least", "most"] (defScope s_is_within) := ⟨rfl, rfl, rfl, by decide +kernel, rfl, by decide +kernel, by decide +kernel⟩
def sp_is_within : DSp := fun ds M Q _ => ∃ d a b, ds = [d, .int a, .int b] ∧ (tyN M d).isSome = true ∧ Q (.bl (d.within a b)) M
theorem c_is_within (F : DFun K mg "is_within" s_is_within ["thing", "least", "most"]) (B : Bn mg) (G : Gs mg) (c_is_integer : DCal P w K mg base CX0 1 "is_integer" sp_is_integer) : DCal P w K mg base CX0 2 "is_within" sp_is_within := by
  refine dok F sc_is_within (fun ds M Q E h => (by obtain ⟨_, h⟩ := h; first | (obtain ⟨e, _⟩ := h; subst e; rfl) | (obtain ⟨_, e, _⟩ := h; subst e; rfl) | (obtain ⟨_, _, e, _⟩ := h; subst e; rfl) | (obtain ⟨_, _, _, e, _⟩ := h; subst e; rfl) | (obtain ⟨_, _, _, _, e, _⟩ := h; subst e; rfl) | (obtain ⟨_, _, _, _, _, e, _⟩ := h; subst e; rfl) | (obtain ⟨_, _, _, _, _, _, e, _⟩ := h; subst e; rfl) | (obtain ⟨_, _, _, _, _, _, _, e, _⟩ := h; subst e; rfl) | (obtain ⟨_, _, _, _, _, _, _, _, e, _⟩ := h; subst e; rfl) | (obtain ⟨_, _, _, _, _, _, _, _, _, e, _⟩ := h; subst e; rfl))) (fun f cdv A outer s H E F0 hr => ?_)
  have nd := (sc_is_within).nd
  refine ⟨_, _, (db_one (ds_ret (de_and (de_call c_is_integer hr (goes0A (E := DXK.no)) (da_cons (de_var 0) da_nil)) (de_one (de_chain op_le (l2_II fun _ _ _ => .bl _) op_le (l2_II fun _ _ _ => .bl _) (de_var 1) (de_var 0) (de_var 2)))))), ?_⟩
  rintro ds M Q E ⟨d, a, b, rfl, h, q⟩
  simp only [dVar, dC, dOp, dTest, dII, dIC, dFld, dFldS, dMake, dProp, dAugS, dLcM, toM, dppNil, dppCons, dMerge, dDisp, dCatL, dCatLM, dRep, dRepM, dClear, dExtend, dRg1, dRg2, dLstRg, dLstRgM, dTupRg, dChain, dEq, dIsN, dAnd, dOr, dNot, dIfE, dNext, dSeq, dBreak, dCont, dDrop, dRet, dRetN, dIfS, dNever, dFrzS, dFrz, hName, hNil, hCons, hTup, hSub, dAsg, dPar, dAug, dipI, dNil, dCons, dTup, dLst, dLstM, dIx, dSet, dCall, dwipe, dYes, jSeq, jRng1, jRng2, jStr, jZip, dCB, dLen, dList, dListM, dTuple, dII2, dAbs, dInt, dBM0, dBM, dAppend, dPop, dPopAt, dAndV, dOrV, dNotV, dNeg, dTruth, dIn, dCat, dNoPart, dPart, dSl, dSlM, dNewK, dNewT, dIsi, dIsiT, dLc, dFor, dDc, dLenSet, dLenSetG, dRev, dIsB, dCallS, dRaise, dTry, dIsE, dOwnEq, dOwnNe, dIndex, dSortD, dMin1, dMax1, dIsiC, dLc2, dFrzA, dFrzE, jKeys, jVals, jItems, dLcH, dForH, dEqM, dSortX, dCmpX, dSortSet, dSortDM, dRaiseF, dMakeS, dTryHs, dWHs, dXf, endsD, slotD, dChain3, if_true, if_false, ite_true, ite_false, Bool.false_eq_true, reduceIte, Bool.not_true, Bool.not_false, List.getElem?_cons_zero, List.getElem?_cons_succ, List.set_cons_zero, List.set_cons_succ, List.map_cons, List.map_nil, List.replicate, List.cons_append, List.nil_append, List.length_cons, List.length_nil, dstart]
  refine ⟨d, rfl, h, ?_⟩
  cases d with
  | int i =>
    simp only [D.isInt, if_true, D.within] at q ⊢
    by_cases e : a ≤ i
    · simp only [e, decide_true, Bool.true_and] at q ⊢; exact fin_self q
    · simp only [e, decide_false, Bool.false_and] at q ⊢; exact fin_self q
  | _ => exact fin_self q
theorem sc_is_index : FnScope ["thing", "many"] ["thing", "many"] (defScope s_is_index) := ⟨rfl, rfl, rfl, by decide +kernel, rfl, by decide +kernel, by decide +kernel⟩
def sp_is_index : DSp := fun ds M Q _ => ∃ d n, ds = [d, .int n] ∧ (tyN M d).isSome = true ∧ Q (.bl (d.within 0 (n - 1))) M
theorem c_is_index (F : DFun K mg "is_index" s_is_index ["thing", "many"]) (B : Bn mg) (G : Gs mg) (c_is_within : DCal P w K mg base CX0 2 "is_within" sp_is_within) : DCal P w K mg base CX0 3 "is_index" sp_is_index := by
  refine dok F sc_is_index (fun ds M Q E h => (by obtain ⟨_, h⟩ := h; first | (obtain ⟨e, _⟩ := h; subst e; rfl) | (obtain ⟨_, e, _⟩ := h; subst e; rfl) | (obtain ⟨_, _, e, _⟩ := h; subst e; rfl) | (obtain ⟨_, _, _, e, _⟩ := h; subst e; rfl) | (obtain ⟨_, _, _, _, e, _⟩ := h; subst e; rfl) | (obtain ⟨_, _, _, _, _, e, _⟩ := h; subst e; rfl) | (obtain ⟨_, _, _, _, _, _, e, _⟩ := h; subst e; rfl) | (obtain ⟨_, _, _, _, _, _, _, e, _⟩ := h; subst e; rfl) | (obtain ⟨_, _, _, _, _, _, _, _, e, _⟩ := h; subst e; rfl) | (obtain ⟨_, _, _, _, _, _, _, _, _, e, _⟩ := h; subst e; rfl))) (fun f cdv A outer s H E F0 hr => ?_)
  have nd := (sc_is_index).nd
  refine ⟨_, _, (db_one (ds_ret (de_call c_is_within hr (goes0A (E := DXK.no)) (da_cons (de_var 0) (da_cons de_int (da_cons (de_sub (de_var 1) de_int) da_nil)))))), ?_⟩
  rintro ds M Q E ⟨d, n, rfl, h, q⟩
  simp only [dVar, dC, dOp, dTest, dII, dIC, dFld, dFldS, dMake, dProp, dAugS, dLcM, toM, dppNil, dppCons, dMerge, dDisp, dCatL, dCatLM, dRep, dRepM, dClear, dExtend, dRg1, dRg2, dLstRg, dLstRgM, dTupRg, dChain, dEq, dIsN, dAnd, dOr, dNot, dIfE, dNext, dSeq, dBreak, dCont, dDrop, dRet, dRetN, dIfS, dNever, dFrzS, dFrz, hName, hNil, hCons, hTup, hSub, dAsg, dPar, dAug, dipI, dNil, dCons, dTup, dLst, dLstM, dIx, dSet, dCall, dwipe, dYes, jSeq, jRng1, jRng2, jStr, jZip, dCB, dLen, dList, dListM, dTuple, dII2, dAbs, dInt, dBM0, dBM, dAppend, dPop, dPopAt, dAndV, dOrV, dNotV, dNeg, dTruth, dIn, dCat, dNoPart, dPart, dSl, dSlM, dNewK, dNewT, dIsi, dIsiT, dLc, dFor, dDc, dLenSet, dLenSetG, dRev, dIsB, dCallS, dRaise, dTry, dIsE, dOwnEq, dOwnNe, dIndex, dSortD, dMin1, dMax1, dIsiC, dLc2, dFrzA, dFrzE, jKeys, jVals, jItems, dLcH, dForH, dEqM, dSortX, dCmpX, dSortSet, dSortDM, dRaiseF, dMakeS, dTryHs, dWHs, dXf, endsD, slotD, dChain3, if_true, if_false, ite_true, ite_false, Bool.false_eq_true, reduceIte, Bool.not_true, Bool.not_false, List.getElem?_cons_zero, List.getElem?_cons_succ, List.set_cons_zero, List.set_cons_succ, List.map_cons, List.map_nil, List.replicate, List.cons_append, List.nil_append, List.length_cons, List.length_nil, dstart]
  exact ⟨d, 0, n - 1, rfl, h, fin_self q⟩
theorem sc_is_rising_pair : FnScope ["thing", "many"] ["thing", "many"] (defScope s_is_rising_pair) := ⟨rfl, rfl, rfl, by decide +kernel, rfl, by decide +kernel, by decide +kernel⟩
def sp_is_rising_pair : DSp := fun ds M Q _ => ∃ x n, ds = [x, .int n] ∧ Sh1 M x ∧ Q (.bl (rpB n x)) M
theorem c_is_rising_pair (F : DFun K mg "is_rising_pair" s_is_rising_pair ["thing", "many"]) (B : Bn mg) (G : Gs mg) (c_is_index : DCal P w K mg base CX0 3 "is_index" sp_is_index) : DCal P w K mg base CX0 4 "is_rising_pair" sp_is_rising_pair := by
  refine dok F sc_is_rising_pair (fun ds M Q E h => (by obtain ⟨_, h⟩ := h; first | (obtain ⟨e, _⟩ := h; subst e; rfl) | (obtain ⟨_, e, _⟩ := h; subst e; rfl) | (obtain ⟨_, _, e, _⟩ := h; subst e; rfl) | (obtain ⟨_, _, _, e, _⟩ := h; subst e; rfl) | (obtain ⟨_, _, _, _, e, _⟩ := h; subst e; rfl) | (obtain ⟨_, _, _, _, _, e, _⟩ := h; subst e; rfl) | (obtain ⟨_, _, _, _, _, _, e, _⟩ := h; subst e; rfl) | (obtain ⟨_, _, _, _, _, _, _, e, _⟩ := h; subst e; rfl) | (obtain ⟨_, _, _, _, _, _, _, _, e, _⟩ := h; subst e; rfl) | (obtain ⟨_, _, _, _, _, _, _, _, _, e, _⟩ := h; subst e; rfl))) (fun f cdv A outer s H E F0 hr => ?_)
  have nd := (sc_is_rising_pair).nd
  refine ⟨_, _, (db_cons (ds_if (DW.dt (dw_or (dt_not (dt_val (de_isi B.isinstance (da_cons (de_var 0) (da_cons (de_ty (n := "tuple") B.tuple) da_nil))))) (dw_or1 (dt_ne hr (de_len B.len (da_cons (de_var 0) da_nil)) de_int)))) (db_one (ds_ret de_bl)) db_nil)
      (db_one (ds_ret (de_and (de_call c_is_index hr (goes0A (E := DXK.no)) (da_cons (de_ix hr (de_var 0) de_int) (da_cons (de_var 1) da_nil))) (de_and (de_call c_is_index hr (goes0A (E := DXK.no)) (da_cons (de_ix hr (de_var 0) de_int) (da_cons (de_var 1) da_nil))) (de_one (de_lt (de_ix hr (de_var 0) de_int) (de_ix hr (de_var 0) de_int)))))))), ?_⟩
  rintro ds M Q E ⟨x, n, rfl, S, q⟩
  simp only [dVar, dC, dOp, dTest, dII, dIC, dFld, dFldS, dMake, dProp, dAugS, dLcM, toM, dppNil, dppCons, dMerge, dDisp, dCatL, dCatLM, dRep, dRepM, dClear, dExtend, dRg1, dRg2, dLstRg, dLstRgM, dTupRg, dChain, dEq, dIsN, dAnd, dOr, dNot, dIfE, dNext, dSeq, dBreak, dCont, dDrop, dRet, dRetN, dIfS, dNever, dFrzS, dFrz, hName, hNil, hCons, hTup, hSub, dAsg, dPar, dAug, dipI, dNil, dCons, dTup, dLst, dLstM, dIx, dSet, dCall, dwipe, dYes, jSeq, jRng1, jRng2, jStr, jZip, dCB, dLen, dList, dListM, dTuple, dII2, dAbs, dInt, dBM0, dBM, dAppend, dPop, dPopAt, dAndV, dOrV, dNotV, dNeg, dTruth, dIn, dCat, dNoPart, dPart, dSl, dSlM, dNewK, dNewT, dIsi, dIsiT, dLc, dFor, dDc, dLenSet, dLenSetG, dRev, dIsB, dCallS, dRaise, dTry, dIsE, dOwnEq, dOwnNe, dIndex, dSortD, dMin1, dMax1, dIsiC, dLc2, dFrzA, dFrzE, jKeys, jVals, jItems, dLcH, dForH, dEqM, dSortX, dCmpX, dSortSet, dSortDM, dRaiseF, dMakeS, dTryHs, dWHs, dXf, endsD, slotD, dChain3, if_true, if_false, ite_true, ite_false, Bool.false_eq_true, reduceIte, Bool.not_true, Bool.not_false, List.getElem?_cons_zero, List.getElem?_cons_succ, List.set_cons_zero, List.set_cons_succ, List.map_cons, List.map_nil, List.replicate, List.cons_append, List.nil_append, List.length_cons, List.length_nil, dstart, dIsi]
  obtain ⟨T, hT⟩ := Option.isSome_iff_exists.mp S.h.ty
  refine ⟨by decide +kernel, T, hT, ?_⟩
  rw [ty_tup hT S.h.kt]
  cases x with
  | tup l =>
    simp only [isTupB, if_true, if_false, ite_true, ite_false, Bool.false_eq_true, reduceIte, Bool.not_true, Bool.not_false, List.getElem?_cons_zero, List.getElem?_cons_succ, List.set_cons_zero, List.set_cons_succ, List.map_cons, List.map_nil, List.replicate, List.cons_append, List.nil_append, List.length_cons, List.length_nil, dstart]
    refine ⟨l.length, rfl, rfl, rfl, ?_⟩
    rw [D.eq_int]
    by_cases h2 : (l.length : Int) = 2
    · rw [beq_iff_eq.mpr h2]
      simp only [if_true, if_false, ite_true, ite_false, Bool.false_eq_true, reduceIte, Bool.not_true, Bool.not_false, List.getElem?_cons_zero, List.getElem?_cons_succ, List.set_cons_zero, List.set_cons_succ, List.map_cons, List.map_nil, List.replicate, List.cons_append, List.nil_append, List.length_cons, List.length_nil, dstart]
      match l, h2, S, q with
      | [a, b], _, S, q =>
        have ta := S.i _ rfl a (by simp)
        have tb := S.i _ rfl b (by simp)
        refine ⟨a, rfl, a, n, rfl, ta, ?_⟩
        simp only [rpB] at q
        cases ha : a.within 0 (n - 1) with
        | false => rw [ha] at q; simp only [if_true, if_false, ite_true, ite_false, Bool.false_eq_true, reduceIte, Bool.not_true, Bool.not_false, List.getElem?_cons_zero, List.getElem?_cons_succ, List.set_cons_zero, List.set_cons_succ, List.map_cons, List.map_nil, List.replicate, List.cons_append, List.nil_append, List.length_cons, List.length_nil, dstart]; exact fin_self q
        | true =>
          rw [ha, Bool.true_and] at q
          simp only [if_true, if_false, ite_true, ite_false, Bool.false_eq_true, reduceIte, Bool.not_true, Bool.not_false, List.getElem?_cons_zero, List.getElem?_cons_succ, List.set_cons_zero, List.set_cons_succ, List.map_cons, List.map_nil, List.replicate, List.cons_append, List.nil_append, List.length_cons, List.length_nil, dstart]
          refine ⟨b, rfl, b, n, rfl, tb, ?_⟩
          cases hb : b.within 0 (n - 1) with
          | false => rw [hb] at q; simp only [if_true, if_false, ite_true, ite_false, Bool.false_eq_true, reduceIte, Bool.not_true, Bool.not_false, List.getElem?_cons_zero, List.getElem?_cons_succ, List.set_cons_zero, List.set_cons_succ, List.map_cons, List.map_nil, List.replicate, List.cons_append, List.nil_append, List.length_cons, List.length_nil, dstart]; exact fin_self q
          | true =>
            rw [hb, Bool.true_and] at q
            simp only [if_true, if_false, ite_true, ite_false, Bool.false_eq_true, reduceIte, Bool.not_true, Bool.not_false, List.getElem?_cons_zero, List.getElem?_cons_succ, List.set_cons_zero, List.set_cons_succ, List.map_cons, List.map_nil, List.replicate, List.cons_append, List.nil_append, List.length_cons, List.length_nil, dstart]
            obtain ⟨i, rfl, _, _⟩ := within_int ha
            obtain ⟨j, rfl, _, _⟩ := within_int hb
            exact ⟨_, rfl, _, rfl, fin_self q⟩
      | [], h2, _, _ => simp at h2
      | [_], h2, _, _ => simp at h2
      | _ :: _ :: _ :: _, h2, _, _ => simp at h2; omega
    · rw [beq_eq_false_iff_ne.mpr h2]
      simp only [if_true, if_false, ite_true, ite_false, Bool.false_eq_true, reduceIte, Bool.not_true, Bool.not_false, List.getElem?_cons_zero, List.getElem?_cons_succ, List.set_cons_zero, List.set_cons_succ, List.map_cons, List.map_nil, List.replicate, List.cons_append, List.nil_append, List.length_cons, List.length_nil, dstart]
      have e : rpB n (.tup l) = false := by
        match l, h2 with
        | [a, b], h2 => simp at h2
        | [], _ => rfl
        | [_], _ => rfl
        | _ :: _ :: _ :: _, _ => rfl
      rw [e] at q
      exact fin_self q
  | _ => simp only [isTupB, if_true, if_false, ite_true, ite_false, Bool.false_eq_true, reduceIte, Bool.not_true, Bool.not_false, List.getElem?_cons_zero, List.getElem?_cons_succ, List.set_cons_zero, List.set_cons_succ, List.map_cons, List.map_nil, List.replicate, List.cons_append, List.nil_append, List.length_cons, List.length_nil, dstart]; exact fin_self q
theorem sc_check_tie : FnScope ["book", "thing"] ["book", "thing"] (defScope s_check_tie) := ⟨rfl, rfl, rfl, by decide +kernel, rfl, by decide +kernel, by decide +kernel⟩
def sp_check_tie (C_TB E_NoTie : Addr) : DSp := fun ds M Q E => ∃ b n ps d th, ds = [.ref b, th] ∧ BookAt C_TB M b n ps d ∧ Sh1 M th ∧ ((∃ p ∈ ps, th = prD p) → Q .non M) ∧ ((¬ ∃ p ∈ ps, th = prD p) → E (.ref E_NoTie) none M)
theorem c_check_tie {C_TB E_NoTie : Addr} (F : DFun K mg "check_tie" s_check_tie ["book", "thing"]) (B : Bn mg) (G : Gs mg) (TB : Cl_TB K mg C_TB) (c_is_rising_pair : DCal P w K mg base CX0 4 "is_rising_pair" sp_is_rising_pair) (XC_NoTie : ExCls K mg "NoTie" E_NoTie) : DCal P w K mg base (L2.CX P w) 5 "check_tie" (sp_check_tie C_TB E_NoTie) := by
  refine dokX F sc_check_tie (fun ds M Q E h => (by obtain ⟨_, h⟩ := h; first | (obtain ⟨e, _⟩ := h; subst e; rfl) | (obtain ⟨_, e, _⟩ := h; subst e; rfl) | (obtain ⟨_, _, e, _⟩ := h; subst e; rfl) | (obtain ⟨_, _, _, e, _⟩ := h; subst e; rfl) | (obtain ⟨_, _, _, _, e, _⟩ := h; subst e; rfl) | (obtain ⟨_, _, _, _, _, e, _⟩ := h; subst e; rfl) | (obtain ⟨_, _, _, _, _, _, e, _⟩ := h; subst e; rfl) | (obtain ⟨_, _, _, _, _, _, _, e, _⟩ := h; subst e; rfl) | (obtain ⟨_, _, _, _, _, _, _, _, e, _⟩ := h; subst e; rfl) | (obtain ⟨_, _, _, _, _, _, _, _, _, e, _⟩ := h; subst e; rfl))) (fun f cdv A outer s H E F0 E1 hr hE => ?_)
  have nd := (sc_check_tie).nd
  have tk : L2.Takes (cxOf (L2.CX P w) P w K mg base ["book", "thing"] "check_tie" (defScope s_check_tie) f cdv A outer s H E) (lXW K F0 fun _ => E1) := takesX (L2.takes_of rfl rfl rfl rfl) hE
  refine ⟨_, _, (db_one (ds_if (DW.dt (dw_or (dt_not (dt_val (de_call c_is_rising_pair hr (goes0A (E := DXK.no)) (da_cons (de_var 1) (da_cons (de_fld TB.cl TB.n_kept_size (de_var 0)) da_nil))))) (dw_or1 (dt_notIn hr (de_var 1) (de_fld TB.cl TB.n_kept_ties (de_var 0)))))) (db_one (ds_raise XC_NoTie rfl tk)) db_nil)), ?_⟩
  rintro ds M Q ⟨b, n, ps, d, th, rfl, W, S, q1, q2⟩
  simp only [dVar, dC, dOp, dTest, dII, dIC, dFld, dFldS, dMake, dProp, dAugS, dLcM, toM, dppNil, dppCons, dMerge, dDisp, dCatL, dCatLM, dRep, dRepM, dClear, dExtend, dRg1, dRg2, dLstRg, dLstRgM, dTupRg, dChain, dEq, dIsN, dAnd, dOr, dNot, dIfE, dNext, dSeq, dBreak, dCont, dDrop, dRet, dRetN, dIfS, dNever, dFrzS, dFrz, hName, hNil, hCons, hTup, hSub, dAsg, dPar, dAug, dipI, dNil, dCons, dTup, dLst, dLstM, dIx, dSet, dCall, dwipe, dYes, jSeq, jRng1, jRng2, jStr, jZip, dCB, dLen, dList, dListM, dTuple, dII2, dAbs, dInt, dBM0, dBM, dAppend, dPop, dPopAt, dAndV, dOrV, dNotV, dNeg, dTruth, dIn, dCat, dNoPart, dPart, dSl, dSlM, dNewK, dNewT, dIsi, dIsiT, dLc, dFor, dDc, dLenSet, dLenSetG, dRev, dIsB, dCallS, dRaise, dTry, dIsE, dOwnEq, dOwnNe, dIndex, dSortD, dMin1, dMax1, dIsiC, dLc2, dFrzA, dFrzE, jKeys, jVals, jItems, dLcH, dForH, dEqM, dSortX, dCmpX, dSortSet, dSortDM, dRaiseF, dMakeS, dTryHs, dWHs, dXf, endsD, slotD, dChain3, if_true, if_false, ite_true, ite_false, Bool.false_eq_true, reduceIte, Bool.not_true, Bool.not_false, List.getElem?_cons_zero, List.getElem?_cons_succ, List.set_cons_zero, List.set_cons_succ, List.map_cons, List.map_nil, List.replicate, List.cons_append, List.nil_append, List.length_cons, List.length_nil, dstart, W.ob]
  refine ⟨trivial, _, fb_size n ps d, th, n, rfl, S, ?_⟩
  cases hb : rpB n th with
  | false =>
    simp only [if_true, if_false, ite_true, ite_false, Bool.false_eq_true, reduceIte, Bool.not_true, Bool.not_false, List.getElem?_cons_zero, List.getElem?_cons_succ, List.set_cons_zero, List.set_cons_succ, List.map_cons, List.map_nil, List.replicate, List.cons_append, List.nil_append, List.length_cons, List.length_nil, dstart]
    exact q2 fun ⟨p, hp, e⟩ => by rw [e, rpB_of (W.ok.pr.ok p hp)] at hb; cases hb
  | true =>
    simp only [if_true, if_false, ite_true, ite_false, Bool.false_eq_true, reduceIte, Bool.not_true, Bool.not_false, List.getElem?_cons_zero, List.getElem?_cons_succ, List.set_cons_zero, List.set_cons_succ, List.map_cons, List.map_nil, List.replicate, List.cons_append, List.nil_append, List.length_cons, List.length_nil, dstart]
    obtain ⟨⟨u, v⟩, rfl, ok⟩ := rpB_pr hb
    simp only [W.ob]
    refine ⟨trivial, _, fb_ties n ps d, _, in_pr, ?_⟩
    by_cases hm : (u, v) ∈ ps
    · rw [decide_eq_true hm]
      simp only [if_true, if_false, ite_true, ite_false, Bool.false_eq_true, reduceIte, Bool.not_true, Bool.not_false, List.getElem?_cons_zero, List.getElem?_cons_succ, List.set_cons_zero, List.set_cons_succ, List.map_cons, List.map_nil, List.replicate, List.cons_append, List.nil_append, List.length_cons, List.length_nil, dstart]
      exact fin_self (q1 ⟨_, hm, rfl⟩)
    · rw [decide_eq_false hm]
      simp only [if_true, if_false, ite_true, ite_false, Bool.false_eq_true, reduceIte, Bool.not_true, Bool.not_false, List.getElem?_cons_zero, List.getElem?_cons_succ, List.set_cons_zero, List.set_cons_succ, List.map_cons, List.map_nil, List.replicate, List.cons_append, List.nil_append, List.length_cons, List.length_nil, dstart]
      exact q2 fun ⟨p, hp, e⟩ => hm (by rw [prD_inj e]; exact hp)
theorem sc_tie_of : FnScope ["one", "other"] ["one", "other"] (defScope s_tie_of) := ⟨rfl, rfl, rfl, by decide +kernel, rfl, by decide +kernel, by decide +kernel⟩
def sp_tie_of : DSp := fun ds M Q _ => ∃ x y, ds = [.int x, .int y] ∧ Q (prD (tieP x y)) M
theorem c_tie_of (F : DFun K mg "tie_of" s_tie_of ["one", "other"]) (B : Bn mg) (G : Gs mg)  : DCal P w K mg base CX0 1 "tie_of" sp_tie_of := by
  refine dok F sc_tie_of (fun ds M Q E h => (by obtain ⟨_, h⟩ := h; first | (obtain ⟨e, _⟩ := h; subst e; rfl) | (obtain ⟨_, e, _⟩ := h; subst e; rfl) | (obtain ⟨_, _, e, _⟩ := h; subst e; rfl) | (obtain ⟨_, _, _, e, _⟩ := h; subst e; rfl) | (obtain ⟨_, _, _, _, e, _⟩ := h; subst e; rfl) | (obtain ⟨_, _, _, _, _, e, _⟩ := h; subst e; rfl) | (obtain ⟨_, _, _, _, _, _, e, _⟩ := h; subst e; rfl) | (obtain ⟨_, _, _, _, _, _, _, e, _⟩ := h; subst e; rfl) | (obtain ⟨_, _, _, _, _, _, _, _, e, _⟩ := h; subst e; rfl) | (obtain ⟨_, _, _, _, _, _, _, _, _, e, _⟩ := h; subst e; rfl))) (fun f cdv A outer s H E F0 hr => ?_)
  have nd := (sc_tie_of).nd
  refine ⟨_, _, (db_one (ds_ret (de_tup (da_cons (de_blt (call_min2 rfl) lc_min2 B.min (da_cons (de_var 0) (da_cons (de_var 1) da_nil))) (da_cons (de_blt (call_max2 rfl) lc_max2 B.max (da_cons (de_var 0) (da_cons (de_var 1) da_nil))) da_nil))))), ?_⟩
  rintro ds M Q E ⟨x, y, rfl, q⟩
  simp only [dVar, dC, dOp, dTest, dII, dIC, dFld, dFldS, dMake, dProp, dAugS, dLcM, toM, dppNil, dppCons, dMerge, dDisp, dCatL, dCatLM, dRep, dRepM, dClear, dExtend, dRg1, dRg2, dLstRg, dLstRgM, dTupRg, dChain, dEq, dIsN, dAnd, dOr, dNot, dIfE, dNext, dSeq, dBreak, dCont, dDrop, dRet, dRetN, dIfS, dNever, dFrzS, dFrz, hName, hNil, hCons, hTup, hSub, dAsg, dPar, dAug, dipI, dNil, dCons, dTup, dLst, dLstM, dIx, dSet, dCall, dwipe, dYes, jSeq, jRng1, jRng2, jStr, jZip, dCB, dLen, dList, dListM, dTuple, dII2, dAbs, dInt, dBM0, dBM, dAppend, dPop, dPopAt, dAndV, dOrV, dNotV, dNeg, dTruth, dIn, dCat, dNoPart, dPart, dSl, dSlM, dNewK, dNewT, dIsi, dIsiT, dLc, dFor, dDc, dLenSet, dLenSetG, dRev, dIsB, dCallS, dRaise, dTry, dIsE, dOwnEq, dOwnNe, dIndex, dSortD, dMin1, dMax1, dIsiC, dLc2, dFrzA, dFrzE, jKeys, jVals, jItems, dLcH, dForH, dEqM, dSortX, dCmpX, dSortSet, dSortDM, dRaiseF, dMakeS, dTryHs, dWHs, dXf, endsD, slotD, dChain3, if_true, if_false, ite_true, ite_false, Bool.false_eq_true, reduceIte, Bool.not_true, Bool.not_false, List.getElem?_cons_zero, List.getElem?_cons_succ, List.set_cons_zero, List.set_cons_succ, List.map_cons, List.map_nil, List.replicate, List.cons_append, List.nil_append, List.length_cons, List.length_nil, dstart]
  exact ⟨by decide, fin_self q⟩
theorem sc_are_rising_pairs : FnScope ["thing", "many", "most", "pair", "at"] ["thing", "many", "most"] (defScope s_are_rising_pairs) := ⟨rfl, rfl, rfl, by decide +kernel, rfl, by decide +kernel, by decide +kernel⟩
def sp_are_rising_pairs : DSp := fun ds M Q _ => ∃ x n most, ds = [x, .int n, .int most] ∧ Sh2 M x ∧ ∀ b : Bool, (b = true ↔ ∃ ps, x = .tup (ps.map prD) ∧ (ps.length : Int) ≤ most ∧ PrsOk n ps) → Q (.bl b) M
theorem c_are_rising_pairs (F : DFun K mg "are_rising_pairs" s_are_rising_pairs ["thing", "many", "most"]) (B : Bn mg) (G : Gs mg) (c_is_rising_pair : DCal P w K mg base CX0 4 "is_rising_pair" sp_is_rising_pair) : DCal P w K mg base CX0 5 "are_rising_pairs" sp_are_rising_pairs := by
  refine dok F sc_are_rising_pairs (fun ds M Q E h => (by obtain ⟨_, h⟩ := h; first | (obtain ⟨e, _⟩ := h; subst e; rfl) | (obtain ⟨_, e, _⟩ := h; subst e; rfl) | (obtain ⟨_, _, e, _⟩ := h; subst e; rfl) | (obtain ⟨_, _, _, e, _⟩ := h; subst e; rfl) | (obtain ⟨_, _, _, _, e, _⟩ := h; subst e; rfl) | (obtain ⟨_, _, _, _, _, e, _⟩ := h; subst e; rfl) | (obtain ⟨_, _, _, _, _, _, e, _⟩ := h; subst e; rfl) | (obtain ⟨_, _, _, _, _, _, _, e, _⟩ := h; subst e; rfl) | (obtain ⟨_, _, _, _, _, _, _, _, e, _⟩ := h; subst e; rfl) | (obtain ⟨_, _, _, _, _, _, _, _, _, e, _⟩ := h; subst e; rfl))) (fun f cdv A outer s H E F0 hr => ?_)
  have nd := (sc_are_rising_pairs).nd
  refine ⟨_, _, (db_cons (ds_if (DW.dt (dw_or (dt_not (dt_val (de_isi B.isinstance (da_cons (de_var 0) (da_cons (de_ty (n := "tuple") B.tuple) da_nil))))) (dw_or1 (dt_gt (de_len B.len (da_cons (de_var 0) da_nil)) (de_var 2))))) (db_one (ds_ret de_bl)) db_nil)
      (db_cons (ds_if (dt_not (dt_val (de_blt (cr_all rfl) lc_flags B.all (da_cons (dx_lc (own := [("pair", 3)]) rfl nd (di_seq (de_var 0)) (blkOk_by (N := ["thing", "many", "most", "pair", "at"]) (sc := defScope s_are_rising_pairs) (by decide +kernel)) (fun _ _ _ _ _ => ⟨_, (dg_name 3 nd), (gw_name (by decide))⟩) (fun _ _ _ _ _ => ⟨_, dts_nil⟩) (fun _ _ _ _ _ => ⟨_, (de_call c_is_rising_pair hr (goes0A (E := DXK.no)) (da_cons (de_var 3) (da_cons (de_var 1) da_nil)))⟩)) da_nil)))) (db_one (ds_ret de_bl)) db_nil)
      (db_one (ds_ret (de_not (de_blt (cr_any rfl) lc_flags B.any (da_cons (dx_lc (own := [("at", 4)]) rfl nd (di_range2 B.range (da_cons de_int (da_cons (de_len B.len (da_cons (de_var 0) da_nil)) da_nil))) (blkOk_by (N := ["thing", "many", "most", "pair", "at"]) (sc := defScope s_are_rising_pairs) (by decide +kernel)) (fun _ _ _ _ _ => ⟨_, (dg_name 4 nd), (gw_name (by decide))⟩) (fun _ _ _ _ _ => ⟨_, dts_nil⟩) (fun _ _ _ _ _ => ⟨_, (de_geT hr (de_ix hr (de_var 0) (de_sub (de_var 4) de_int)) (de_ix hr (de_var 0) (de_var 4)))⟩)) da_nil))))))), ?_⟩
  rintro ds M Q E ⟨x, n, most, rfl, S, q⟩
  simp only [dVar, dC, dOp, dTest, dII, dIC, dFld, dFldS, dMake, dProp, dAugS, dLcM, toM, dppNil, dppCons, dMerge, dDisp, dCatL, dCatLM, dRep, dRepM, dClear, dExtend, dRg1, dRg2, dLstRg, dLstRgM, dTupRg, dChain, dEq, dIsN, dAnd, dOr, dNot, dIfE, dNext, dSeq, dBreak, dCont, dDrop, dRet, dRetN, dIfS, dNever, dFrzS, dFrz, hName, hNil, hCons, hTup, hSub, dAsg, dPar, dAug, dipI, dNil, dCons, dTup, dLst, dLstM, dIx, dSet, dCall, dwipe, dYes, jSeq, jRng1, jRng2, jStr, jZip, dCB, dLen, dList, dListM, dTuple, dII2, dAbs, dInt, dBM0, dBM, dAppend, dPop, dPopAt, dAndV, dOrV, dNotV, dNeg, dTruth, dIn, dCat, dNoPart, dPart, dSl, dSlM, dNewK, dNewT, dIsi, dIsiT, dLc, dFor, dDc, dLenSet, dLenSetG, dRev, dIsB, dCallS, dRaise, dTry, dIsE, dOwnEq, dOwnNe, dIndex, dSortD, dMin1, dMax1, dIsiC, dLc2, dFrzA, dFrzE, jKeys, jVals, jItems, dLcH, dForH, dEqM, dSortX, dCmpX, dSortSet, dSortDM, dRaiseF, dMakeS, dTryHs, dWHs, dXf, endsD, slotD, dChain3, if_true, if_false, ite_true, ite_false, Bool.false_eq_true, reduceIte, Bool.not_true, Bool.not_false, List.getElem?_cons_zero, List.getElem?_cons_succ, List.set_cons_zero, List.set_cons_succ, List.map_cons, List.map_nil, List.replicate, List.cons_append, List.nil_append, List.length_cons, List.length_nil, dstart, dIsi]
  obtain ⟨T, hT⟩ := Option.isSome_iff_exists.mp S.h.ty
  refine ⟨by decide +kernel, T, hT, ?_⟩
  rw [ty_tup hT S.h.kt]
  cases x with
  | tup l =>
    simp only [isTupB, if_true, if_false, ite_true, ite_false, Bool.false_eq_true, reduceIte, Bool.not_true, Bool.not_false, List.getElem?_cons_zero, List.getElem?_cons_succ, List.set_cons_zero, List.set_cons_succ, List.map_cons, List.map_nil, List.replicate, List.cons_append, List.nil_append, List.length_cons, List.length_nil, dstart]
    have lz := S.z l rfl
    refine ⟨l.length, rfl, ?_⟩
    by_cases hm : most < (l.length : Int)
    · rw [decide_eq_true hm]
      simp only [if_true, if_false, ite_true, ite_false, Bool.false_eq_true, reduceIte, Bool.not_true, Bool.not_false, List.getElem?_cons_zero, List.getElem?_cons_succ, List.set_cons_zero, List.set_cons_succ, List.map_cons, List.map_nil, List.replicate, List.cons_append, List.nil_append, List.length_cons, List.length_nil, dstart]
      refine fin_self (q false ⟨(fun h => by cases h), fun ⟨ps, e, h1, _⟩ => ?_⟩)
      injection e with e
      rw [e, List.length_map] at hm
      omega
    · rw [decide_eq_false hm]
      simp only [if_true, if_false, ite_true, ite_false, Bool.false_eq_true, reduceIte, Bool.not_true, Bool.not_false, List.getElem?_cons_zero, List.getElem?_cons_succ, List.set_cons_zero, List.set_cons_succ, List.map_cons, List.map_nil, List.replicate, List.cons_append, List.nil_append, List.length_cons, List.length_nil, dstart]
      refine ⟨len_ok (by omega), dLcI_map (fun d => .bl (rpB n d)) (fun i d hd Q2 q2 => ?_) ?_⟩
      · simp only [dVar, dC, dOp, dTest, dII, dIC, dFld, dFldS, dMake, dProp, dAugS, dLcM, toM, dppNil, dppCons, dMerge, dDisp, dCatL, dCatLM, dRep, dRepM, dClear, dExtend, dRg1, dRg2, dLstRg, dLstRgM, dTupRg, dChain, dEq, dIsN, dAnd, dOr, dNot, dIfE, dNext, dSeq, dBreak, dCont, dDrop, dRet, dRetN, dIfS, dNever, dFrzS, dFrz, hName, hNil, hCons, hTup, hSub, dAsg, dPar, dAug, dipI, dNil, dCons, dTup, dLst, dLstM, dIx, dSet, dCall, dwipe, dYes, jSeq, jRng1, jRng2, jStr, jZip, dCB, dLen, dList, dListM, dTuple, dII2, dAbs, dInt, dBM0, dBM, dAppend, dPop, dPopAt, dAndV, dOrV, dNotV, dNeg, dTruth, dIn, dCat, dNoPart, dPart, dSl, dSlM, dNewK, dNewT, dIsi, dIsiT, dLc, dFor, dDc, dLenSet, dLenSetG, dRev, dIsB, dCallS, dRaise, dTry, dIsE, dOwnEq, dOwnNe, dIndex, dSortD, dMin1, dMax1, dIsiC, dLc2, dFrzA, dFrzE, jKeys, jVals, jItems, dLcH, dForH, dEqM, dSortX, dCmpX, dSortSet, dSortDM, dRaiseF, dMakeS, dTryHs, dWHs, dXf, endsD, slotD, dChain3, if_true, if_false, ite_true, ite_false, Bool.false_eq_true, reduceIte, Bool.not_true, Bool.not_false, List.getElem?_cons_zero, List.getElem?_cons_succ, List.set_cons_zero, List.set_cons_succ, List.map_cons, List.map_nil, List.replicate, List.cons_append, List.nil_append, List.length_cons, List.length_nil, dstart]
        exact ⟨d, n, rfl, S.i l rfl d (List.mem_of_getElem? hd), q2⟩
      refine ⟨_, map_bls _ _, ?_⟩
      simp only [all_map]
      cases ha : l.all (rpB n) with
      | false =>
        simp only [if_true, if_false, ite_true, ite_false, Bool.false_eq_true, reduceIte, Bool.not_true, Bool.not_false, List.getElem?_cons_zero, List.getElem?_cons_succ, List.set_cons_zero, List.set_cons_succ, List.map_cons, List.map_nil, List.replicate, List.cons_append, List.nil_append, List.length_cons, List.length_nil, dstart]
        refine fin_self (q false ⟨(fun h => by cases h), fun ⟨ps, e, _, h2⟩ => ?_⟩)
        injection e with e
        rw [e] at ha
        have : (ps.map prD).all (rpB n) = true := by
          rw [List.all_eq_true]
          intro x hx
          obtain ⟨p, hp, rfl⟩ := List.mem_map.mp hx
          exact rpB_of (h2.ok p hp)
        rw [this] at ha; cases ha
      | true =>
        simp only [if_true, if_false, ite_true, ite_false, Bool.false_eq_true, reduceIte, Bool.not_true, Bool.not_false, List.getElem?_cons_zero, List.getElem?_cons_succ, List.set_cons_zero, List.set_cons_succ, List.map_cons, List.map_nil, List.replicate, List.cons_append, List.nil_append, List.length_cons, List.length_nil, dstart]
        rw [List.all_eq_true] at ha
        obtain ⟨ps, rfl, hok⟩ := rp_all ha
        rw [List.length_map] at lz hm
        refine ⟨ps.length, by simp [lenV], by omega, by rw [rgD_len]; exact len_ok (by omega), dLcI_idx (fun k => .bl (!prLtB (ps.getD k (0, 0)) (ps.getD (k + 1) (0, 0)))) (fun i d hd Q2 q2 => ?_) ?_⟩
        · simp only [dVar, dC, dOp, dTest, dII, dIC, dFld, dFldS, dMake, dProp, dAugS, dLcM, toM, dppNil, dppCons, dMerge, dDisp, dCatL, dCatLM, dRep, dRepM, dClear, dExtend, dRg1, dRg2, dLstRg, dLstRgM, dTupRg, dChain, dEq, dIsN, dAnd, dOr, dNot, dIfE, dNext, dSeq, dBreak, dCont, dDrop, dRet, dRetN, dIfS, dNever, dFrzS, dFrz, hName, hNil, hCons, hTup, hSub, dAsg, dPar, dAug, dipI, dNil, dCons, dTup, dLst, dLstM, dIx, dSet, dCall, dwipe, dYes, jSeq, jRng1, jRng2, jStr, jZip, dCB, dLen, dList, dListM, dTuple, dII2, dAbs, dInt, dBM0, dBM, dAppend, dPop, dPopAt, dAndV, dOrV, dNotV, dNeg, dTruth, dIn, dCat, dNoPart, dPart, dSl, dSlM, dNewK, dNewT, dIsi, dIsiT, dLc, dFor, dDc, dLenSet, dLenSetG, dRev, dIsB, dCallS, dRaise, dTry, dIsE, dOwnEq, dOwnNe, dIndex, dSortD, dMin1, dMax1, dIsiC, dLc2, dFrzA, dFrzE, jKeys, jVals, jItems, dLcH, dForH, dEqM, dSortX, dCmpX, dSortSet, dSortDM, dRaiseF, dMakeS, dTryHs, dWHs, dXf, endsD, slotD, dChain3, if_true, if_false, ite_true, ite_false, Bool.false_eq_true, reduceIte, Bool.not_true, Bool.not_false, List.getElem?_cons_zero, List.getElem?_cons_succ, List.set_cons_zero, List.set_cons_succ, List.map_cons, List.map_nil, List.replicate, List.cons_append, List.nil_append, List.length_cons, List.length_nil, dstart]
          obtain ⟨hi, rfl⟩ := rgD_get hd
          have h1 : i + 1 < ps.length := by omega
          have e1 : ps[i]? = some ps[i] := List.getElem?_eq_getElem (by omega)
          have e2 : ps[i + 1]? = some ps[i + 1] := List.getElem?_eq_getElem h1
          refine ⟨prD ps[i], atI_at (k := i) (by omega) (by rw [List.getElem?_map, e1]; rfl), prD ps[i + 1], atI_at (k := i + 1) (by omega) (by rw [List.getElem?_map, e2]; rfl), ?_⟩
          refine ⟨[ps[i].1, ps[i].2], [ps[i + 1].1, ps[i + 1].2], rfl, rfl, ?_⟩
          rw [geL_pr]
          rw [List.getD_eq_getElem?_getD, List.getD_eq_getElem?_getD, e1, e2] at q2
          exact q2
        refine ⟨_, map_bls _ _, ?_⟩
        simp only [any_map, rgD_len]
        refine fin_self (q _ ⟨fun h => ⟨ps, rfl, by omega, hok, pw_of_next fun i p r hp hr => ?_⟩, fun ⟨qs, e, _, h2⟩ => ?_⟩)
        · rw [Bool.not_eq_true', List.any_eq_false] at h
          have hi := (List.getElem?_eq_some_iff.mp hr).1
          have := h i (List.mem_range.mpr (by omega))
          rw [List.getD_eq_getElem?_getD, List.getD_eq_getElem?_getD, hp, hr] at this
          exact prLtB_iff.mp (by simpa using this)
        · injection e with e
          obtain rfl := pr_inj e
          rw [Bool.not_eq_true', List.any_eq_false]
          intro i hi
          have hi := List.mem_range.mp hi
          have h1 : i + 1 < ps.length := by omega
          have e1 : ps[i]? = some ps[i] := List.getElem?_eq_getElem (by omega)
          have e2 : ps[i + 1]? = some ps[i + 1] := List.getElem?_eq_getElem h1
          rw [List.getD_eq_getElem?_getD, List.getD_eq_getElem?_getD, e1, e2]
          have := prLtB_iff.mpr (pw_next h2.lt e1 e2)
          simp [this]
  | _ => simp only [isTupB, if_true, if_false, ite_true, ite_false, Bool.false_eq_true, reduceIte, Bool.not_true, Bool.not_false, List.getElem?_cons_zero, List.getElem?_cons_succ, List.set_cons_zero, List.set_cons_succ, List.map_cons, List.map_nil, List.replicate, List.cons_append, List.nil_append, List.length_cons, List.length_nil, dstart]; exact fin_self (q false ⟨(fun h => by cases h), fun ⟨ps, e, _⟩ => by cases e⟩)
theorem sc_beside_lists : FnScope ["many", "pairs", "found", "one", "other", "_", "row"] ["many", "pairs"] (defScope s_beside_lists) := ⟨rfl, rfl, rfl, by decide +kernel, rfl, by decide +kernel, by decide +kernel⟩
def sp_beside_lists : DSp := fun ds M Q _ => ∃ (n : Int) (ps : List (Int × Int)), ds = [.int n, .tup (ps.map prD)] ∧ 0 ≤ n ∧ n ≤ 10000 ∧ ps.length ≤ 1000000 ∧ PrsOk n ps ∧ Q (.lst (rowsD n ps)) M
theorem c_beside_lists (F : DFun K mg "beside_lists" s_beside_lists ["many", "pairs"]) (B : Bn mg) (G : Gs mg)  : DCal P w K mg base CX0 1 "beside_lists" sp_beside_lists := by
  refine dok F sc_beside_lists (fun ds M Q E h => (by obtain ⟨_, h⟩ := h; first | (obtain ⟨e, _⟩ := h; subst e; rfl) | (obtain ⟨_, e, _⟩ := h; subst e; rfl) | (obtain ⟨_, _, e, _⟩ := h; subst e; rfl) | (obtain ⟨_, _, _, e, _⟩ := h; subst e; rfl) | (obtain ⟨_, _, _, _, e, _⟩ := h; subst e; rfl) | (obtain ⟨_, _, _, _, _, e, _⟩ := h; subst e; rfl) | (obtain ⟨_, _, _, _, _, _, e, _⟩ := h; subst e; rfl) | (obtain ⟨_, _, _, _, _, _, _, e, _⟩ := h; subst e; rfl) | (obtain ⟨_, _, _, _, _, _, _, _, e, _⟩ := h; subst e; rfl) | (obtain ⟨_, _, _, _, _, _, _, _, _, e, _⟩ := h; subst e; rfl))) (fun f cdv A outer s H E F0 hr => ?_)
  have nd := (sc_beside_lists).nd
  refine ⟨_, _, (db_cons (dx_setLc 2 (own := [("_", 5)]) rfl nd (sw_true rfl rfl rfl (by decide +kernel)) (di_range1 B.range (da_cons (de_var 0) da_nil)) (blkOk_by (N := ["many", "pairs", "found", "one", "other", "_", "row"]) (sc := defScope s_beside_lists) (by decide +kernel)) (fun _ _ _ _ _ => ⟨_, (dg_name 5 nd), (gw_name (by decide))⟩) (fun _ _ _ _ _ => ⟨_, dts_nil⟩) (fun _ _ _ _ _ => ⟨_, (de_lstM da_nil)⟩))
      (db_cons (ds_for PassesOwn.never rfl (di_seq (de_var 1)) (dg_tup (n := 2) rfl (dgs_cons (dg_name 3 nd) (dgs_cons (dg_name 4 nd) dgs_nil))) (db_cons (ds_expr (de_append (de_ix hr (de_var 2) (de_var 3)) (da_cons (de_var 4) da_nil)))
      (db_one (ds_expr (de_append (de_ix hr (de_var 2) (de_var 4)) (da_cons (de_var 3) da_nil))))))
      (db_one (ds_ret (dx_lc (own := [("row", 6)]) rfl nd (di_seq (de_var 2)) (blkOk_by (N := ["many", "pairs", "found", "one", "other", "_", "row"]) (sc := defScope s_beside_lists) (by decide +kernel)) (fun _ _ _ _ _ => ⟨_, (dg_name 6 nd), (gw_name (by decide))⟩) (fun _ _ _ _ _ => ⟨_, dts_nil⟩) (fun _ _ _ _ _ => ⟨_, (de_bty call_tuple_of lc_tuple B.tuple (da_cons (de_sortI B.sorted (da_cons (de_var 6) da_nil)) da_nil))⟩)))))), ?_⟩
  rintro ds M Q E ⟨n, ps, rfl, h0, hn, hz, h, q⟩
  simp only [dVar, dC, dOp, dTest, dII, dIC, dFld, dFldS, dMake, dProp, dAugS, dLcM, toM, dppNil, dppCons, dMerge, dDisp, dCatL, dCatLM, dRep, dRepM, dClear, dExtend, dRg1, dRg2, dLstRg, dLstRgM, dTupRg, dChain, dEq, dIsN, dAnd, dOr, dNot, dIfE, dNext, dSeq, dBreak, dCont, dDrop, dRet, dRetN, dIfS, dNever, dFrzS, dFrz, hName, hNil, hCons, hTup, hSub, dAsg, dPar, dAug, dipI, dNil, dCons, dTup, dLst, dLstM, dIx, dSet, dCall, dwipe, dYes, jSeq, jRng1, jRng2, jStr, jZip, dCB, dLen, dList, dListM, dTuple, dII2, dAbs, dInt, dBM0, dBM, dAppend, dPop, dPopAt, dAndV, dOrV, dNotV, dNeg, dTruth, dIn, dCat, dNoPart, dPart, dSl, dSlM, dNewK, dNewT, dIsi, dIsiT, dLc, dFor, dDc, dLenSet, dLenSetG, dRev, dIsB, dCallS, dRaise, dTry, dIsE, dOwnEq, dOwnNe, dIndex, dSortD, dMin1, dMax1, dIsiC, dLc2, dFrzA, dFrzE, jKeys, jVals, jItems, dLcH, dForH, dEqM, dSortX, dCmpX, dSortSet, dSortDM, dRaiseF, dMakeS, dTryHs, dWHs, dXf, endsD, slotD, dChain3, if_true, if_false, ite_true, ite_false, Bool.false_eq_true, reduceIte, Bool.not_true, Bool.not_false, List.getElem?_cons_zero, List.getElem?_cons_succ, List.set_cons_zero, List.set_cons_succ, List.map_cons, List.map_nil, List.replicate, List.cons_append, List.nil_append, List.length_cons, List.length_nil, dstart]
  refine ⟨by omega, by rw [rgD_len]; exact len_ok (by omega), lcI_fresh (fun d M Q h γ => h _) fun as M1 R ho hf => ?_⟩
  rw [rgD_len] at R
  have has : as.length = n.toNat := by rw [R.len]; simp
  refine dForI_of (fun i γ M' => ∃ o1 o2, γ = [some (.int n), some (.tup (ps.map prD)), some (.lst (as.map .ref)), o1, o2, none, none] ∧ RowsAt M' as ((List.range n.toNat).map fun (j : Nat) => (nbr (ps.take i) (j : Int)).map .int) ∧ ∀ p, p ∉ as → M' p = M p) ?_ ?_ ?_
  · refine ⟨none, none, rfl, ?_, ho⟩
    have e : (List.range n.toNat).map (fun (j : Nat) => (nbr (ps.take 0) (j : Int)).map D.int) = List.replicate n.toNat [] := by
      apply List.ext_getElem?
      intro j
      simp only [List.take_zero, nbr, List.flatMap_nil, List.map_nil, List.getElem?_map, List.getElem?_replicate]
      by_cases hj : j < n.toNat
      · rw [List.getElem?_range hj, if_pos hj]; rfl
      · rw [List.getElem?_eq_none (by simpa using hj), if_neg hj]; rfl
    rw [e]; exact R
  · rintro i d γ M2 hd ⟨o1, o2, rfl, R2, ho2⟩
    obtain ⟨⟨a, b⟩, hp, rfl⟩ := get_pr hd
    obtain ⟨k1, k2, k3⟩ := h.ok _ (List.mem_of_getElem? hp)
    simp only at k1 k2 k3
    have hi := (List.getElem?_eq_some_iff.mp hp).1
    have tl : (ps.take i).length ≤ ps.length := by rw [List.length_take]; omega
    obtain ⟨x, hx, mx, R3⟩ := R2.push (k := a.toNat) (d := .int b) (g := fun (j : Nat) => (nbr (ps.take i) (j : Int) ++ (if (j : Int) = a then [b] else [])).map .int) (by omega) (fun j => by
      by_cases e : j = a.toNat
      · have e2 : (j : Int) = a := by omega
        simp [e, e2, show ((a.toNat : Nat) : Int) = a by omega]
      · have e2 : ¬ (j : Int) = a := by omega
        simp [e, e2])
    simp only [dVar, dC, dOp, dTest, dII, dIC, dFld, dFldS, dMake, dProp, dAugS, dLcM, toM, dppNil, dppCons, dMerge, dDisp, dCatL, dCatLM, dRep, dRepM, dClear, dExtend, dRg1, dRg2, dLstRg, dLstRgM, dTupRg, dChain, dEq, dIsN, dAnd, dOr, dNot, dIfE, dNext, dSeq, dBreak, dCont, dDrop, dRet, dRetN, dIfS, dNever, dFrzS, dFrz, hName, hNil, hCons, hTup, hSub, dAsg, dPar, dAug, dipI, dNil, dCons, dTup, dLst, dLstM, dIx, dSet, dCall, dwipe, dYes, jSeq, jRng1, jRng2, jStr, jZip, dCB, dLen, dList, dListM, dTuple, dII2, dAbs, dInt, dBM0, dBM, dAppend, dPop, dPopAt, dAndV, dOrV, dNotV, dNeg, dTruth, dIn, dCat, dNoPart, dPart, dSl, dSlM, dNewK, dNewT, dIsi, dIsiT, dLc, dFor, dDc, dLenSet, dLenSetG, dRev, dIsB, dCallS, dRaise, dTry, dIsE, dOwnEq, dOwnNe, dIndex, dSortD, dMin1, dMax1, dIsiC, dLc2, dFrzA, dFrzE, jKeys, jVals, jItems, dLcH, dForH, dEqM, dSortX, dCmpX, dSortSet, dSortDM, dRaiseF, dMakeS, dTryHs, dWHs, dXf, endsD, slotD, dChain3, if_true, if_false, ite_true, ite_false, Bool.false_eq_true, reduceIte, Bool.not_true, Bool.not_false, List.getElem?_cons_zero, List.getElem?_cons_succ, List.set_cons_zero, List.set_cons_succ, List.map_cons, List.map_nil, List.replicate, List.cons_append, List.nil_append, List.length_cons, List.length_nil, dstart, prD]
    refine ⟨trivial, .ref x, ref_at (by omega) hx, by simp only [tyD, mx], ?_⟩
    simp only [mx]
    have l1 := nbr_len (ps.take i) (a.toNat : Nat)
    refine ⟨len_lt (by rw [List.length_map]; omega), ?_⟩
    obtain ⟨y, hy, my, R4⟩ := R3.push (k := b.toNat) (d := .int a) (g := fun (j : Nat) => (nbr (ps.take (i + 1)) (j : Int)).map .int) (by omega) (fun j => by
      rw [take_succ_of hp, nbr_snoc]
      by_cases e : j = b.toNat
      · have e2 : (j : Int) = b := by omega
        have e3 : ¬ (j : Int) = a := by omega
        have e4 : ¬ a = (j : Int) := by omega
        simp [e, show ((b.toNat : Nat) : Int) = b by omega, show ¬ b = a by omega, show ¬ a = b by omega]
      · have e2 : ¬ b = (j : Int) := by omega
        by_cases e3 : (j : Int) = a
        · simp [e, e3, show ¬ b = a by omega, show ¬ a.toNat = b.toNat by omega]
        · have e4 : ¬ a = (j : Int) := by omega
          simp [e, e2, e3, e4])
    refine ⟨.ref y, ref_at (by omega) hy, by simp only [tyD, my], ?_⟩
    simp only [my]
    have l2 := nbr_len (ps.take i) (b.toNat : Nat)
    have e5 : ¬ ((b.toNat : Nat) : Int) = a := by omega
    refine ⟨len_lt (by rw [List.length_map, if_neg e5, List.append_nil]; omega), _, _, rfl, R4, fun p hp' => ?_⟩
    rw [mset_ne fun z => hp' (by rw [z]; exact List.mem_of_getElem? hy), mset_ne fun z => hp' (by rw [z]; exact List.mem_of_getElem? hx)]
    exact ho2 p hp'
  · rintro γ M2 ⟨o1, o2, rfl, R2, ho2⟩
    rw [List.length_map, List.take_length] at R2
    simp only [dVar, dC, dOp, dTest, dII, dIC, dFld, dFldS, dMake, dProp, dAugS, dLcM, toM, dppNil, dppCons, dMerge, dDisp, dCatL, dCatLM, dRep, dRepM, dClear, dExtend, dRg1, dRg2, dLstRg, dLstRgM, dTupRg, dChain, dEq, dIsN, dAnd, dOr, dNot, dIfE, dNext, dSeq, dBreak, dCont, dDrop, dRet, dRetN, dIfS, dNever, dFrzS, dFrz, hName, hNil, hCons, hTup, hSub, dAsg, dPar, dAug, dipI, dNil, dCons, dTup, dLst, dLstM, dIx, dSet, dCall, dwipe, dYes, jSeq, jRng1, jRng2, jStr, jZip, dCB, dLen, dList, dListM, dTuple, dII2, dAbs, dInt, dBM0, dBM, dAppend, dPop, dPopAt, dAndV, dOrV, dNotV, dNeg, dTruth, dIn, dCat, dNoPart, dPart, dSl, dSlM, dNewK, dNewT, dIsi, dIsiT, dLc, dFor, dDc, dLenSet, dLenSetG, dRev, dIsB, dCallS, dRaise, dTry, dIsE, dOwnEq, dOwnNe, dIndex, dSortD, dMin1, dMax1, dIsiC, dLc2, dFrzA, dFrzE, jKeys, jVals, jItems, dLcH, dForH, dEqM, dSortX, dCmpX, dSortSet, dSortDM, dRaiseF, dMakeS, dTryHs, dWHs, dXf, endsD, slotD, dChain3, if_true, if_false, ite_true, ite_false, Bool.false_eq_true, reduceIte, Bool.not_true, Bool.not_false, List.getElem?_cons_zero, List.getElem?_cons_succ, List.set_cons_zero, List.set_cons_succ, List.map_cons, List.map_nil, List.replicate, List.cons_append, List.nil_append, List.length_cons, List.length_nil, dstart]
    refine ⟨by rw [List.length_map, has]; exact len_ok (by omega), dLcI_idx (fun k => .tup ((srt (nbr ps (k : Int))).map .int)) (fun k d hd Q2 q2 => ?_) ?_⟩
    · rw [List.getElem?_map] at hd
      obtain ⟨a, ha, rfl⟩ := Option.map_eq_some_iff.mp hd
      obtain ⟨r, hr1, hr2⟩ := R2.at' k a ha
      have hk : k < n.toNat := by rw [← has]; exact (List.getElem?_eq_some_iff.mp ha).1
      rw [List.getElem?_map, List.getElem?_range hk] at hr1
      cases hr1
      simp only [dVar, dC, dOp, dTest, dII, dIC, dFld, dFldS, dMake, dProp, dAugS, dLcM, toM, dppNil, dppCons, dMerge, dDisp, dCatL, dCatLM, dRep, dRepM, dClear, dExtend, dRg1, dRg2, dLstRg, dLstRgM, dTupRg, dChain, dEq, dIsN, dAnd, dOr, dNot, dIfE, dNext, dSeq, dBreak, dCont, dDrop, dRet, dRetN, dIfS, dNever, dFrzS, dFrz, hName, hNil, hCons, hTup, hSub, dAsg, dPar, dAug, dipI, dNil, dCons, dTup, dLst, dLstM, dIx, dSet, dCall, dwipe, dYes, jSeq, jRng1, jRng2, jStr, jZip, dCB, dLen, dList, dListM, dTuple, dII2, dAbs, dInt, dBM0, dBM, dAppend, dPop, dPopAt, dAndV, dOrV, dNotV, dNeg, dTruth, dIn, dCat, dNoPart, dPart, dSl, dSlM, dNewK, dNewT, dIsi, dIsiT, dLc, dFor, dDc, dLenSet, dLenSetG, dRev, dIsB, dCallS, dRaise, dTry, dIsE, dOwnEq, dOwnNe, dIndex, dSortD, dMin1, dMax1, dIsiC, dLc2, dFrzA, dFrzE, jKeys, jVals, jItems, dLcH, dForH, dEqM, dSortX, dCmpX, dSortSet, dSortDM, dRaiseF, dMakeS, dTryHs, dWHs, dXf, endsD, slotD, dChain3, if_true, if_false, ite_true, ite_false, Bool.false_eq_true, reduceIte, Bool.not_true, Bool.not_false, List.getElem?_cons_zero, List.getElem?_cons_succ, List.set_cons_zero, List.set_cons_succ, List.map_cons, List.map_nil, List.replicate, List.cons_append, List.nil_append, List.length_cons, List.length_nil, dstart]
      exact dSortI_srt _ (.inr ⟨a, rfl, hr2⟩) q2
    · have e : (List.range (as.map D.ref).length).map (fun (k : Nat) => D.tup ((srt (nbr ps (k : Int))).map .int)) = rowsD n ps := by
        rw [List.length_map, has, rowsD, rowsOf, List.map_map]; rfl
      rw [e]
      refine fin_less (M2 := M) (fun p o hp => ?_) q
      rw [ho2 p fun z => ?_]
      · exact hp
      · rw [hf p z] at hp; cases hp
theorem sc_reached : FnScope ["rows", "inside", "start", "found", "todo", "other"] ["rows", "inside", "start"] (defScope s_reached) := ⟨rfl, rfl, rfl, by decide +kernel, rfl, by decide +kernel, by decide +kernel⟩
def sp_reached : DSp := fun ds M Q _ => ∃ (n : Int) (ps : List (Int × Int)) (d : Addr) (ns : List Int) (s : Int), ds = [.lst (rowsD n ps), .ref d, .int s] ∧ PrsOk n ps ∧ InsAt M d ns ∧ ns.length ≤ 10000 ∧ (∀ x ∈ ns, 0 ≤ x ∧ x < n) ∧ s ∈ ns ∧ ∀ (r : Addr) (ks : List Int), M r = none → ks.Nodup → (∀ x, x ∈ ks ↔ Rch ps ns s x) → Q (.ref r) (mset M r (.dK (ks.map kvT)))
theorem c_reached (F : DFun K mg "reached" s_reached ["rows", "inside", "start"]) (B : Bn mg) (G : Gs mg)  : DCal P w K mg base CX0 1 "reached" sp_reached := by
  refine dok F sc_reached (fun ds M Q E h => (by obtain ⟨_, h⟩ := h; first | (obtain ⟨e, _⟩ := h; subst e; rfl) | (obtain ⟨_, e, _⟩ := h; subst e; rfl) | (obtain ⟨_, _, e, _⟩ := h; subst e; rfl) | (obtain ⟨_, _, _, e, _⟩ := h; subst e; rfl) | (obtain ⟨_, _, _, _, e, _⟩ := h; subst e; rfl) | (obtain ⟨_, _, _, _, _, e, _⟩ := h; subst e; rfl) | (obtain ⟨_, _, _, _, _, _, e, _⟩ := h; subst e; rfl) | (obtain ⟨_, _, _, _, _, _, _, e, _⟩ := h; subst e; rfl) | (obtain ⟨_, _, _, _, _, _, _, _, e, _⟩ := h; subst e; rfl) | (obtain ⟨_, _, _, _, _, _, _, _, _, e, _⟩ := h; subst e; rfl))) (fun f cdv A outer s H E F0 hr => ?_)
  have nd := (sc_reached).nd
  refine ⟨_, _, (db_cons (ds_set 3 nd (de_disp (dpp_cons (de_var 2) de_bl dpp_nil)))
      (db_cons (ds_set 4 nd (de_lstM (da_cons (de_var 2) da_nil)))
      (db_cons (ds_while PassesOwn.never (dt_gt (de_len B.len (da_cons (de_var 4) da_nil)) de_int) (db_one (ds_for PassesOwn.never rfl (di_seq (de_ix hr (de_var 0) (de_pop (de_var 4)))) (dg_name 5 nd) (db_one (ds_if (DW.dt (dw_and (dt_in hr (de_var 5) (de_var 1)) (dw_and1 (dt_notIn hr (de_var 5) (de_var 3))))) (db_cons (ds_put hr (de_var 3) (de_var 5) de_bl)
      (db_one (ds_expr (de_append (de_var 4) (da_cons (de_var 5) da_nil))))) db_nil)))))
      (db_one (ds_ret (de_var 3)))))), ?_⟩
  rintro ds M Q E ⟨n, ps, d, ns, s, rfl, hp, hi, hz, hn, hs, q⟩
  simp only [dVar, dC, dOp, dTest, dII, dIC, dFld, dFldS, dMake, dProp, dAugS, dLcM, toM, dppNil, dppCons, dMerge, dDisp, dCatL, dCatLM, dRep, dRepM, dClear, dExtend, dRg1, dRg2, dLstRg, dLstRgM, dTupRg, dChain, dEq, dIsN, dAnd, dOr, dNot, dIfE, dNext, dSeq, dBreak, dCont, dDrop, dRet, dRetN, dIfS, dNever, dFrzS, dFrz, hName, hNil, hCons, hTup, hSub, dAsg, dPar, dAug, dipI, dNil, dCons, dTup, dLst, dLstM, dIx, dSet, dCall, dwipe, dYes, jSeq, jRng1, jRng2, jStr, jZip, dCB, dLen, dList, dListM, dTuple, dII2, dAbs, dInt, dBM0, dBM, dAppend, dPop, dPopAt, dAndV, dOrV, dNotV, dNeg, dTruth, dIn, dCat, dNoPart, dPart, dSl, dSlM, dNewK, dNewT, dIsi, dIsiT, dLc, dFor, dDc, dLenSet, dLenSetG, dRev, dIsB, dCallS, dRaise, dTry, dIsE, dOwnEq, dOwnNe, dIndex, dSortD, dMin1, dMax1, dIsiC, dLc2, dFrzA, dFrzE, jKeys, jVals, jItems, dLcH, dForH, dEqM, dSortX, dCmpX, dSortSet, dSortDM, dRaiseF, dMakeS, dTryHs, dWHs, dXf, endsD, slotD, dChain3, if_true, if_false, ite_true, ite_false, Bool.false_eq_true, reduceIte, Bool.not_true, Bool.not_false, List.getElem?_cons_zero, List.getElem?_cons_succ, List.set_cons_zero, List.set_cons_succ, List.map_cons, List.map_nil, List.replicate, List.cons_append, List.nil_append, List.length_cons, List.length_nil, dstart]
  intro r hr
  refine ⟨_, rfl, fun _ => ⟨by decide, by decide, fun td htd => ?_⟩⟩
  have e0 : (dput [] (.inl s) (.bl true) : List (Key × D)) = [s].map kvT := rfl
  rw [e0] at htd ⊢
  have ntd : td ≠ r := fun e => by rw [e, mset_same] at htd; cases htd
  have htd0 : M td = none := by rw [mset_ne ntd] at htd; exact htd
  have hd : d ≠ r ∧ d ≠ td := by
    obtain ⟨kvs, h1, _⟩ := hi.ex
    exact ⟨fun e => by (rw [e, hr] at h1; cases h1), fun e => by (rw [e, htd0] at h1; cases h1)⟩
  have mem_ns : ∀ {ks : List Int}, (∀ x, x ∈ ks → Rch ps ns s x) → ∀ x, x ∈ ks → x ∈ ns := fun h x hx => (h x hx).mem hs
  refine ⟨fun m γ M' => ∃ (o : Option D) (ks ts : List Int), γ = [some (.lst (rowsD n ps)), some (.ref d), some (.int s), some (.ref r), some (.ref td), o] ∧ M' r = some (.dK (ks.map kvT)) ∧ M' td = some (.lst (ts.map .int)) ∧ Agree M M' [r, td] ∧ ks.Nodup ∧ (∀ x, x ∈ ks → Rch ps ns s x) ∧ s ∈ ks ∧ (∀ x, x ∈ ts → x ∈ ks) ∧ ts.length ≤ ks.length ∧
    (∀ x, x ∈ ks → x ∈ ts ∨ ∀ y, y ∈ nbr ps x → y ∈ ns → y ∈ ks) ∧ m = 2 * (ns.length - ks.length) + ts.length, ⟨_, none, [s], [s], rfl, ?_, mset_same, fun q hq => ?_, by simp, ?_, by simp, fun x hx => hx, by simp, fun x hx => .inl hx, rfl⟩, ?_⟩
  · rw [mset_ne (Ne.symm ntd), mset_same]
  · simp only [List.mem_cons, List.not_mem_nil, or_false, not_or] at hq
    rw [mset_ne hq.2, mset_ne hq.1]
  · intro x hx
    rw [List.mem_singleton.mp hx]; exact .refl
  rintro m γ M' ⟨o, ks, ts, rfl, hk, ht, ag, nd, hR, hsk, hts, hlen, cl, rfl⟩
  have hkl : ks.length ≤ ns.length := nodup_len nd (mem_ns hR)
  simp only [dVar, dC, dOp, dTest, dII, dIC, dFld, dFldS, dMake, dProp, dAugS, dLcM, toM, dppNil, dppCons, dMerge, dDisp, dCatL, dCatLM, dRep, dRepM, dClear, dExtend, dRg1, dRg2, dLstRg, dLstRgM, dTupRg, dChain, dEq, dIsN, dAnd, dOr, dNot, dIfE, dNext, dSeq, dBreak, dCont, dDrop, dRet, dRetN, dIfS, dNever, dFrzS, dFrz, hName, hNil, hCons, hTup, hSub, dAsg, dPar, dAug, dipI, dNil, dCons, dTup, dLst, dLstM, dIx, dSet, dCall, dwipe, dYes, jSeq, jRng1, jRng2, jStr, jZip, dCB, dLen, dList, dListM, dTuple, dII2, dAbs, dInt, dBM0, dBM, dAppend, dPop, dPopAt, dAndV, dOrV, dNotV, dNeg, dTruth, dIn, dCat, dNoPart, dPart, dSl, dSlM, dNewK, dNewT, dIsi, dIsiT, dLc, dFor, dDc, dLenSet, dLenSetG, dRev, dIsB, dCallS, dRaise, dTry, dIsE, dOwnEq, dOwnNe, dIndex, dSortD, dMin1, dMax1, dIsiC, dLc2, dFrzA, dFrzE, jKeys, jVals, jItems, dLcH, dForH, dEqM, dSortX, dCmpX, dSortSet, dSortDM, dRaiseF, dMakeS, dTryHs, dWHs, dXf, endsD, slotD, dChain3, if_true, if_false, ite_true, ite_false, Bool.false_eq_true, reduceIte, Bool.not_true, Bool.not_false, List.getElem?_cons_zero, List.getElem?_cons_succ, List.set_cons_zero, List.set_cons_succ, List.map_cons, List.map_nil, List.replicate, List.cons_append, List.nil_append, List.length_cons, List.length_nil, dstart]
  refine ⟨ts.length, by simp only [lenV, ht, List.length_map], ?_⟩
  rcases snoc_cases ts with rfl | ⟨ts', x, rfl⟩
  · simp only [dVar, dC, dOp, dTest, dII, dIC, dFld, dFldS, dMake, dProp, dAugS, dLcM, toM, dppNil, dppCons, dMerge, dDisp, dCatL, dCatLM, dRep, dRepM, dClear, dExtend, dRg1, dRg2, dLstRg, dLstRgM, dTupRg, dChain, dEq, dIsN, dAnd, dOr, dNot, dIfE, dNext, dSeq, dBreak, dCont, dDrop, dRet, dRetN, dIfS, dNever, dFrzS, dFrz, hName, hNil, hCons, hTup, hSub, dAsg, dPar, dAug, dipI, dNil, dCons, dTup, dLst, dLstM, dIx, dSet, dCall, dwipe, dYes, jSeq, jRng1, jRng2, jStr, jZip, dCB, dLen, dList, dListM, dTuple, dII2, dAbs, dInt, dBM0, dBM, dAppend, dPop, dPopAt, dAndV, dOrV, dNotV, dNeg, dTruth, dIn, dCat, dNoPart, dPart, dSl, dSlM, dNewK, dNewT, dIsi, dIsiT, dLc, dFor, dDc, dLenSet, dLenSetG, dRev, dIsB, dCallS, dRaise, dTry, dIsE, dOwnEq, dOwnNe, dIndex, dSortD, dMin1, dMax1, dIsiC, dLc2, dFrzA, dFrzE, jKeys, jVals, jItems, dLcH, dForH, dEqM, dSortX, dCmpX, dSortSet, dSortDM, dRaiseF, dMakeS, dTryHs, dWHs, dXf, endsD, slotD, dChain3, if_true, if_false, ite_true, ite_false, Bool.false_eq_true, reduceIte, Bool.not_true, Bool.not_false, List.getElem?_cons_zero, List.getElem?_cons_succ, List.set_cons_zero, List.set_cons_succ, List.map_cons, List.map_nil, List.replicate, List.cons_append, List.nil_append, List.length_cons, List.length_nil, dstart]
    rw [if_neg (by decide)]
    refine fin_less (fun q o h => ?_) (q r ks hr nd fun x => ⟨hR x, fun ⟨t, h⟩ => ?_⟩)
    · by_cases e : q = r
      · rw [e, mset_same] at h; rw [e, hk]; exact h
      · rw [mset_ne e] at h
        rw [ag q (by
          simp only [List.mem_cons, List.not_mem_nil, or_false, not_or]
          exact ⟨e, fun z => by (rw [z, htd0] at h; cases h)⟩)]
        exact h
    · induction t generalizing x with
      | zero => rw [show x = s from h]; exact hsk
      | succ t ih =>
        obtain ⟨z, h1, h2, h3⟩ := h
        rcases cl z (ih z ⟨_, h1⟩ h1) with h4 | h4
        · cases h4
        · exact h4 x h2 h3
  · rw [if_pos (by first | (simp; done) | (simp; omega))]
    simp only [tyD, ht]
    have hx : x ∈ ks := hts x (by simp)
    have hxn := hn x (mem_ns hR x hx)
    refine ⟨trivial, .int x, by simp, .tup ((srt (nbr ps x)).map .int), rowsD_get hxn.1 hxn.2, ?_⟩
    have nl := nbr_len ps x
    have hdl : ((ts' ++ [x]).map D.int).dropLast = ts'.map D.int := by rw [List.map_append]; exact List.dropLast_concat
    simp only [dVar, dC, dOp, dTest, dII, dIC, dFld, dFldS, dMake, dProp, dAugS, dLcM, toM, dppNil, dppCons, dMerge, dDisp, dCatL, dCatLM, dRep, dRepM, dClear, dExtend, dRg1, dRg2, dLstRg, dLstRgM, dTupRg, dChain, dEq, dIsN, dAnd, dOr, dNot, dIfE, dNext, dSeq, dBreak, dCont, dDrop, dRet, dRetN, dIfS, dNever, dFrzS, dFrz, hName, hNil, hCons, hTup, hSub, dAsg, dPar, dAug, dipI, dNil, dCons, dTup, dLst, dLstM, dIx, dSet, dCall, dwipe, dYes, jSeq, jRng1, jRng2, jStr, jZip, dCB, dLen, dList, dListM, dTuple, dII2, dAbs, dInt, dBM0, dBM, dAppend, dPop, dPopAt, dAndV, dOrV, dNotV, dNeg, dTruth, dIn, dCat, dNoPart, dPart, dSl, dSlM, dNewK, dNewT, dIsi, dIsiT, dLc, dFor, dDc, dLenSet, dLenSetG, dRev, dIsB, dCallS, dRaise, dTry, dIsE, dOwnEq, dOwnNe, dIndex, dSortD, dMin1, dMax1, dIsiC, dLc2, dFrzA, dFrzE, jKeys, jVals, jItems, dLcH, dForH, dEqM, dSortX, dCmpX, dSortSet, dSortDM, dRaiseF, dMakeS, dTryHs, dWHs, dXf, endsD, slotD, dChain3, if_true, if_false, ite_true, ite_false, Bool.false_eq_true, reduceIte, Bool.not_true, Bool.not_false, List.getElem?_cons_zero, List.getElem?_cons_succ, List.set_cons_zero, List.set_cons_succ, List.map_cons, List.map_nil, List.replicate, List.cons_append, List.nil_append, List.length_cons, List.length_nil, dstart, hdl]
    refine dForI_of (fun i γ M' => ∃ (o : Option D) (ks2 ts2 : List Int), γ = [some (.lst (rowsD n ps)), some (.ref d), some (.int s), some (.ref r), some (.ref td), o] ∧ M' r = some (.dK (ks2.map kvT)) ∧ M' td = some (.lst (ts2.map .int)) ∧ Agree M M' [r, td] ∧ ks2.Nodup ∧ (∀ x, x ∈ ks2 → Rch ps ns s x) ∧ s ∈ ks2 ∧ (∀ x, x ∈ ts2 → x ∈ ks2) ∧ ts2.length ≤ ks2.length ∧ x ∈ ks2 ∧
      (∀ z, z ∈ ks2 → z ∈ ts2 ∨ z = x ∨ ∀ y, y ∈ nbr ps z → y ∈ ns → y ∈ ks2) ∧ (∀ y, y ∈ (srt (nbr ps x)).take i → y ∈ ns → y ∈ ks2) ∧ 2 * (ns.length - ks2.length) + ts2.length < 2 * (ns.length - ks.length) + (ts' ++ [x]).length) ⟨o, ks, ts', rfl, ?_, mset_same, ?_, nd, hR, hsk, fun y hy => hts y (List.mem_append_left _ hy), ?_, hx, fun z hz => ?_, by simp, ?_⟩ ?_ ?_
    · rw [mset_ne (Ne.symm ntd)]; exact hk
    · exact ag.trans (Agree.mset (by simp))
    · rw [List.length_append] at hlen; omega
    · rcases cl z hz with h | h
      · rcases List.mem_append.mp h with h | h
        · exact .inl h
        · exact .inr (.inl (List.mem_singleton.mp h))
      · exact .inr (.inr h)
    · rw [List.length_append]; simp
    · rintro i e γ M2 he ⟨o, ks2, ts2, rfl, k2, t2, ag2, nd2, R2, s2, m2, l2, x2, c2, p2, w2⟩
      obtain ⟨y, hy, rfl⟩ := get_int he
      have hyn : y ∈ nbr ps x := srt_mem.mp (List.mem_of_getElem? hy)
      have i2 : InsAt M2 d ns := hi.keep (ag2 d (by simp [hd.1, hd.2]))
      have kl2 : ks2.length ≤ ns.length := nodup_len nd2 (mem_ns R2)
      have stay : (y ∈ ns → y ∈ ks2) → ∀ z, z ∈ (srt (nbr ps x)).take (i + 1) → z ∈ ns → z ∈ ks2 := fun h z hz hzn => by
        rw [take_succ_of hy] at hz
        rcases List.mem_append.mp hz with hz | hz
        · exact p2 z hz hzn
        · rw [List.mem_singleton.mp hz] at hzn ⊢; exact h hzn
      simp only [dVar, dC, dOp, dTest, dII, dIC, dFld, dFldS, dMake, dProp, dAugS, dLcM, toM, dppNil, dppCons, dMerge, dDisp, dCatL, dCatLM, dRep, dRepM, dClear, dExtend, dRg1, dRg2, dLstRg, dLstRgM, dTupRg, dChain, dEq, dIsN, dAnd, dOr, dNot, dIfE, dNext, dSeq, dBreak, dCont, dDrop, dRet, dRetN, dIfS, dNever, dFrzS, dFrz, hName, hNil, hCons, hTup, hSub, dAsg, dPar, dAug, dipI, dNil, dCons, dTup, dLst, dLstM, dIx, dSet, dCall, dwipe, dYes, jSeq, jRng1, jRng2, jStr, jZip, dCB, dLen, dList, dListM, dTuple, dII2, dAbs, dInt, dBM0, dBM, dAppend, dPop, dPopAt, dAndV, dOrV, dNotV, dNeg, dTruth, dIn, dCat, dNoPart, dPart, dSl, dSlM, dNewK, dNewT, dIsi, dIsiT, dLc, dFor, dDc, dLenSet, dLenSetG, dRev, dIsB, dCallS, dRaise, dTry, dIsE, dOwnEq, dOwnNe, dIndex, dSortD, dMin1, dMax1, dIsiC, dLc2, dFrzA, dFrzE, jKeys, jVals, jItems, dLcH, dForH, dEqM, dSortX, dCmpX, dSortSet, dSortDM, dRaiseF, dMakeS, dTryHs, dWHs, dXf, endsD, slotD, dChain3, if_true, if_false, ite_true, ite_false, Bool.false_eq_true, reduceIte, Bool.not_true, Bool.not_false, List.getElem?_cons_zero, List.getElem?_cons_succ, List.set_cons_zero, List.set_cons_succ, List.map_cons, List.map_nil, List.replicate, List.cons_append, List.nil_append, List.length_cons, List.length_nil, dstart]
      refine ⟨_, i2.has y, ?_⟩
      by_cases h1 : y ∈ ns
      · simp only [decide_eq_true h1, if_true, if_false, ite_true, ite_false, Bool.false_eq_true, reduceIte, Bool.not_true, Bool.not_false, List.getElem?_cons_zero, List.getElem?_cons_succ, List.set_cons_zero, List.set_cons_succ, List.map_cons, List.map_nil, List.replicate, List.cons_append, List.nil_append, List.length_cons, List.length_nil, dstart]
        refine ⟨_, has_kvT k2 y, ?_⟩
        by_cases h2 : y ∈ ks2
        · simp only [decide_eq_true h2, if_true, if_false, ite_true, ite_false, Bool.false_eq_true, reduceIte, Bool.not_true, Bool.not_false, List.getElem?_cons_zero, List.getElem?_cons_succ, List.set_cons_zero, List.set_cons_succ, List.map_cons, List.map_nil, List.replicate, List.cons_append, List.nil_append, List.length_cons, List.length_nil, dstart]
          exact ⟨_, ks2, ts2, rfl, k2, t2, ag2, nd2, R2, s2, m2, l2, x2, c2, stay fun _ => h2, w2⟩
        · simp only [decide_eq_false h2, if_true, if_false, ite_true, ite_false, Bool.false_eq_true, reduceIte, Bool.not_true, Bool.not_false, List.getElem?_cons_zero, List.getElem?_cons_succ, List.set_cons_zero, List.set_cons_succ, List.map_cons, List.map_nil, List.replicate, List.cons_append, List.nil_append, List.length_cons, List.length_nil, dstart]
          have nd3 : (ks2 ++ [y]).Nodup := by
            rw [List.nodup_append]
            exact ⟨nd2, by simp, fun a ha b hb => by
              rw [List.mem_singleton.mp hb]
              intro z
              exact h2 (by rw [← z]; exact ha)⟩
          have R3 : ∀ z, z ∈ ks2 ++ [y] → Rch ps ns s z := fun z hz => by
            rcases List.mem_append.mp hz with hz | hz
            · exact R2 z hz
            · rw [List.mem_singleton.mp hz]; exact (R2 x x2).step hyn h1
          have kl3 : (ks2 ++ [y]).length ≤ ns.length := nodup_len nd3 (mem_ns R3)
          rw [List.length_append, List.length_singleton] at kl3
          have st : dStore M2 r (.int y) (.bl true) = some (mset M2 r (.dK ((ks2 ++ [y]).map kvT))) := by
            simp only [dStore, k2, keyOf, Option.bind_some, List.length_map]
            rw [if_pos (len_lt (by omega)), dput_kvT h2]
          refine ⟨_, st, ?_⟩
          simp only [tyD, mset_ne ntd, t2]
          refine ⟨trivial, len_lt (by rw [List.length_map]; omega), _, ks2 ++ [y], ts2 ++ [y], rfl, ?_, ?_, ?_, nd3, R3, List.mem_append_left _ s2, fun z hz => ?_, ?_, List.mem_append_left _ x2, fun z hz => ?_, fun z hz hzn => ?_, ?_⟩
          · rw [mset_ne (Ne.symm ntd), mset_same]
          · rw [mset_same, List.map_append]; rfl
          · exact (ag2.trans (Agree.mset (by simp))).trans (Agree.mset (by simp))
          · rcases List.mem_append.mp hz with hz | hz
            · exact List.mem_append_left _ (m2 z hz)
            · exact List.mem_append_right _ hz
          · rw [List.length_append, List.length_append]; simp; omega
          · rcases List.mem_append.mp hz with hz | hz
            · rcases c2 z hz with h | h | h
              · exact .inl (List.mem_append_left _ h)
              · exact .inr (.inl h)
              · exact .inr (.inr fun u hu hun => List.mem_append_left _ (h u hu hun))
            · exact .inl (List.mem_append_right _ hz)
          · rw [take_succ_of hy] at hz
            rcases List.mem_append.mp hz with hz | hz
            · exact List.mem_append_left _ (p2 z hz hzn)
            · exact List.mem_append_right _ hz
          · rw [List.length_append, List.length_append, List.length_singleton]; omega
      · simp only [decide_eq_false h1, if_true, if_false, ite_true, ite_false, Bool.false_eq_true, reduceIte, Bool.not_true, Bool.not_false, List.getElem?_cons_zero, List.getElem?_cons_succ, List.set_cons_zero, List.set_cons_succ, List.map_cons, List.map_nil, List.replicate, List.cons_append, List.nil_append, List.length_cons, List.length_nil, dstart]
        exact ⟨_, ks2, ts2, rfl, k2, t2, ag2, nd2, R2, s2, m2, l2, x2, c2, stay fun h => absurd h h1, w2⟩
    · rintro γ M2 ⟨o, ks2, ts2, rfl, k2, t2, ag2, nd2, R2, s2, m2, l2, x2, c2, p2, w2⟩
      rw [List.length_map, List.take_length] at p2
      refine ⟨_, w2, o, ks2, ts2, rfl, k2, t2, ag2, nd2, R2, s2, m2, l2, fun z hz => ?_, rfl⟩
      rcases c2 z hz with h | h | h
      · exact .inl h
      · subst h
        exact .inr fun y hy hyn => p2 y (srt_mem.mpr hy) hyn
      · exact .inr h
theorem sc_Book___init__ : FnScope ["self", "size", "ties", "inside", "content"] ["self", "size", "ties"] (defScope s_Book___init__) := ⟨rfl, rfl, rfl, by decide +kernel, rfl, by decide +kernel, by decide +kernel⟩
def sp_Book___init__ (C_TB : Addr) : DSp := fun ds M Q _ => ∃ (p : Addr) (n : Int) (ps : List (Int × Int)), ds = [.ref p, .int n, .tup (ps.map prD)] ∧ M p = some (.ins C_TB []) ∧ BookOk n ps ∧ ∀ d M2, M d = none → BookAt C_TB M2 p n ps d → Agree M M2 [p, d] → Q .non M2
theorem c_Book___init__ {f : Addr} {C_TB : Addr} (F : DMet K "__init__" "Book.__init__" s_Book___init__ f ["self", "size", "ties"]) (B : Bn mg) (G : Gs mg) (TB : Cl_TB K mg C_TB) (c_are_rising_pairs : DCal P w K mg base CX0 5 "are_rising_pairs" sp_are_rising_pairs) (c_beside_lists : DCal P w K mg base CX0 1 "beside_lists" sp_beside_lists) (c_is_within : DCal P w K mg base CX0 2 "is_within" sp_is_within) (c_reached : DCal P w K mg base CX0 1 "reached" sp_reached) : ∃ fd, FnOk P w K mg base CX0 6 f fd ["self", "size", "ties"] (liftSp K (sp_Book___init__ C_TB)) ∧ Binds K fd ["self", "size", "ties"] [] := by
  obtain ⟨t_MOST_CONTENTS, g_MOST_CONTENTS⟩ := G.MOST_CONTENTS
  obtain ⟨t_MOST_TIES, g_MOST_TIES⟩ := G.MOST_TIES
  refine dokM F sc_Book___init__ (fun ds M Q E h => (by obtain ⟨_, h⟩ := h; first | (obtain ⟨e, _⟩ := h; subst e; rfl) | (obtain ⟨_, e, _⟩ := h; subst e; rfl) | (obtain ⟨_, _, e, _⟩ := h; subst e; rfl) | (obtain ⟨_, _, _, e, _⟩ := h; subst e; rfl) | (obtain ⟨_, _, _, _, e, _⟩ := h; subst e; rfl) | (obtain ⟨_, _, _, _, _, e, _⟩ := h; subst e; rfl) | (obtain ⟨_, _, _, _, _, _, e, _⟩ := h; subst e; rfl) | (obtain ⟨_, _, _, _, _, _, _, e, _⟩ := h; subst e; rfl) | (obtain ⟨_, _, _, _, _, _, _, _, e, _⟩ := h; subst e; rfl) | (obtain ⟨_, _, _, _, _, _, _, _, _, e, _⟩ := h; subst e; rfl))) (fun cdv A outer s H E F0 hr => ?_)
  have nd := (sc_Book___init__).nd
  refine ⟨_, _, (db_cons (ds_if (dt_not (dt_val (de_call c_is_within hr (goes0A (E := DXK.no)) (da_cons (de_var 1) (da_cons de_int (da_cons (de_globI g_MOST_CONTENTS) da_nil)))))) (db_one ds_never) db_nil)
      (db_cons (ds_if (dt_not (dt_val (de_call c_are_rising_pairs hr (goes0A (E := DXK.no)) (da_cons (de_var 2) (da_cons (de_var 1) (da_cons (de_globI g_MOST_TIES) da_nil)))))) (db_one ds_never) db_nil)
      (db_cons (ds_fld TB.cl TB.n_kept_size (de_var 0) (de_var 1))
      (db_cons (ds_fld TB.cl TB.n_kept_ties (de_var 0) (de_var 2))
      (db_cons (ds_fld TB.cl TB.n_kept_facts (de_var 0) (de_disp (dpp_cons de_str (de_call c_beside_lists hr (goes0A (E := DXK.no)) (da_cons (de_var 1) (da_cons (de_var 2) da_nil))) dpp_nil)))
      (db_cons (dx_setDc 3 (own := [("content", 4)]) rfl nd (sw_trueD rfl rfl rfl (by decide +kernel)) (di_range1 B.range (da_cons (de_var 1) da_nil)) (blkOk_by (N := ["self", "size", "ties", "inside", "content"]) (sc := defScope s_Book___init__) (by decide +kernel)) (fun _ _ _ _ _ => ⟨_, (dg_name 4 nd), (gw_name (by decide))⟩) (fun _ _ _ _ _ => ⟨_, dts_nil⟩) (fun _ _ _ _ _ => ⟨_, (de_var 4)⟩) (fun _ _ _ _ _ => ⟨_, de_bl⟩))
      (db_one (ds_if (dt_lt (de_len B.len (da_cons (de_call c_reached hr (goes0A (E := DXK.no)) (da_cons (de_ix hr (de_fld TB.cl TB.n_kept_facts (de_var 0)) de_str) (da_cons (de_var 3) (da_cons de_int da_nil)))) da_nil)) (de_var 1)) (db_one ds_never) db_nil)))))))), ?_⟩
  rintro ds M Q E ⟨p, n, ps, rfl, hp, ok, q⟩
  have n0 := ok.lo
  have n8 := ok.hi
  have l28 := ok.pr.len28 n8
  have e1 : (D.int n).within 1 8 = true := by simp only [D.within, Bool.and_eq_true, decide_eq_true_eq]; omega
  refine dSeq_then (fun γ' M' => γ' = [some (.ref p), some (.int n), some (.tup (ps.map prD)), none, none] ∧ M' = M) (fun nx hn => ?_) (fun γ1 M1 h1 => ?_)
  · simp only [dVar, dC, dOp, dTest, dII, dIC, dFld, dFldS, dMake, dProp, dAugS, dLcM, toM, dppNil, dppCons, dMerge, dDisp, dCatL, dCatLM, dRep, dRepM, dClear, dExtend, dRg1, dRg2, dLstRg, dLstRgM, dTupRg, dChain, dEq, dIsN, dAnd, dOr, dNot, dIfE, dNext, dSeq, dBreak, dCont, dDrop, dRet, dRetN, dIfS, dNever, dFrzS, dFrz, hName, hNil, hCons, hTup, hSub, dAsg, dPar, dAug, dipI, dNil, dCons, dTup, dLst, dLstM, dIx, dSet, dCall, dwipe, dYes, jSeq, jRng1, jRng2, jStr, jZip, dCB, dLen, dList, dListM, dTuple, dII2, dAbs, dInt, dBM0, dBM, dAppend, dPop, dPopAt, dAndV, dOrV, dNotV, dNeg, dTruth, dIn, dCat, dNoPart, dPart, dSl, dSlM, dNewK, dNewT, dIsi, dIsiT, dLc, dFor, dDc, dLenSet, dLenSetG, dRev, dIsB, dCallS, dRaise, dTry, dIsE, dOwnEq, dOwnNe, dIndex, dSortD, dMin1, dMax1, dIsiC, dLc2, dFrzA, dFrzE, jKeys, jVals, jItems, dLcH, dForH, dEqM, dSortX, dCmpX, dSortSet, dSortDM, dRaiseF, dMakeS, dTryHs, dWHs, dXf, endsD, slotD, dChain3, if_true, if_false, ite_true, ite_false, Bool.false_eq_true, reduceIte, Bool.not_true, Bool.not_false, List.getElem?_cons_zero, List.getElem?_cons_succ, List.set_cons_zero, List.set_cons_succ, List.map_cons, List.map_nil, List.replicate, List.cons_append, List.nil_append, List.length_cons, List.length_nil, dstart]
    refine ⟨.int n, 1, 8, rfl, rfl, ?_⟩
    rw [e1]
    simp only [if_true, if_false, ite_true, ite_false, Bool.false_eq_true, reduceIte, Bool.not_true, Bool.not_false, List.getElem?_cons_zero, List.getElem?_cons_succ, List.set_cons_zero, List.set_cons_succ, List.map_cons, List.map_nil, List.replicate, List.cons_append, List.nil_append, List.length_cons, List.length_nil, dstart]
    exact hn _ _ ⟨rfl, rfl⟩
  obtain ⟨rfl, rfl⟩ := h1
  refine dSeq_then (fun γ' M' => γ' = [some (.ref p), some (.int n), some (.tup (ps.map prD)), none, none] ∧ M' = M1) (fun nx hn => ?_) (fun γ2 M2 h2 => ?_)
  · simp only [dVar, dC, dOp, dTest, dII, dIC, dFld, dFldS, dMake, dProp, dAugS, dLcM, toM, dppNil, dppCons, dMerge, dDisp, dCatL, dCatLM, dRep, dRepM, dClear, dExtend, dRg1, dRg2, dLstRg, dLstRgM, dTupRg, dChain, dEq, dIsN, dAnd, dOr, dNot, dIfE, dNext, dSeq, dBreak, dCont, dDrop, dRet, dRetN, dIfS, dNever, dFrzS, dFrz, hName, hNil, hCons, hTup, hSub, dAsg, dPar, dAug, dipI, dNil, dCons, dTup, dLst, dLstM, dIx, dSet, dCall, dwipe, dYes, jSeq, jRng1, jRng2, jStr, jZip, dCB, dLen, dList, dListM, dTuple, dII2, dAbs, dInt, dBM0, dBM, dAppend, dPop, dPopAt, dAndV, dOrV, dNotV, dNeg, dTruth, dIn, dCat, dNoPart, dPart, dSl, dSlM, dNewK, dNewT, dIsi, dIsiT, dLc, dFor, dDc, dLenSet, dLenSetG, dRev, dIsB, dCallS, dRaise, dTry, dIsE, dOwnEq, dOwnNe, dIndex, dSortD, dMin1, dMax1, dIsiC, dLc2, dFrzA, dFrzE, jKeys, jVals, jItems, dLcH, dForH, dEqM, dSortX, dCmpX, dSortSet, dSortDM, dRaiseF, dMakeS, dTryHs, dWHs, dXf, endsD, slotD, dChain3, if_true, if_false, ite_true, ite_false, Bool.false_eq_true, reduceIte, Bool.not_true, Bool.not_false, List.getElem?_cons_zero, List.getElem?_cons_succ, List.set_cons_zero, List.set_cons_succ, List.map_cons, List.map_nil, List.replicate, List.cons_append, List.nil_append, List.length_cons, List.length_nil, dstart]
    refine ⟨.tup (ps.map prD), n, 28, rfl, .prs (by omega), fun bb hbb => ?_⟩
    obtain rfl : bb = true := hbb.mpr ⟨ps, rfl, by omega, ok.pr⟩
    simp only [if_true, if_false, ite_true, ite_false, Bool.false_eq_true, reduceIte, Bool.not_true, Bool.not_false, List.getElem?_cons_zero, List.getElem?_cons_succ, List.set_cons_zero, List.set_cons_succ, List.map_cons, List.map_nil, List.replicate, List.cons_append, List.nil_append, List.length_cons, List.length_nil, dstart]
    exact hn _ _ ⟨rfl, rfl⟩
  obtain ⟨rfl, rfl⟩ := h2
  simp only [dVar, dC, dOp, dTest, dII, dIC, dFld, dFldS, dMake, dProp, dAugS, dLcM, toM, dppNil, dppCons, dMerge, dDisp, dCatL, dCatLM, dRep, dRepM, dClear, dExtend, dRg1, dRg2, dLstRg, dLstRgM, dTupRg, dChain, dEq, dIsN, dAnd, dOr, dNot, dIfE, dNext, dSeq, dBreak, dCont, dDrop, dRet, dRetN, dIfS, dNever, dFrzS, dFrz, hName, hNil, hCons, hTup, hSub, dAsg, dPar, dAug, dipI, dNil, dCons, dTup, dLst, dLstM, dIx, dSet, dCall, dwipe, dYes, jSeq, jRng1, jRng2, jStr, jZip, dCB, dLen, dList, dListM, dTuple, dII2, dAbs, dInt, dBM0, dBM, dAppend, dPop, dPopAt, dAndV, dOrV, dNotV, dNeg, dTruth, dIn, dCat, dNoPart, dPart, dSl, dSlM, dNewK, dNewT, dIsi, dIsiT, dLc, dFor, dDc, dLenSet, dLenSetG, dRev, dIsB, dCallS, dRaise, dTry, dIsE, dOwnEq, dOwnNe, dIndex, dSortD, dMin1, dMax1, dIsiC, dLc2, dFrzA, dFrzE, jKeys, jVals, jItems, dLcH, dForH, dEqM, dSortX, dCmpX, dSortSet, dSortDM, dRaiseF, dMakeS, dTryHs, dWHs, dXf, endsD, slotD, dChain3, if_true, if_false, ite_true, ite_false, Bool.false_eq_true, reduceIte, Bool.not_true, Bool.not_false, List.getElem?_cons_zero, List.getElem?_cons_succ, List.set_cons_zero, List.set_cons_succ, List.map_cons, List.map_nil, List.replicate, List.cons_append, List.nil_append, List.length_cons, List.length_nil, dstart, hp, mset_same, mset_mset, putD, bne]
  refine ⟨trivial, by decide, trivial, by decide, fun f hf => ⟨_, rfl, n, ps, rfl, by omega, by omega, by omega, ok.pr, fun hf2 => ⟨by decide, ?_⟩⟩⟩
  have fp : f ≠ p := fun e => by rw [e, mset_same] at hf; cases hf
  have hf0 : M2 f = none := by rw [mset_ne fp] at hf; exact hf
  have e2 : (dput [] (.inr "tied") (.lst (rowsD n ps)) : List (Key × D)) = [(.inr "tied", .lst (rowsD n ps))] := rfl
  simp only [e2, mset_ne (Ne.symm fp), mset_same, if_true, if_false, ite_true, ite_false, Bool.false_eq_true, reduceIte, Bool.not_true, Bool.not_false, List.getElem?_cons_zero, List.getElem?_cons_succ, List.set_cons_zero, List.set_cons_succ, List.map_cons, List.map_nil, List.replicate, List.cons_append, List.nil_append, List.length_cons, List.length_nil, dstart, putD, bne]
  rw [rgD_all]
  refine ⟨trivial, by decide, by omega, by rw [List.length_map, allOf_len]; exact len_ok (by omega), ?_⟩
  have hb : BookAt C_TB (mset (mset (mset M2 p (.ins C_TB [("kept_size", .int n), ("kept_ties", .tup (ps.map prD))])) f (.dK [(.inr "tied", .lst (rowsD n ps))])) p (.ins C_TB (bookF n ps f))) p n ps f := ⟨mset_same, by rw [mset_ne fp, mset_same], ok⟩
  have ag : Agree M2 (mset (mset (mset M2 p (.ins C_TB [("kept_size", .int n), ("kept_ties", .tup (ps.map prD))])) f (.dK [(.inr "tied", .lst (rowsD n ps))])) p (.ins C_TB (bookF n ps f))) [p, f] := ((Agree.mset (by simp)).trans (Agree.mset (by simp))).trans (Agree.mset (by simp))
  change dDcI _ _ _ _ _ _ _ (mset (mset (mset M2 p (.ins C_TB [("kept_size", .int n), ("kept_ties", .tup (ps.map prD))])) f (.dK [(.inr "tied", .lst (rowsD n ps))])) p (.ins C_TB (bookF n ps f))) _
  revert hb ag
  generalize mset (mset (mset M2 p (.ins C_TB [("kept_size", .int n), ("kept_ties", .tup (ps.map prD))])) f (.dK [(.inr "tied", .lst (rowsD n ps))])) p (.ins C_TB (bookF n ps f)) = Ma
  intro B ag
  refine dDcI_map (fun d => match d with | .int i => .inl i | _ => .inl 0) (fun _ => .bl true) (fun i e he Q2 q2 => ?_) fun i hi => ?_
  · obtain ⟨y, hy, rfl⟩ := get_int he
    simp only [dVar, dC, dOp, dTest, dII, dIC, dFld, dFldS, dMake, dProp, dAugS, dLcM, toM, dppNil, dppCons, dMerge, dDisp, dCatL, dCatLM, dRep, dRepM, dClear, dExtend, dRg1, dRg2, dLstRg, dLstRgM, dTupRg, dChain, dEq, dIsN, dAnd, dOr, dNot, dIfE, dNext, dSeq, dBreak, dCont, dDrop, dRet, dRetN, dIfS, dNever, dFrzS, dFrz, hName, hNil, hCons, hTup, hSub, dAsg, dPar, dAug, dipI, dNil, dCons, dTup, dLst, dLstM, dIx, dSet, dCall, dwipe, dYes, jSeq, jRng1, jRng2, jStr, jZip, dCB, dLen, dList, dListM, dTuple, dII2, dAbs, dInt, dBM0, dBM, dAppend, dPop, dPopAt, dAndV, dOrV, dNotV, dNeg, dTruth, dIn, dCat, dNoPart, dPart, dSl, dSlM, dNewK, dNewT, dIsi, dIsiT, dLc, dFor, dDc, dLenSet, dLenSetG, dRev, dIsB, dCallS, dRaise, dTry, dIsE, dOwnEq, dOwnNe, dIndex, dSortD, dMin1, dMax1, dIsiC, dLc2, dFrzA, dFrzE, jKeys, jVals, jItems, dLcH, dForH, dEqM, dSortX, dCmpX, dSortSet, dSortDM, dRaiseF, dMakeS, dTryHs, dWHs, dXf, endsD, slotD, dChain3, if_true, if_false, ite_true, ite_false, Bool.false_eq_true, reduceIte, Bool.not_true, Bool.not_false, List.getElem?_cons_zero, List.getElem?_cons_succ, List.set_cons_zero, List.set_cons_succ, List.map_cons, List.map_nil, List.replicate, List.cons_append, List.nil_append, List.length_cons, List.length_nil, dstart]
    exact ⟨_, rfl, q2⟩
  have e := fold_kvT (allOf n) [] (by simpa using allOf_nodup n)
  rw [List.nil_append] at e
  have e2 : (List.map kvT ([] : List Int)) = ([] : List (Key × D)) := rfl
  rw [e2] at e
  rw [e]
  have ip : i ≠ p := fun e => by (rw [e, B.ob] at hi; cases hi)
  have jf : i ≠ f := fun e => by (rw [e, B.fc] at hi; cases hi)
  have B2 : BookAt C_TB (mset Ma i (.dK ((allOf n).map kvT))) p n ps f := B.keep (S := [i]) (Agree.mset (by simp)) (by simpa using Ne.symm ip) (by simpa using Ne.symm jf)
  simp only [B2.ob]
  have e0 : (0 : Int) ∈ allOf n := allOf_mem.mpr ⟨by omega, by omega⟩
  refine ⟨trivial, .ref f, fb_facts n ps f, .lst (rowsD n ps), by rw [ix_dK B2.fc, dval_cons, if_pos rfl], n, ps, i, allOf n, 0, rfl, ok.pr, .of mset_same, by rw [allOf_len]; omega, fun x hx => allOf_mem.mp hx, e0, fun r ks hr nd mem => ⟨ks.length, by simp only [lenV, mset_same, List.length_map], ?_⟩⟩
  have kl : ks.length = n.toNat := by
    have h1 := nodup_len nd fun x hx => ((mem x).mp hx).mem e0
    have h2 := nodup_len (allOf_nodup n) fun x hx => (mem x).mpr (ok.hang 0 e0 x hx)
    rw [allOf_len] at h1 h2
    omega
  rw [show decide ((ks.length : Int) < n) = false from decide_eq_false (by omega)]
  simp only [if_true, if_false, ite_true, ite_false, Bool.false_eq_true, reduceIte, Bool.not_true, Bool.not_false, List.getElem?_cons_zero, List.getElem?_cons_succ, List.set_cons_zero, List.set_cons_succ, List.map_cons, List.map_nil, List.replicate, List.cons_append, List.nil_append, List.length_cons, List.length_nil, dstart]
  have rp : r ≠ p := fun e => by (rw [e, B2.ob] at hr; cases hr)
  have rf : r ≠ f := fun e => by (rw [e, B2.fc] at hr; cases hr)
  have ex : Ext M2 (mset (mset Ma i (.dK ((allOf n).map kvT))) r (.dK (ks.map kvT))) [p, f] := by
    have x1 := (ag.ext).mset (o := .dK ((allOf n).map kvT)) (ag.ext.fresh (by simp [ip, jf]) hi)
    exact x1.mset (x1.fresh (by simp [rp, rf]) hr)
  obtain ⟨M3, le, ag3, ep⟩ := ex.cutL
  have B3 : BookAt C_TB (mset (mset Ma i (.dK ((allOf n).map kvT))) r (.dK (ks.map kvT))) p n ps f := B2.keep (S := [r]) (Agree.mset (by simp)) (by simpa using Ne.symm rp) (by simpa using Ne.symm rf)
  exact fin_less le (q f M3 hf0 ⟨(ep p (by simp)).trans B3.ob, (ep f (by simp)).trans B3.fc, ok⟩ ag3)
theorem sc_drawn_together : FnScope ["book", "tie", "less", "gone", "names", "found", "content", "one", "other"] ["book", "tie"] (defScope s_drawn_together) := ⟨rfl, rfl, rfl, by decide +kernel, rfl, by decide +kernel, by decide +kernel⟩
def sp_drawn_together (C_TB E_NoTie : Addr) : DSp := fun ds M Q E => ∃ b n ps d th, ds = [.ref b, th] ∧ BookAt C_TB M b n ps d ∧ Sh1 M th ∧ (∀ p ∈ ps, th = prD p → ∀ qs, qs.Pairwise prLt → (∀ r, r ∈ qs ↔ DrawnM ps p.1 p.2 r) → ∀ b2 d2 M2, M b2 = none → M d2 = none → BookAt C_TB M2 b2 (n - 1) qs d2 → Ext M M2 [] → Q (.ref b2) M2) ∧ ((¬ ∃ p ∈ ps, th = prD p) → E (.ref E_NoTie) none M)
theorem c_drawn_together {C_TB E_NoTie : Addr} (F : DFun K mg "drawn_together" s_drawn_together ["book", "tie"]) (B : Bn mg) (G : Gs mg) (TB : Cl_TB K mg C_TB) (c_check_tie : DCal P w K mg base (L2.CX P w) 5 "check_tie" (sp_check_tie C_TB E_NoTie)) (c_tie_of : DCal P w K mg base CX0 1 "tie_of" sp_tie_of) (MK_Book : DMk P w K mg base CX0 6 "Book" C_TB (sp_Book___init__ C_TB)) : DCal P w K mg base (L2.CX P w) 8 "drawn_together" (sp_drawn_together C_TB E_NoTie) := by
  refine dokX F sc_drawn_together (fun ds M Q E h => (by obtain ⟨_, h⟩ := h; first | (obtain ⟨e, _⟩ := h; subst e; rfl) | (obtain ⟨_, e, _⟩ := h; subst e; rfl) | (obtain ⟨_, _, e, _⟩ := h; subst e; rfl) | (obtain ⟨_, _, _, e, _⟩ := h; subst e; rfl) | (obtain ⟨_, _, _, _, e, _⟩ := h; subst e; rfl) | (obtain ⟨_, _, _, _, _, e, _⟩ := h; subst e; rfl) | (obtain ⟨_, _, _, _, _, _, e, _⟩ := h; subst e; rfl) | (obtain ⟨_, _, _, _, _, _, _, e, _⟩ := h; subst e; rfl) | (obtain ⟨_, _, _, _, _, _, _, _, e, _⟩ := h; subst e; rfl) | (obtain ⟨_, _, _, _, _, _, _, _, _, e, _⟩ := h; subst e; rfl))) (fun f cdv A outer s H E F0 E1 hr hE => ?_)
  have nd := (sc_drawn_together).nd
  have tk : L2.Takes (cxOf (L2.CX P w) P w K mg base ["book", "tie", "less", "gone", "names", "found", "content", "one", "other"] "drawn_together" (defScope s_drawn_together) f cdv A outer s H E) (lXW K F0 fun _ => E1) := takesX (L2.takes_of rfl rfl rfl rfl) hE
  refine ⟨_, _, (db_cons (ds_expr (de_callS c_check_tie hr tk (da_cons (de_var 0) (da_cons (de_var 1) da_nil))))
      (db_cons (ds_asg (de_var 1) (dg_tup (n := 2) rfl (dgs_cons (dg_name 2 nd) (dgs_cons (dg_name 3 nd) dgs_nil))))
      (db_cons (ds_set 4 nd (dx_lc (own := [("content", 6)]) rfl nd (di_range1 B.range (da_cons (de_fld TB.cl TB.n_kept_size (de_var 0)) da_nil)) (blkOk_by (N := ["book", "tie", "less", "gone", "names", "found", "content", "one", "other"]) (sc := defScope s_drawn_together) (by decide +kernel)) (fun _ _ _ _ _ => ⟨_, (dg_name 6 nd), (gw_name (by decide))⟩) (fun _ _ _ _ _ => ⟨_, dts_nil⟩) (fun _ _ _ _ _ => ⟨_, (de_ifExp (dt_eq hr (de_var 6) (de_var 3)) (de_var 2) (de_sub (de_var 6) (de_bty call_int1 lc_int B.int (da_cons (de_gt (de_var 6) (de_var 3)) da_nil))))⟩)))
      (db_cons (dx_setDcT 5 hr (own := [("one", 7), ("other", 8)]) rfl nd (sw_trueD rfl rfl rfl (by decide +kernel)) (di_seq (de_fld TB.cl TB.n_kept_ties (de_var 0))) (blkOk_by (N := ["book", "tie", "less", "gone", "names", "found", "content", "one", "other"]) (sc := defScope s_drawn_together) (by decide +kernel)) (fun _ _ _ _ _ => ⟨_, (dg_tup (n := 2) rfl (dgs_cons (dg_name 7 nd) (dgs_cons (dg_name 8 nd) dgs_nil))), (gw_tup (gws_cons gm_name (gm_cons gm_name gm_nil) (gw_name (by decide)) (gws_cons gm_name gm_nil (gw_name (by decide)) gws_nil)))⟩) (fun _ _ _ _ _ => ⟨_, (dts_one (dt_ne hr (de_ix hr (de_var 4) (de_var 7)) (de_ix hr (de_var 4) (de_var 8))))⟩) (fun _ _ _ _ _ => ⟨_, (de_call c_tie_of hr (goes0A (E := DXK.no)) (da_cons (de_ix hr (de_var 4) (de_var 7)) (da_cons (de_ix hr (de_var 4) (de_var 8)) da_nil)))⟩) (fun _ _ _ _ _ => ⟨_, de_bl⟩))
      (db_one (ds_ret (de_make MK_Book hr (goes0A (E := DXK.no)) (da_cons (de_sub (de_fld TB.cl TB.n_kept_size (de_var 0)) de_int) (da_cons (de_bty call_tuple_of lc_tuple B.tuple (da_cons (de_sortP B.sorted (da_cons (de_bty (call_listA rfl) lc_list B.list (da_cons (de_var 5) da_nil)) da_nil)) da_nil)) da_nil))))))))), ?_⟩
  rintro ds M Q ⟨b, n, ps, d, th, rfl, W, S, q1, q2⟩
  simp only [dVar, dC, dOp, dTest, dII, dIC, dFld, dFldS, dMake, dProp, dAugS, dLcM, toM, dppNil, dppCons, dMerge, dDisp, dCatL, dCatLM, dRep, dRepM, dClear, dExtend, dRg1, dRg2, dLstRg, dLstRgM, dTupRg, dChain, dEq, dIsN, dAnd, dOr, dNot, dIfE, dNext, dSeq, dBreak, dCont, dDrop, dRet, dRetN, dIfS, dNever, dFrzS, dFrz, hName, hNil, hCons, hTup, hSub, dAsg, dPar, dAug, dipI, dNil, dCons, dTup, dLst, dLstM, dIx, dSet, dCall, dwipe, dYes, jSeq, jRng1, jRng2, jStr, jZip, dCB, dLen, dList, dListM, dTuple, dII2, dAbs, dInt, dBM0, dBM, dAppend, dPop, dPopAt, dAndV, dOrV, dNotV, dNeg, dTruth, dIn, dCat, dNoPart, dPart, dSl, dSlM, dNewK, dNewT, dIsi, dIsiT, dLc, dFor, dDc, dLenSet, dLenSetG, dRev, dIsB, dCallS, dRaise, dTry, dIsE, dOwnEq, dOwnNe, dIndex, dSortD, dMin1, dMax1, dIsiC, dLc2, dFrzA, dFrzE, jKeys, jVals, jItems, dLcH, dForH, dEqM, dSortX, dCmpX, dSortSet, dSortDM, dRaiseF, dMakeS, dTryHs, dWHs, dXf, endsD, slotD, dChain3, if_true, if_false, ite_true, ite_false, Bool.false_eq_true, reduceIte, Bool.not_true, Bool.not_false, List.getElem?_cons_zero, List.getElem?_cons_succ, List.set_cons_zero, List.set_cons_succ, List.map_cons, List.map_nil, List.replicate, List.cons_append, List.nil_append, List.length_cons, List.length_nil, dstart]
  refine ⟨b, n, ps, d, th, rfl, W, S, fun ⟨⟨a, g⟩, hp, e⟩ => ?_, q2⟩
  subst e
  have l28 := W.ok.pr.len28 W.ok.hi
  have hag := W.ok.pr.ok _ hp
  unfold prOk at hag
  simp only at hag
  have n8 := W.ok.hi
  simp only [W.ob, prD]
  have en : (rgD 0 n.toNat).map (fun e : D => match e with | .int x => .int (foldT a g x) | _ => e) = (allOf n).map (fun x => D.int (foldT a g x)) := by rw [rgD_all, List.map_map]; rfl
  have nm : ∀ {u : Int} (M' : Mp), 0 ≤ u → u < n → dIxV M' (.lst ((allOf n).map fun x => D.int (foldT a g x))) (.int u) = some (.int (foldT a g u)) := fun {u} M' h0 h1 =>
    ixL_at (k := u.toNat) (by omega) (by rw [List.getElem?_map, allOf_get h0 h1]; rfl)
  refine ⟨rfl, trivial, _, fb_size n ps d, ⟨by omega, by omega⟩, by rw [rgD_len]; exact len_ok (by omega), dLcI_map (fun e : D => match e with | .int x => .int (foldT a g x) | _ => e) (fun j e he Q2 q => ?_) ?_⟩
  · obtain ⟨hj, rfl⟩ := rgD_get he
    simp only [dVar, dC, dOp, dTest, dII, dIC, dFld, dFldS, dMake, dProp, dAugS, dLcM, toM, dppNil, dppCons, dMerge, dDisp, dCatL, dCatLM, dRep, dRepM, dClear, dExtend, dRg1, dRg2, dLstRg, dLstRgM, dTupRg, dChain, dEq, dIsN, dAnd, dOr, dNot, dIfE, dNext, dSeq, dBreak, dCont, dDrop, dRet, dRetN, dIfS, dNever, dFrzS, dFrz, hName, hNil, hCons, hTup, hSub, dAsg, dPar, dAug, dipI, dNil, dCons, dTup, dLst, dLstM, dIx, dSet, dCall, dwipe, dYes, jSeq, jRng1, jRng2, jStr, jZip, dCB, dLen, dList, dListM, dTuple, dII2, dAbs, dInt, dBM0, dBM, dAppend, dPop, dPopAt, dAndV, dOrV, dNotV, dNeg, dTruth, dIn, dCat, dNoPart, dPart, dSl, dSlM, dNewK, dNewT, dIsi, dIsiT, dLc, dFor, dDc, dLenSet, dLenSetG, dRev, dIsB, dCallS, dRaise, dTry, dIsE, dOwnEq, dOwnNe, dIndex, dSortD, dMin1, dMax1, dIsiC, dLc2, dFrzA, dFrzE, jKeys, jVals, jItems, dLcH, dForH, dEqM, dSortX, dCmpX, dSortSet, dSortDM, dRaiseF, dMakeS, dTryHs, dWHs, dXf, endsD, slotD, dChain3, if_true, if_false, ite_true, ite_false, Bool.false_eq_true, reduceIte, Bool.not_true, Bool.not_false, List.getElem?_cons_zero, List.getElem?_cons_succ, List.set_cons_zero, List.set_cons_succ, List.map_cons, List.map_nil, List.replicate, List.cons_append, List.nil_append, List.length_cons, List.length_nil, dstart]
    refine ⟨rfl, rfl, ?_⟩
    rw [D.eq_int]
    simp only at q
    unfold foldT at q
    by_cases e1 : (0 : Int) + (j : Int) = g
    · rw [if_pos e1] at q
      rw [if_pos (beq_iff_eq.mpr e1)]
      exact q
    · rw [if_neg e1] at q
      rw [if_neg (fun z => e1 (beq_iff_eq.mp z))]
      by_cases e2 : g < (0 : Int) + (j : Int)
      · rw [if_pos e2] at q
        rw [if_pos (decide_eq_true e2)]
        exact q
      · rw [if_neg e2] at q
        rw [if_neg (fun z => e2 (of_decide_eq_true z)), Int.sub_zero]
        exact q
  rw [en]
  simp only [dDcT, dVar, dC, dOp, dTest, dII, dIC, dFld, dFldS, dMake, dProp, dAugS, dLcM, toM, dppNil, dppCons, dMerge, dDisp, dCatL, dCatLM, dRep, dRepM, dClear, dExtend, dRg1, dRg2, dLstRg, dLstRgM, dTupRg, dChain, dEq, dIsN, dAnd, dOr, dNot, dIfE, dNext, dSeq, dBreak, dCont, dDrop, dRet, dRetN, dIfS, dNever, dFrzS, dFrz, hName, hNil, hCons, hTup, hSub, dAsg, dPar, dAug, dipI, dNil, dCons, dTup, dLst, dLstM, dIx, dSet, dCall, dwipe, dYes, jSeq, jRng1, jRng2, jStr, jZip, dCB, dLen, dList, dListM, dTuple, dII2, dAbs, dInt, dBM0, dBM, dAppend, dPop, dPopAt, dAndV, dOrV, dNotV, dNeg, dTruth, dIn, dCat, dNoPart, dPart, dSl, dSlM, dNewK, dNewT, dIsi, dIsiT, dLc, dFor, dDc, dLenSet, dLenSetG, dRev, dIsB, dCallS, dRaise, dTry, dIsE, dOwnEq, dOwnNe, dIndex, dSortD, dMin1, dMax1, dIsiC, dLc2, dFrzA, dFrzE, jKeys, jVals, jItems, dLcH, dForH, dEqM, dSortX, dCmpX, dSortSet, dSortDM, dRaiseF, dMakeS, dTryHs, dWHs, dXf, endsD, slotD, dChain3, if_true, if_false, ite_true, ite_false, Bool.false_eq_true, reduceIte, Bool.not_true, Bool.not_false, List.getElem?_cons_zero, List.getElem?_cons_succ, List.set_cons_zero, List.set_cons_succ, List.map_cons, List.map_nil, List.replicate, List.cons_append, List.nil_append, List.length_cons, List.length_nil, dstart, W.ob]
  refine ⟨trivial, _, fb_ties n ps d, ?_⟩
  show (ps.map prD).length ≤ sizeLine ∧ _
  refine ⟨by rw [List.length_map]; exact len_ok (by omega), fun i acc M' => M' = M ∧ ∃ ks : List (Int × Int), acc = ks.map kvP ∧ ks.Nodup ∧ (∀ r, r ∈ ks ↔ DrawnM (ps.take i) a g r) ∧ ks.length ≤ i, ⟨rfl, [], rfl, List.nodup_nil, fun r => ⟨(fun h => by cases h), fun ⟨p, hp, _⟩ => by rw [List.take_zero] at hp; cases hp⟩, Nat.le_refl _⟩, ?_, ?_⟩
  · rintro i e acc M' he ⟨rfl, ks, rfl, h2, h3, h4⟩
    obtain ⟨⟨u, v⟩, huv, rfl⟩ := get_pr he
    have ho := W.ok.pr.ok _ (List.mem_of_getElem? huv)
    unfold prOk at ho
    simp only at ho
    simp only [dVar, dC, dOp, dTest, dII, dIC, dFld, dFldS, dMake, dProp, dAugS, dLcM, toM, dppNil, dppCons, dMerge, dDisp, dCatL, dCatLM, dRep, dRepM, dClear, dExtend, dRg1, dRg2, dLstRg, dLstRgM, dTupRg, dChain, dEq, dIsN, dAnd, dOr, dNot, dIfE, dNext, dSeq, dBreak, dCont, dDrop, dRet, dRetN, dIfS, dNever, dFrzS, dFrz, hName, hNil, hCons, hTup, hSub, dAsg, dPar, dAug, dipI, dNil, dCons, dTup, dLst, dLstM, dIx, dSet, dCall, dwipe, dYes, jSeq, jRng1, jRng2, jStr, jZip, dCB, dLen, dList, dListM, dTuple, dII2, dAbs, dInt, dBM0, dBM, dAppend, dPop, dPopAt, dAndV, dOrV, dNotV, dNeg, dTruth, dIn, dCat, dNoPart, dPart, dSl, dSlM, dNewK, dNewT, dIsi, dIsiT, dLc, dFor, dDc, dLenSet, dLenSetG, dRev, dIsB, dCallS, dRaise, dTry, dIsE, dOwnEq, dOwnNe, dIndex, dSortD, dMin1, dMax1, dIsiC, dLc2, dFrzA, dFrzE, jKeys, jVals, jItems, dLcH, dForH, dEqM, dSortX, dCmpX, dSortSet, dSortDM, dRaiseF, dMakeS, dTryHs, dWHs, dXf, endsD, slotD, dChain3, if_true, if_false, ite_true, ite_false, Bool.false_eq_true, reduceIte, Bool.not_true, Bool.not_false, List.getElem?_cons_zero, List.getElem?_cons_succ, List.set_cons_zero, List.set_cons_succ, List.map_cons, List.map_nil, List.replicate, List.cons_append, List.nil_append, List.length_cons, List.length_nil, dstart, prD]
    refine ⟨trivial, _, nm M' ho.1 (by omega), _, nm M' (by omega) ho.2.2, rfl, rfl, ?_⟩
    rw [D.eq_int]
    by_cases e : foldT a g u = foldT a g v
    · rw [beq_iff_eq.mpr e]
      simp only [if_true, if_false, ite_true, ite_false, Bool.false_eq_true, reduceIte, Bool.not_true, Bool.not_false, List.getElem?_cons_zero, List.getElem?_cons_succ, List.set_cons_zero, List.set_cons_succ, List.map_cons, List.map_nil, List.replicate, List.cons_append, List.nil_append, List.length_cons, List.length_nil, dstart]
      exact ⟨trivial, ks, rfl, h2, fun r => by
        rw [take_succ_of huv, drawn_snoc, h3]
        exact ⟨.inl, fun h => h.elim (fun h => h) fun h => absurd e h.1⟩, by omega⟩
    · rw [beq_eq_false_iff_ne.mpr e]
      simp only [if_true, if_false, ite_true, ite_false, Bool.false_eq_true, reduceIte, Bool.not_true, Bool.not_false, List.getElem?_cons_zero, List.getElem?_cons_succ, List.set_cons_zero, List.set_cons_succ, List.map_cons, List.map_nil, List.replicate, List.cons_append, List.nil_append, List.length_cons, List.length_nil, dstart]
      refine ⟨_, nm M' ho.1 (by omega), _, nm M' (by omega) ho.2.2, _, _, rfl, _, [.inl (tieP (foldT a g u) (foldT a g v)).1, .inl (tieP (foldT a g u) (foldT a g v)).2], rfl, rfl, ⟨rfl, _, dput_kvP, ?_, fun r => ?_, ?_⟩⟩
      · by_cases hk : tieP (foldT a g u) (foldT a g v) ∈ ks
        · rw [if_pos hk]; exact h2
        · rw [if_neg hk, List.nodup_append]
          exact ⟨h2, by simp, fun a ha b hb => by
            rw [List.mem_singleton.mp hb]
            exact fun z => hk (z ▸ ha)⟩
      · rw [take_succ_of huv, drawn_snoc, ← h3]
        by_cases hk : tieP (foldT a g u) (foldT a g v) ∈ ks
        · rw [if_pos hk]
          exact ⟨.inl, fun h => h.elim (fun h => h) fun h => by rw [h.2]; exact hk⟩
        · rw [if_neg hk, List.mem_append, List.mem_singleton]
          exact ⟨fun h => h.imp (fun h => h) fun h => ⟨e, h⟩, fun h => h.imp (fun h => h) fun h => h.2⟩
      · by_cases hk : tieP (foldT a g u) (foldT a g v) ∈ ks
        · rw [if_pos hk]; omega
        · rw [if_neg hk, List.length_append]; simp; omega
  · rintro acc M' ⟨rfl, ks, rfl, h2, h3, h4⟩ p hp'
    have nb : b ≠ p := fun e => by have := W.ob; rw [e, hp'] at this; cases this
    simp only [mset_ne nb, W.ob, if_true, if_false, ite_true, ite_false, Bool.false_eq_true, reduceIte, Bool.not_true, Bool.not_false, List.getElem?_cons_zero, List.getElem?_cons_succ, List.set_cons_zero, List.set_cons_succ, List.map_cons, List.map_nil, List.replicate, List.cons_append, List.nil_append, List.length_cons, List.length_nil, dstart]
    refine ⟨trivial, _, fb_size n ps d, ?_⟩
    refine ⟨_, by simp only [itemsV, mset_same]; rfl, ks, .inl (by rw [items_kvP]), fun qs hq hs => ?_⟩
    have pw := srtd_lt hs (hq.nodup_iff.mpr h2)
    have mem : ∀ r, r ∈ qs ↔ DrawnM ps a g r := fun r => hq.mem_iff.trans ((h3 r).trans (by rw [List.length_map, List.take_length]))
    have ok := drawn_ok W.ok hp pw mem
    refine fun b2 hb2 => ⟨b2, n - 1, qs, rfl, mset_same, ok, fun d2 M2 hd2 B ag => ⟨rfl, ?_⟩⟩
    have ex0 : Ext M' (mset M' p (.dT (ks.map kvP))) [] := (Ext.refl M' []).mset hp'
    have ex := ex0.trans (Agree.newM hb2 hd2 ag)
    have nd : d2 ≠ b2 := fun e => by rw [e, mset_same] at hd2; cases hd2
    exact fin_self (q1 _ hp rfl qs pw mem b2 d2 M2 (ex0.fresh (by simp) hb2) (ex0.fresh (by simp) (by rw [mset_ne nd] at hd2; exact hd2)) B ex)
theorem sc__law_refused : FnScope ["_law_book_here", "_law_thing", "_law_found", "e"] ["_law_book_here", "_law_thing"] (defScope s__law_refused) := ⟨rfl, rfl, rfl, by decide +kernel, rfl, by decide +kernel, by decide +kernel⟩
def sp__law_refused (C_TB : Addr) : DSp := fun ds M Q _ => ∃ b n ps d th, ds = [.ref b, th] ∧ BookAt C_TB M b n ps d ∧ Sh1 M th ∧ (¬ ∃ p ∈ ps, th = prD p) ∧ Q (.bl true) M
theorem c__law_refused {C_TB E_NoTie E_LandsError E_NoContent E_NoNumber : Addr} (F : DFun K mg "_law_refused" s__law_refused ["_law_book_here", "_law_thing"]) (B : Bn mg) (G : Gs mg) (c_drawn_together : DCal P w K mg base (L2.CX P w) 8 "drawn_together" (sp_drawn_together C_TB E_NoTie)) (EX_LandsError : mg "LandsError" = some (.ref E_LandsError)) (EX_NoTie : mg "NoTie" = some (.ref E_NoTie)) (XS : Exs K E_LandsError E_NoContent E_NoNumber E_NoTie) : DCal P w K mg base CX0 9 "_law_refused" (sp__law_refused C_TB) := by
  refine dok F sc__law_refused (fun ds M Q E h => (by obtain ⟨_, h⟩ := h; first | (obtain ⟨e, _⟩ := h; subst e; rfl) | (obtain ⟨_, e, _⟩ := h; subst e; rfl) | (obtain ⟨_, _, e, _⟩ := h; subst e; rfl) | (obtain ⟨_, _, _, e, _⟩ := h; subst e; rfl) | (obtain ⟨_, _, _, _, e, _⟩ := h; subst e; rfl) | (obtain ⟨_, _, _, _, _, e, _⟩ := h; subst e; rfl) | (obtain ⟨_, _, _, _, _, _, e, _⟩ := h; subst e; rfl) | (obtain ⟨_, _, _, _, _, _, _, e, _⟩ := h; subst e; rfl) | (obtain ⟨_, _, _, _, _, _, _, _, e, _⟩ := h; subst e; rfl) | (obtain ⟨_, _, _, _, _, _, _, _, _, e, _⟩ := h; subst e; rfl))) (fun f cdv A outer s H E F0 hr => ?_)
  have nd := (sc__law_refused).nd
  refine ⟨_, _, (db_cons (ds_set 2 nd de_bl)
      (db_cons (ds_tryAs 3 nd ⟨rfl, by decide, Or.inl EX_LandsError⟩ takesN (fun F1 E pn xe tk => ⟨_, (db_one (ds_expr (de_callS c_drawn_together hr tk (da_cons (de_var 0) (da_cons (de_var 1) da_nil)))))⟩) (fun a Dc oe pn hx hz hf => ⟨_, (db_one (ds_set 2 nd (de_isE hx hz hf B.isinstance (da_cons (de_var 3) (da_cons (de_cls EX_NoTie) da_nil)))))⟩))
      (db_one (ds_ret (de_var 2))))), ?_⟩
  rintro ds M Q E ⟨b, n, ps, d, th, rfl, W, S, nt, q⟩
  simp only [dVar, dC, dOp, dTest, dII, dIC, dFld, dFldS, dMake, dProp, dAugS, dLcM, toM, dppNil, dppCons, dMerge, dDisp, dCatL, dCatLM, dRep, dRepM, dClear, dExtend, dRg1, dRg2, dLstRg, dLstRgM, dTupRg, dChain, dEq, dIsN, dAnd, dOr, dNot, dIfE, dNext, dSeq, dBreak, dCont, dDrop, dRet, dRetN, dIfS, dNever, dFrzS, dFrz, hName, hNil, hCons, hTup, hSub, dAsg, dPar, dAug, dipI, dNil, dCons, dTup, dLst, dLstM, dIx, dSet, dCall, dwipe, dYes, jSeq, jRng1, jRng2, jStr, jZip, dCB, dLen, dList, dListM, dTuple, dII2, dAbs, dInt, dBM0, dBM, dAppend, dPop, dPopAt, dAndV, dOrV, dNotV, dNeg, dTruth, dIn, dCat, dNoPart, dPart, dSl, dSlM, dNewK, dNewT, dIsi, dIsiT, dLc, dFor, dDc, dLenSet, dLenSetG, dRev, dIsB, dCallS, dRaise, dTry, dIsE, dOwnEq, dOwnNe, dIndex, dSortD, dMin1, dMax1, dIsiC, dLc2, dFrzA, dFrzE, jKeys, jVals, jItems, dLcH, dForH, dEqM, dSortX, dCmpX, dSortSet, dSortDM, dRaiseF, dMakeS, dTryHs, dWHs, dXf, endsD, slotD, dChain3, if_true, if_false, ite_true, ite_false, Bool.false_eq_true, reduceIte, Bool.not_true, Bool.not_false, List.getElem?_cons_zero, List.getElem?_cons_succ, List.set_cons_zero, List.set_cons_succ, List.map_cons, List.map_nil, List.replicate, List.cons_append, List.nil_append, List.length_cons, List.length_nil, dstart]
  refine ⟨b, n, ps, d, th, rfl, W, S, fun p hp e => (nt ⟨p, hp, e⟩).elim, fun _ => ?_⟩
  refine ⟨E_NoTie, true, rfl, rfl, XS.c_NoTie, XS.m_NoTie_LandsError, fun _ a ha => ?_, fun h => by cases h⟩
  simp only [dVar, dC, dOp, dTest, dII, dIC, dFld, dFldS, dMake, dProp, dAugS, dLcM, toM, dppNil, dppCons, dMerge, dDisp, dCatL, dCatLM, dRep, dRepM, dClear, dExtend, dRg1, dRg2, dLstRg, dLstRgM, dTupRg, dChain, dEq, dIsN, dAnd, dOr, dNot, dIfE, dNext, dSeq, dBreak, dCont, dDrop, dRet, dRetN, dIfS, dNever, dFrzS, dFrz, hName, hNil, hCons, hTup, hSub, dAsg, dPar, dAug, dipI, dNil, dCons, dTup, dLst, dLstM, dIx, dSet, dCall, dwipe, dYes, jSeq, jRng1, jRng2, jStr, jZip, dCB, dLen, dList, dListM, dTuple, dII2, dAbs, dInt, dBM0, dBM, dAppend, dPop, dPopAt, dAndV, dOrV, dNotV, dNeg, dTruth, dIn, dCat, dNoPart, dPart, dSl, dSlM, dNewK, dNewT, dIsi, dIsiT, dLc, dFor, dDc, dLenSet, dLenSetG, dRev, dIsB, dCallS, dRaise, dTry, dIsE, dOwnEq, dOwnNe, dIndex, dSortD, dMin1, dMax1, dIsiC, dLc2, dFrzA, dFrzE, jKeys, jVals, jItems, dLcH, dForH, dEqM, dSortX, dCmpX, dSortSet, dSortDM, dRaiseF, dMakeS, dTryHs, dWHs, dXf, endsD, slotD, dChain3, if_true, if_false, ite_true, ite_false, Bool.false_eq_true, reduceIte, Bool.not_true, Bool.not_false, List.getElem?_cons_zero, List.getElem?_cons_succ, List.set_cons_zero, List.set_cons_succ, List.map_cons, List.map_nil, List.replicate, List.cons_append, List.nil_append, List.length_cons, List.length_nil, dstart]
  exact ⟨trivial, _, _, rfl, XS.k_NoTie_NoTie, fin_self q⟩
theorem sc_tied_of : FnScope ["book"] ["book"] (defScope s_tied_of) := ⟨rfl, rfl, rfl, by decide +kernel, rfl, by decide +kernel, by decide +kernel⟩
def sp_tied_of (C_TB : Addr) : DSp := fun ds M Q _ => ∃ p n ps d, ds = [.ref p] ∧ BookAt C_TB M p n ps d ∧ Q (.lst (rowsD n ps)) M
theorem c_tied_of {C_TB : Addr} (F : DFun K mg "tied_of" s_tied_of ["book"]) (B : Bn mg) (G : Gs mg) (TB : Cl_TB K mg C_TB) : DCal P w K mg base CX0 1 "tied_of" (sp_tied_of C_TB) := by
  refine dok F sc_tied_of (fun ds M Q E h => (by obtain ⟨_, h⟩ := h; first | (obtain ⟨e, _⟩ := h; subst e; rfl) | (obtain ⟨_, e, _⟩ := h; subst e; rfl) | (obtain ⟨_, _, e, _⟩ := h; subst e; rfl) | (obtain ⟨_, _, _, e, _⟩ := h; subst e; rfl) | (obtain ⟨_, _, _, _, e, _⟩ := h; subst e; rfl) | (obtain ⟨_, _, _, _, _, e, _⟩ := h; subst e; rfl) | (obtain ⟨_, _, _, _, _, _, e, _⟩ := h; subst e; rfl) | (obtain ⟨_, _, _, _, _, _, _, e, _⟩ := h; subst e; rfl) | (obtain ⟨_, _, _, _, _, _, _, _, e, _⟩ := h; subst e; rfl) | (obtain ⟨_, _, _, _, _, _, _, _, _, e, _⟩ := h; subst e; rfl))) (fun f cdv A outer s H E F0 hr => ?_)
  have nd := (sc_tied_of).nd
  refine ⟨_, _, (db_one (ds_ret (de_ix hr (de_fld TB.cl TB.n_kept_facts (de_var 0)) de_str))), ?_⟩
  rintro ds M Q E ⟨p, n, ps, d, rfl, W, q⟩
  simp only [dVar, dC, dOp, dTest, dII, dIC, dFld, dFldS, dMake, dProp, dAugS, dLcM, toM, dppNil, dppCons, dMerge, dDisp, dCatL, dCatLM, dRep, dRepM, dClear, dExtend, dRg1, dRg2, dLstRg, dLstRgM, dTupRg, dChain, dEq, dIsN, dAnd, dOr, dNot, dIfE, dNext, dSeq, dBreak, dCont, dDrop, dRet, dRetN, dIfS, dNever, dFrzS, dFrz, hName, hNil, hCons, hTup, hSub, dAsg, dPar, dAug, dipI, dNil, dCons, dTup, dLst, dLstM, dIx, dSet, dCall, dwipe, dYes, jSeq, jRng1, jRng2, jStr, jZip, dCB, dLen, dList, dListM, dTuple, dII2, dAbs, dInt, dBM0, dBM, dAppend, dPop, dPopAt, dAndV, dOrV, dNotV, dNeg, dTruth, dIn, dCat, dNoPart, dPart, dSl, dSlM, dNewK, dNewT, dIsi, dIsiT, dLc, dFor, dDc, dLenSet, dLenSetG, dRev, dIsB, dCallS, dRaise, dTry, dIsE, dOwnEq, dOwnNe, dIndex, dSortD, dMin1, dMax1, dIsiC, dLc2, dFrzA, dFrzE, jKeys, jVals, jItems, dLcH, dForH, dEqM, dSortX, dCmpX, dSortSet, dSortDM, dRaiseF, dMakeS, dTryHs, dWHs, dXf, endsD, slotD, dChain3, if_true, if_false, ite_true, ite_false, Bool.false_eq_true, reduceIte, Bool.not_true, Bool.not_false, List.getElem?_cons_zero, List.getElem?_cons_succ, List.set_cons_zero, List.set_cons_succ, List.map_cons, List.map_nil, List.replicate, List.cons_append, List.nil_append, List.length_cons, List.length_nil, dstart, W.ob]
  exact ⟨trivial, .ref d, fb_facts n ps d, .lst (rowsD n ps), by rw [ix_dK W.fc, dval_cons, if_pos rfl], fin_self q⟩
theorem sc_tied : FnScope ["book", "content"] ["book", "content"] (defScope s_tied) := ⟨rfl, rfl, rfl, by decide +kernel, rfl, by decide +kernel, by decide +kernel⟩
def sp_tied (C_TB E_NoContent : Addr) : DSp := fun ds M Q E => ∃ b n ps d th, ds = [.ref b, th] ∧ BookAt C_TB M b n ps d ∧ (tyN M th).isSome = true ∧ (∀ i, th = .int i → 0 ≤ i → i < n → ∀ l, M l = none → Q (.ref l) (mset M l (.lst ((srt (nbr ps i)).map .int)))) ∧ (th.within 0 (n - 1) = false → E (.ref E_NoContent) none M)
theorem c_tied {C_TB E_NoContent : Addr} (F : DFun K mg "tied" s_tied ["book", "content"]) (B : Bn mg) (G : Gs mg) (TB : Cl_TB K mg C_TB) (c_is_index : DCal P w K mg base CX0 3 "is_index" sp_is_index) (c_tied_of : DCal P w K mg base CX0 1 "tied_of" (sp_tied_of C_TB)) (XC_NoContent : ExCls K mg "NoContent" E_NoContent) : DCal P w K mg base (L2.CX P w) 4 "tied" (sp_tied C_TB E_NoContent) := by
  refine dokX F sc_tied (fun ds M Q E h => (by obtain ⟨_, h⟩ := h; first | (obtain ⟨e, _⟩ := h; subst e; rfl) | (obtain ⟨_, e, _⟩ := h; subst e; rfl) | (obtain ⟨_, _, e, _⟩ := h; subst e; rfl) | (obtain ⟨_, _, _, e, _⟩ := h; subst e; rfl) | (obtain ⟨_, _, _, _, e, _⟩ := h; subst e; rfl) | (obtain ⟨_, _, _, _, _, e, _⟩ := h; subst e; rfl) | (obtain ⟨_, _, _, _, _, _, e, _⟩ := h; subst e; rfl) | (obtain ⟨_, _, _, _, _, _, _, e, _⟩ := h; subst e; rfl) | (obtain ⟨_, _, _, _, _, _, _, _, e, _⟩ := h; subst e; rfl) | (obtain ⟨_, _, _, _, _, _, _, _, _, e, _⟩ := h; subst e; rfl))) (fun f cdv A outer s H E F0 E1 hr hE => ?_)
  have nd := (sc_tied).nd
  have tk : L2.Takes (cxOf (L2.CX P w) P w K mg base ["book", "content"] "tied" (defScope s_tied) f cdv A outer s H E) (lXW K F0 fun _ => E1) := takesX (L2.takes_of rfl rfl rfl rfl) hE
  refine ⟨_, _, (db_cons (ds_if (dt_not (dt_val (de_call c_is_index hr (goes0A (E := DXK.no)) (da_cons (de_var 1) (da_cons (de_fld TB.cl TB.n_kept_size (de_var 0)) da_nil))))) (db_one (ds_raise XC_NoContent rfl tk)) db_nil)
      (db_one (ds_ret (de_bty (call_listA rfl) lc_listM B.list (da_cons (de_ix hr (de_call c_tied_of hr (goes0A (E := DXK.no)) (da_cons (de_var 0) da_nil)) (de_var 1)) da_nil))))), ?_⟩
  rintro ds M Q ⟨b, n, ps, d, th, rfl, W, ht, q1, q2⟩
  simp only [dVar, dC, dOp, dTest, dII, dIC, dFld, dFldS, dMake, dProp, dAugS, dLcM, toM, dppNil, dppCons, dMerge, dDisp, dCatL, dCatLM, dRep, dRepM, dClear, dExtend, dRg1, dRg2, dLstRg, dLstRgM, dTupRg, dChain, dEq, dIsN, dAnd, dOr, dNot, dIfE, dNext, dSeq, dBreak, dCont, dDrop, dRet, dRetN, dIfS, dNever, dFrzS, dFrz, hName, hNil, hCons, hTup, hSub, dAsg, dPar, dAug, dipI, dNil, dCons, dTup, dLst, dLstM, dIx, dSet, dCall, dwipe, dYes, jSeq, jRng1, jRng2, jStr, jZip, dCB, dLen, dList, dListM, dTuple, dII2, dAbs, dInt, dBM0, dBM, dAppend, dPop, dPopAt, dAndV, dOrV, dNotV, dNeg, dTruth, dIn, dCat, dNoPart, dPart, dSl, dSlM, dNewK, dNewT, dIsi, dIsiT, dLc, dFor, dDc, dLenSet, dLenSetG, dRev, dIsB, dCallS, dRaise, dTry, dIsE, dOwnEq, dOwnNe, dIndex, dSortD, dMin1, dMax1, dIsiC, dLc2, dFrzA, dFrzE, jKeys, jVals, jItems, dLcH, dForH, dEqM, dSortX, dCmpX, dSortSet, dSortDM, dRaiseF, dMakeS, dTryHs, dWHs, dXf, endsD, slotD, dChain3, if_true, if_false, ite_true, ite_false, Bool.false_eq_true, reduceIte, Bool.not_true, Bool.not_false, List.getElem?_cons_zero, List.getElem?_cons_succ, List.set_cons_zero, List.set_cons_succ, List.map_cons, List.map_nil, List.replicate, List.cons_append, List.nil_append, List.length_cons, List.length_nil, dstart, W.ob]
  refine ⟨trivial, _, fb_size n ps d, th, n, rfl, ht, ?_⟩
  cases hb : th.within 0 (n - 1) with
  | true =>
    obtain ⟨i, rfl⟩ : ∃ i, th = .int i := by
      cases th with
      | int i => exact ⟨i, rfl⟩
      | _ => cases hb
    simp only [D.within, Bool.and_eq_true, decide_eq_true_eq] at hb
    simp only [if_true, if_false, ite_true, ite_false, Bool.false_eq_true, reduceIte, Bool.not_true, Bool.not_false, List.getElem?_cons_zero, List.getElem?_cons_succ, List.set_cons_zero, List.set_cons_succ, List.map_cons, List.map_nil, List.replicate, List.cons_append, List.nil_append, List.length_cons, List.length_nil, dstart]
    have h0 : 0 ≤ i := by omega
    have h1 : i < n := by omega
    exact ⟨b, n, ps, d, rfl, W, _, rowsD_get h0 h1, _, rfl, fun l hl => fin_self (q1 i rfl h0 h1 l hl)⟩
  | false => simp only [if_true, if_false, ite_true, ite_false, Bool.false_eq_true, reduceIte, Bool.not_true, Bool.not_false, List.getElem?_cons_zero, List.getElem?_cons_succ, List.set_cons_zero, List.set_cons_succ, List.map_cons, List.map_nil, List.replicate, List.cons_append, List.nil_append, List.length_cons, List.length_nil, dstart]; exact q2 hb
theorem sc_Book_size : FnScope ["self"] ["self"] (defScope s_Book_size) := ⟨rfl, rfl, rfl, by decide +kernel, rfl, by decide +kernel, by decide +kernel⟩
def sp_Book_size (C_TB : Addr) : DSp := fun ds M Q _ => ∃ p n ps d, ds = [.ref p] ∧ BookAt C_TB M p n ps d ∧ Q (.int n) M
theorem c_Book_size {f : Addr} {C_TB : Addr} (F : DMet K "size" "Book.size" s_Book_size f ["self"]) (B : Bn mg) (G : Gs mg) (TB : Cl_TB K mg C_TB) : ∃ fd, FnOk P w K mg base CX0 1 f fd ["self"] (liftSp K (sp_Book_size C_TB)) ∧ Binds K fd ["self"] [] := by
  refine dokM F sc_Book_size (fun ds M Q E h => (by obtain ⟨_, h⟩ := h; first | (obtain ⟨e, _⟩ := h; subst e; rfl) | (obtain ⟨_, e, _⟩ := h; subst e; rfl) | (obtain ⟨_, _, e, _⟩ := h; subst e; rfl) | (obtain ⟨_, _, _, e, _⟩ := h; subst e; rfl) | (obtain ⟨_, _, _, _, e, _⟩ := h; subst e; rfl) | (obtain ⟨_, _, _, _, _, e, _⟩ := h; subst e; rfl) | (obtain ⟨_, _, _, _, _, _, e, _⟩ := h; subst e; rfl) | (obtain ⟨_, _, _, _, _, _, _, e, _⟩ := h; subst e; rfl) | (obtain ⟨_, _, _, _, _, _, _, _, e, _⟩ := h; subst e; rfl) | (obtain ⟨_, _, _, _, _, _, _, _, _, e, _⟩ := h; subst e; rfl))) (fun cdv A outer s H E F0 hr => ?_)
  have nd := (sc_Book_size).nd
  refine ⟨_, _, (db_one (ds_ret (de_fld TB.cl TB.n_kept_size (de_var 0)))), ?_⟩
  rintro ds M Q E ⟨p, n, ps, d, rfl, W, q⟩
  simp only [dVar, dC, dOp, dTest, dII, dIC, dFld, dFldS, dMake, dProp, dAugS, dLcM, toM, dppNil, dppCons, dMerge, dDisp, dCatL, dCatLM, dRep, dRepM, dClear, dExtend, dRg1, dRg2, dLstRg, dLstRgM, dTupRg, dChain, dEq, dIsN, dAnd, dOr, dNot, dIfE, dNext, dSeq, dBreak, dCont, dDrop, dRet, dRetN, dIfS, dNever, dFrzS, dFrz, hName, hNil, hCons, hTup, hSub, dAsg, dPar, dAug, dipI, dNil, dCons, dTup, dLst, dLstM, dIx, dSet, dCall, dwipe, dYes, jSeq, jRng1, jRng2, jStr, jZip, dCB, dLen, dList, dListM, dTuple, dII2, dAbs, dInt, dBM0, dBM, dAppend, dPop, dPopAt, dAndV, dOrV, dNotV, dNeg, dTruth, dIn, dCat, dNoPart, dPart, dSl, dSlM, dNewK, dNewT, dIsi, dIsiT, dLc, dFor, dDc, dLenSet, dLenSetG, dRev, dIsB, dCallS, dRaise, dTry, dIsE, dOwnEq, dOwnNe, dIndex, dSortD, dMin1, dMax1, dIsiC, dLc2, dFrzA, dFrzE, jKeys, jVals, jItems, dLcH, dForH, dEqM, dSortX, dCmpX, dSortSet, dSortDM, dRaiseF, dMakeS, dTryHs, dWHs, dXf, endsD, slotD, dChain3, if_true, if_false, ite_true, ite_false, Bool.false_eq_true, reduceIte, Bool.not_true, Bool.not_false, List.getElem?_cons_zero, List.getElem?_cons_succ, List.set_cons_zero, List.set_cons_succ, List.map_cons, List.map_nil, List.replicate, List.cons_append, List.nil_append, List.length_cons, List.length_nil, dstart, W.ob]
  exact ⟨trivial, _, fb_size n ps d, fin_self q⟩
theorem sc_Book_ties : FnScope ["self"] ["self"] (defScope s_Book_ties) := ⟨rfl, rfl, rfl, by decide +kernel, rfl, by decide +kernel, by decide +kernel⟩
def sp_Book_ties (C_TB : Addr) : DSp := fun ds M Q _ => ∃ p n ps d, ds = [.ref p] ∧ BookAt C_TB M p n ps d ∧ Q (.tup (ps.map prD)) M
theorem c_Book_ties {f : Addr} {C_TB : Addr} (F : DMet K "ties" "Book.ties" s_Book_ties f ["self"]) (B : Bn mg) (G : Gs mg) (TB : Cl_TB K mg C_TB) : ∃ fd, FnOk P w K mg base CX0 1 f fd ["self"] (liftSp K (sp_Book_ties C_TB)) ∧ Binds K fd ["self"] [] := by
  refine dokM F sc_Book_ties (fun ds M Q E h => (by obtain ⟨_, h⟩ := h; first | (obtain ⟨e, _⟩ := h; subst e; rfl) | (obtain ⟨_, e, _⟩ := h; subst e; rfl) | (obtain ⟨_, _, e, _⟩ := h; subst e; rfl) | (obtain ⟨_, _, _, e, _⟩ := h; subst e; rfl) | (obtain ⟨_, _, _, _, e, _⟩ := h; subst e; rfl) | (obtain ⟨_, _, _, _, _, e, _⟩ := h; subst e; rfl) | (obtain ⟨_, _, _, _, _, _, e, _⟩ := h; subst e; rfl) | (obtain ⟨_, _, _, _, _, _, _, e, _⟩ := h; subst e; rfl) | (obtain ⟨_, _, _, _, _, _, _, _, e, _⟩ := h; subst e; rfl) | (obtain ⟨_, _, _, _, _, _, _, _, _, e, _⟩ := h; subst e; rfl))) (fun cdv A outer s H E F0 hr => ?_)
  have nd := (sc_Book_ties).nd
  refine ⟨_, _, (db_one (ds_ret (de_fld TB.cl TB.n_kept_ties (de_var 0)))), ?_⟩
  rintro ds M Q E ⟨p, n, ps, d, rfl, W, q⟩
  simp only [dVar, dC, dOp, dTest, dII, dIC, dFld, dFldS, dMake, dProp, dAugS, dLcM, toM, dppNil, dppCons, dMerge, dDisp, dCatL, dCatLM, dRep, dRepM, dClear, dExtend, dRg1, dRg2, dLstRg, dLstRgM, dTupRg, dChain, dEq, dIsN, dAnd, dOr, dNot, dIfE, dNext, dSeq, dBreak, dCont, dDrop, dRet, dRetN, dIfS, dNever, dFrzS, dFrz, hName, hNil, hCons, hTup, hSub, dAsg, dPar, dAug, dipI, dNil, dCons, dTup, dLst, dLstM, dIx, dSet, dCall, dwipe, dYes, jSeq, jRng1, jRng2, jStr, jZip, dCB, dLen, dList, dListM, dTuple, dII2, dAbs, dInt, dBM0, dBM, dAppend, dPop, dPopAt, dAndV, dOrV, dNotV, dNeg, dTruth, dIn, dCat, dNoPart, dPart, dSl, dSlM, dNewK, dNewT, dIsi, dIsiT, dLc, dFor, dDc, dLenSet, dLenSetG, dRev, dIsB, dCallS, dRaise, dTry, dIsE, dOwnEq, dOwnNe, dIndex, dSortD, dMin1, dMax1, dIsiC, dLc2, dFrzA, dFrzE, jKeys, jVals, jItems, dLcH, dForH, dEqM, dSortX, dCmpX, dSortSet, dSortDM, dRaiseF, dMakeS, dTryHs, dWHs, dXf, endsD, slotD, dChain3, if_true, if_false, ite_true, ite_false, Bool.false_eq_true, reduceIte, Bool.not_true, Bool.not_false, List.getElem?_cons_zero, List.getElem?_cons_succ, List.set_cons_zero, List.set_cons_succ, List.map_cons, List.map_nil, List.replicate, List.cons_append, List.nil_append, List.length_cons, List.length_nil, dstart, W.ob]
  exact ⟨trivial, _, fb_ties n ps d, fin_self q⟩
theorem sc__law_right : FnScope ["_law_book_here", "_law_size", "_law_ties", "_law_tie", "_law_told", "_law_due_here", "_law_both", "_law_one"] ["_law_book_here", "_law_size", "_law_ties", "_law_tie"] (defScope s__law_right) := ⟨rfl, rfl, rfl, by decide +kernel, rfl, by decide +kernel, by decide +kernel⟩
def sp__law_right (C_TB : Addr) : DSp := fun ds M Q _ => ∃ b n ps d a g, ds = [.ref b, .int n, .tup (ps.map prD), .tup [.int a, .int g]] ∧ BookAt C_TB M b n ps d ∧ (a, g) ∈ ps ∧ Q (.bl true) M
theorem c__law_right {C_TB E_NoTie E_NoContent : Addr} (F : DFun K mg "_law_right" s__law_right ["_law_book_here", "_law_size", "_law_ties", "_law_tie"]) (B : Bn mg) (G : Gs mg) (TB : Cl_TB K mg C_TB) (c__law_due : DCal P w K mg base CX0 2 "_law_due" sp__law_due) (c_drawn_together : DCal P w K mg base (L2.CX P w) 8 "drawn_together" (sp_drawn_together C_TB E_NoTie)) (c_tied : DCal P w K mg base (L2.CX P w) 4 "tied" (sp_tied C_TB E_NoContent)) (MK_Book : DMk P w K mg base CX0 6 "Book" C_TB (sp_Book___init__ C_TB)) (EQ_TB : DEqM P w K mg base 1 C_TB (sp_Book___eq__ C_TB)) (CN_TB : mg "Book" = some (.ref C_TB)) (IK_TB : IsC K C_TB) (IC_TB : ICl K C_TB) (TB_p_size : DPr P w K mg base 1 C_TB "size" (sp_Book_size C_TB)) (TB_p_ties : DPr P w K mg base 1 C_TB "ties" (sp_Book_ties C_TB)) : DCal P w K mg base CX0 9 "_law_right" (sp__law_right C_TB) := by
  refine dok F sc__law_right (fun ds M Q E h => (by obtain ⟨_, h⟩ := h; first | (obtain ⟨e, _⟩ := h; subst e; rfl) | (obtain ⟨_, e, _⟩ := h; subst e; rfl) | (obtain ⟨_, _, e, _⟩ := h; subst e; rfl) | (obtain ⟨_, _, _, e, _⟩ := h; subst e; rfl) | (obtain ⟨_, _, _, _, e, _⟩ := h; subst e; rfl) | (obtain ⟨_, _, _, _, _, e, _⟩ := h; subst e; rfl) | (obtain ⟨_, _, _, _, _, _, e, _⟩ := h; subst e; rfl) | (obtain ⟨_, _, _, _, _, _, _, e, _⟩ := h; subst e; rfl) | (obtain ⟨_, _, _, _, _, _, _, _, e, _⟩ := h; subst e; rfl) | (obtain ⟨_, _, _, _, _, _, _, _, _, e, _⟩ := h; subst e; rfl))) (fun f cdv A outer s H E F0 hr => ?_)
  have nd := (sc__law_right).nd
  refine ⟨_, _, (db_cons (ds_set 4 nd (de_call c_drawn_together hr goesNB (da_cons (de_var 0) (da_cons (de_var 3) da_nil))))
      (db_cons (ds_set 5 nd (de_call c__law_due hr (goes0A (E := DXK.no)) (da_cons (de_var 1) (da_cons (de_var 2) (da_cons (de_var 3) da_nil)))))
      (db_cons (ds_if (DW.dt (dw_or (dt_not (dt_val (de_isiC IK_TB B.isinstance (da_cons (de_var 4) (da_cons (de_cls CN_TB) da_nil))))) (dw_or (dt_ne hr (de_prop TB.cl TB_p_size hr (de_var 4)) (de_sub (de_var 1) de_int)) (dw_or1 (dt_ne hr (de_prop TB.cl TB_p_ties hr (de_var 4)) (de_var 5)))))) (db_one (ds_ret de_bl)) db_nil)
      (db_cons (dx_setLc 6 (own := [("_law_one", 7)]) rfl nd (sw_true rfl rfl rfl (by decide +kernel)) (di_seq (de_frz (de_call c_tied hr goesNB (da_cons (de_var 0) (da_cons (de_ix hr (de_var 3) de_int) da_nil))))) (blkOk_by (N := ["_law_book_here", "_law_size", "_law_ties", "_law_tie", "_law_told", "_law_due_here", "_law_both", "_law_one"]) (sc := defScope s__law_right) (by decide +kernel)) (fun _ _ _ _ _ => ⟨_, (dg_name 7 nd), (gw_name (by decide))⟩) (fun _ _ _ _ _ => ⟨_, (dts_one (dt_in hr (de_var 7) (de_call c_tied hr goesNB (da_cons (de_var 0) (da_cons (de_ix hr (de_var 3) de_int) da_nil)))))⟩) (fun _ _ _ _ _ => ⟨_, (de_var 7)⟩))
      (db_cons (ds_if (dt_ne hr (de_len B.len (da_cons (de_var 5) da_nil)) (de_sub (de_sub (de_len B.len (da_cons (de_var 2) da_nil)) de_int) (de_len B.len (da_cons (de_var 6) da_nil)))) (db_one (ds_ret de_bl)) db_nil)
      (db_one (ds_ret (de_and (de_ownEq EQ_TB hr (de_var 4) (de_make MK_Book hr (goes0A (E := DXK.no)) (da_cons (de_sub (de_var 1) de_int) (da_cons (de_var 5) da_nil)))) (de_and (de_eq hr (de_prop TB.cl TB_p_size hr (de_var 0)) (de_var 1)) (de_one (de_eq hr (de_prop TB.cl TB_p_ties hr (de_var 0)) (de_var 2)))))))))))), ?_⟩
  rintro ds M Q E ⟨b, n, ps, d, a, g, rfl, B, hm, q⟩
  have n8 := B.ok.hi
  have hag := B.ok.pr.ok _ hm
  unfold prOk at hag
  simp only at hag
  have l28 := B.ok.pr.len28 B.ok.hi
  simp only [dVar, dC, dOp, dTest, dII, dIC, dFld, dFldS, dMake, dProp, dAugS, dLcM, toM, dppNil, dppCons, dMerge, dDisp, dCatL, dCatLM, dRep, dRepM, dClear, dExtend, dRg1, dRg2, dLstRg, dLstRgM, dTupRg, dChain, dEq, dIsN, dAnd, dOr, dNot, dIfE, dNext, dSeq, dBreak, dCont, dDrop, dRet, dRetN, dIfS, dNever, dFrzS, dFrz, hName, hNil, hCons, hTup, hSub, dAsg, dPar, dAug, dipI, dNil, dCons, dTup, dLst, dLstM, dIx, dSet, dCall, dwipe, dYes, jSeq, jRng1, jRng2, jStr, jZip, dCB, dLen, dList, dListM, dTuple, dII2, dAbs, dInt, dBM0, dBM, dAppend, dPop, dPopAt, dAndV, dOrV, dNotV, dNeg, dTruth, dIn, dCat, dNoPart, dPart, dSl, dSlM, dNewK, dNewT, dIsi, dIsiT, dLc, dFor, dDc, dLenSet, dLenSetG, dRev, dIsB, dCallS, dRaise, dTry, dIsE, dOwnEq, dOwnNe, dIndex, dSortD, dMin1, dMax1, dIsiC, dLc2, dFrzA, dFrzE, jKeys, jVals, jItems, dLcH, dForH, dEqM, dSortX, dCmpX, dSortSet, dSortDM, dRaiseF, dMakeS, dTryHs, dWHs, dXf, endsD, slotD, dChain3, if_true, if_false, ite_true, ite_false, Bool.false_eq_true, reduceIte, Bool.not_true, Bool.not_false, List.getElem?_cons_zero, List.getElem?_cons_succ, List.set_cons_zero, List.set_cons_succ, List.map_cons, List.map_nil, List.replicate, List.cons_append, List.nil_append, List.length_cons, List.length_nil, dstart]
  refine ⟨b, n, ps, d, prD (a, g), rfl, B, sh1_pr (a, g) M, fun p hp e qs pw mem b2 d2 M2 hb hd B2 ex => ?_, fun nt => (nt ⟨_, hm, rfl⟩).elim⟩
  obtain rfl : (a, g) = p := prD_inj e
  refine ⟨n, ps, a, g, rfl, B.ok.pr, hag.1, hag.2.1, hag.2.2, n8, fun qs2 pw2 mem2 => ?_⟩
  obtain rfl : qs = qs2 := lt_uniq pw pw2 fun r => (mem r).trans (mem2 r).symm
  have B3 := B.ext ex (by simp) (by simp)
  refine ⟨trivial, .inr ⟨b2, C_TB, _, true, rfl, B2.ob, IC_TB, kit_self, ?_⟩⟩
  simp only [if_true, if_false, ite_true, ite_false, Bool.false_eq_true, reduceIte, Bool.not_true, Bool.not_false, List.getElem?_cons_zero, List.getElem?_cons_succ, List.set_cons_zero, List.set_cons_succ, List.map_cons, List.map_nil, List.replicate, List.cons_append, List.nil_append, List.length_cons, List.length_nil, dstart]
  refine ⟨⟨_, B2.ob⟩, b2, n - 1, _, d2, rfl, B2, rfl, rfl, ?_⟩
  rw [D.eq_int, beq_self_eq_true]
  simp only [if_true, if_false, ite_true, ite_false, Bool.false_eq_true, reduceIte, Bool.not_true, Bool.not_false, List.getElem?_cons_zero, List.getElem?_cons_succ, List.set_cons_zero, List.set_cons_succ, List.map_cons, List.map_nil, List.replicate, List.cons_append, List.nil_append, List.length_cons, List.length_nil, dstart]
  refine ⟨⟨_, B2.ob⟩, b2, n - 1, _, d2, rfl, B2, okL_pr _ _, okL_pr _ _, ?_⟩
  rw [D.eq_tup, eqL_pr, decide_eq_true rfl]
  simp only [if_true, if_false, ite_true, ite_false, Bool.false_eq_true, reduceIte, Bool.not_true, Bool.not_false, List.getElem?_cons_zero, List.getElem?_cons_succ, List.set_cons_zero, List.set_cons_succ, List.map_cons, List.map_nil, List.replicate, List.cons_append, List.nil_append, List.length_cons, List.length_nil, dstart]
  refine ⟨_, rfl, b, n, ps, d, .int a, rfl, B3, rfl, fun i ei i0 i1 l hl => ?_, fun hw => ?_⟩
  · cases ei
    simp only [mset_same, if_true, if_false, ite_true, ite_false, Bool.false_eq_true, reduceIte, Bool.not_true, Bool.not_false, List.getElem?_cons_zero, List.getElem?_cons_succ, List.set_cons_zero, List.set_cons_succ, List.map_cons, List.map_nil, List.replicate, List.cons_append, List.nil_append, List.length_cons, List.length_nil, dstart]
    have zl : (srt (nbr ps a)).length ≤ 56 := by rw [srt_length]; have := nbr_len ps a; omega
    refine ⟨by rw [List.length_map]; exact len_ok (by omega), fun i acc M' => Ext M2 M' [] ∧ acc = (((srt (nbr ps a)).take i).filter fun x => decide (x ∈ srt (nbr ps g))).map .int, ⟨((Ext.refl _ _).mset hl).mdel hl, by simp⟩, ?_, ?_⟩
    · rintro i e acc M' he ⟨ex2, rfl⟩
      obtain ⟨x, hx, rfl⟩ := get_int he
      have B4 := B3.ext ex2 (by simp) (by simp)
      simp only [dVar, dC, dOp, dTest, dII, dIC, dFld, dFldS, dMake, dProp, dAugS, dLcM, toM, dppNil, dppCons, dMerge, dDisp, dCatL, dCatLM, dRep, dRepM, dClear, dExtend, dRg1, dRg2, dLstRg, dLstRgM, dTupRg, dChain, dEq, dIsN, dAnd, dOr, dNot, dIfE, dNext, dSeq, dBreak, dCont, dDrop, dRet, dRetN, dIfS, dNever, dFrzS, dFrz, hName, hNil, hCons, hTup, hSub, dAsg, dPar, dAug, dipI, dNil, dCons, dTup, dLst, dLstM, dIx, dSet, dCall, dwipe, dYes, jSeq, jRng1, jRng2, jStr, jZip, dCB, dLen, dList, dListM, dTuple, dII2, dAbs, dInt, dBM0, dBM, dAppend, dPop, dPopAt, dAndV, dOrV, dNotV, dNeg, dTruth, dIn, dCat, dNoPart, dPart, dSl, dSlM, dNewK, dNewT, dIsi, dIsiT, dLc, dFor, dDc, dLenSet, dLenSetG, dRev, dIsB, dCallS, dRaise, dTry, dIsE, dOwnEq, dOwnNe, dIndex, dSortD, dMin1, dMax1, dIsiC, dLc2, dFrzA, dFrzE, jKeys, jVals, jItems, dLcH, dForH, dEqM, dSortX, dCmpX, dSortSet, dSortDM, dRaiseF, dMakeS, dTryHs, dWHs, dXf, endsD, slotD, dChain3, if_true, if_false, ite_true, ite_false, Bool.false_eq_true, reduceIte, Bool.not_true, Bool.not_false, List.getElem?_cons_zero, List.getElem?_cons_succ, List.set_cons_zero, List.set_cons_succ, List.map_cons, List.map_nil, List.replicate, List.cons_append, List.nil_append, List.length_cons, List.length_nil, dstart]
      refine ⟨_, rfl, b, n, ps, d, .int g, rfl, B4, rfl, fun i ei i0 i1 l2 hl2 => ?_, fun hw => ?_⟩
      · cases ei
        have ex3 : Ext M2 (mset M' l2 (.lst ((srt (nbr ps g)).map .int))) [] := ex2.mset (ex2.fresh (by simp) hl2)
        refine ⟨_, by simp only [inV', mset_same, ok_int, D.ok, okL_int, and_self, if_true, any_int]; rfl, ?_⟩
        by_cases c : x ∈ srt (nbr ps g)
        · rw [decide_eq_true c]
          simp only [if_true, if_false, ite_true, ite_false, Bool.false_eq_true, reduceIte, Bool.not_true, Bool.not_false, List.getElem?_cons_zero, List.getElem?_cons_succ, List.set_cons_zero, List.set_cons_succ, List.map_cons, List.map_nil, List.replicate, List.cons_append, List.nil_append, List.length_cons, List.length_nil, dstart]
          exact ⟨ex3, by rw [take_succ_of hx, List.filter_append, List.map_append]; simp only [List.filter_cons, c, decide_true, if_true, List.filter_nil, List.map_cons, List.map_nil]⟩
        · rw [decide_eq_false c]
          simp only [if_true, if_false, ite_true, ite_false, Bool.false_eq_true, reduceIte, Bool.not_true, Bool.not_false, List.getElem?_cons_zero, List.getElem?_cons_succ, List.set_cons_zero, List.set_cons_succ, List.map_cons, List.map_nil, List.replicate, List.cons_append, List.nil_append, List.length_cons, List.length_nil, dstart]
          exact ⟨ex3, by rw [take_succ_of hx, List.filter_append, List.map_append]; simp only [List.filter_cons, c, decide_false, Bool.false_eq_true, if_false, List.filter_nil, List.map_nil, List.append_nil]⟩
      · simp only [D.within, Bool.and_eq_false_iff, decide_eq_false_iff_not] at hw
        omega
    · rintro acc M' ⟨ex2, rfl⟩
      rw [List.length_map, List.take_length]
      have dl := drawn_len B.ok.pr hm pw mem
      refine ⟨qs.length, by simp only [lenV, List.length_map], ps.length, by simp only [lenV, List.length_map], (bothL ps a g).length, by simp only [lenV, List.length_map]; rfl, rfl, rfl, ?_⟩
      rw [D.eq_int, beq_iff_eq.mpr (by omega)]
      simp only [if_true, if_false, ite_true, ite_false, Bool.false_eq_true, reduceIte, Bool.not_true, Bool.not_false, List.getElem?_cons_zero, List.getElem?_cons_succ, List.set_cons_zero, List.set_cons_succ, List.map_cons, List.map_nil, List.replicate, List.cons_append, List.nil_append, List.length_cons, List.length_nil, dstart]
      refine fun p hp => ⟨p, n - 1, qs, rfl, mset_same, B2.ok, fun d3 M3 hd3 B5 ag => ⟨rfl, ?_⟩⟩
      have ex4 : Ext M2 M3 [] := ex2.trans (Agree.newM hp hd3 ag)
      have C2 := B2.ext ex4 (by simp) (by simp)
      have C3 := B3.ext ex4 (by simp) (by simp)
      refine ⟨⟨_, C2.ob⟩, ⟨_, B5.ob⟩, b2, n - 1, _, d2, p, n - 1, _, d3, rfl, C2, B5, _, rfl, ?_⟩
      simp only [decide_true, Bool.and_self, if_true, if_false, ite_true, ite_false, Bool.false_eq_true, reduceIte, Bool.not_true, Bool.not_false, List.getElem?_cons_zero, List.getElem?_cons_succ, List.set_cons_zero, List.set_cons_succ, List.map_cons, List.map_nil, List.replicate, List.cons_append, List.nil_append, List.length_cons, List.length_nil, dstart]
      refine ⟨⟨_, C3.ob⟩, b, n, _, d, rfl, C3, rfl, rfl, ?_⟩
      rw [D.eq_int, beq_self_eq_true]
      simp only [if_true, if_false, ite_true, ite_false, Bool.false_eq_true, reduceIte, Bool.not_true, Bool.not_false, List.getElem?_cons_zero, List.getElem?_cons_succ, List.set_cons_zero, List.set_cons_succ, List.map_cons, List.map_nil, List.replicate, List.cons_append, List.nil_append, List.length_cons, List.length_nil, dstart]
      refine ⟨⟨_, C3.ob⟩, b, n, _, d, rfl, C3, okL_pr _ _, okL_pr _ _, ?_⟩
      rw [D.eq_tup, eqL_pr, decide_eq_true rfl]
      exact fin_less (fun x o hq => (ex.trans ex4) x o (by simp) hq) q
  · simp only [D.within, Bool.and_eq_false_iff, decide_eq_false_iff_not] at hw
    omega
theorem sc__law_source : FnScope ["_law_script"] ["_law_script"] (defScope s__law_source) := ⟨rfl, rfl, rfl, by decide +kernel, rfl, by decide +kernel, by decide +kernel⟩
def sp__law_source : DSp := fun ds M Q _ => ∃ ns : List Int, ds = [.ls (ns.map .int)] ∧ ns.length ≤ 63 ∧ ∀ p M2, M p = none → DiceAt M2 p → Agree M M2 [p] → Q (.ref p) M2
theorem c__law_source (F : DFun K mg "_law_source" s__law_source ["_law_script"]) (B : Bn mg) (G : Gs mg)  : DCal P w K mg base CX0 1 "_law_source" sp__law_source := by
  refine dok F sc__law_source (fun ds M Q E h => (by obtain ⟨_, h⟩ := h; first | (obtain ⟨e, _⟩ := h; subst e; rfl) | (obtain ⟨_, e, _⟩ := h; subst e; rfl) | (obtain ⟨_, _, e, _⟩ := h; subst e; rfl) | (obtain ⟨_, _, _, e, _⟩ := h; subst e; rfl) | (obtain ⟨_, _, _, _, e, _⟩ := h; subst e; rfl) | (obtain ⟨_, _, _, _, _, e, _⟩ := h; subst e; rfl) | (obtain ⟨_, _, _, _, _, _, e, _⟩ := h; subst e; rfl) | (obtain ⟨_, _, _, _, _, _, _, e, _⟩ := h; subst e; rfl) | (obtain ⟨_, _, _, _, _, _, _, _, e, _⟩ := h; subst e; rfl) | (obtain ⟨_, _, _, _, _, _, _, _, _, e, _⟩ := h; subst e; rfl))) (fun f cdv A outer s H E F0 hr => ?_)
  have nd := (sc__law_source).nd
  refine ⟨_, _, (db_one (ds_ret (de_disp (dpp_cons de_str de_int (dpp_cons de_str (de_bty (call_listA rfl) lc_list B.list (da_cons (de_slice (de_var 0) do_none (do_some de_int)) da_nil)) (dpp_cons de_str de_int (dpp_cons de_str de_int (dpp_cons de_str de_int dpp_nil)))))))), ?_⟩
  rintro ds M Q E ⟨ns, rfl, hl, q⟩
  simp only [dVar, dC, dOp, dTest, dII, dIC, dFld, dFldS, dMake, dProp, dAugS, dLcM, toM, dppNil, dppCons, dMerge, dDisp, dCatL, dCatLM, dRep, dRepM, dClear, dExtend, dRg1, dRg2, dLstRg, dLstRgM, dTupRg, dChain, dEq, dIsN, dAnd, dOr, dNot, dIfE, dNext, dSeq, dBreak, dCont, dDrop, dRet, dRetN, dIfS, dNever, dFrzS, dFrz, hName, hNil, hCons, hTup, hSub, dAsg, dPar, dAug, dipI, dNil, dCons, dTup, dLst, dLstM, dIx, dSet, dCall, dwipe, dYes, jSeq, jRng1, jRng2, jStr, jZip, dCB, dLen, dList, dListM, dTuple, dII2, dAbs, dInt, dBM0, dBM, dAppend, dPop, dPopAt, dAndV, dOrV, dNotV, dNeg, dTruth, dIn, dCat, dNoPart, dPart, dSl, dSlM, dNewK, dNewT, dIsi, dIsiT, dLc, dFor, dDc, dLenSet, dLenSetG, dRev, dIsB, dCallS, dRaise, dTry, dIsE, dOwnEq, dOwnNe, dIndex, dSortD, dMin1, dMax1, dIsiC, dLc2, dFrzA, dFrzE, jKeys, jVals, jItems, dLcH, dForH, dEqM, dSortX, dCmpX, dSortSet, dSortDM, dRaiseF, dMakeS, dTryHs, dWHs, dXf, endsD, slotD, dChain3, if_true, if_false, ite_true, ite_false, Bool.false_eq_true, reduceIte, Bool.not_true, Bool.not_false, List.getElem?_cons_zero, List.getElem?_cons_succ, List.set_cons_zero, List.set_cons_succ, List.map_cons, List.map_nil, List.replicate, List.cons_append, List.nil_append, List.length_cons, List.length_nil, dstart]
  intro p hp
  refine ⟨_, rfl, _, rfl, _, rfl, _, rfl, _, rfl, _, rfl, fun _ => ⟨by decide, ?_⟩⟩
  have e : cutD (ns.map D.int) none (some 63) = ns.map D.int := by
    have h1 : HT.sIx (ns.map D.int).length 0 none = 0 := rfl
    have h2 : (ns.map D.int).length ≤ HT.sIx (ns.map D.int).length (ns.map D.int).length (some 63) := by
      rw [List.length_map]
      show ns.length ≤ min 63 ns.length
      omega
    unfold cutD
    rw [h1, List.drop_zero, List.take_of_length_le (by omega)]
  rw [e]
  have e2 : (dput (dput (dput (dput (dput [] (.inr "rest") (D.int 0)) (.inr "cells") (D.lst (ns.map .int))) (.inr "at") (D.int 0)) (.inr "mixed") (D.int 1)) (.inr "count") (D.int 0) : List (Key × D)) = diceL 0 ns 0 1 0 := by
    simp only [dput, dval_nil, dval_cons, kne, if_false, if_true, Option.isSome_none, Bool.false_eq_true, List.nil_append, List.cons_append, diceL]
  refine fin_self (q p _ hp ⟨0, ns, 0, 1, 0, ?_, by decide, by decide⟩ (Agree.mset (by simp)))
  rw [← e2]
  exact mset_same
theorem sc_each_tied : FnScope ["size", "one", "other"] ["size"] (defScope s_each_tied) := ⟨rfl, rfl, rfl, by decide +kernel, rfl, by decide +kernel, by decide +kernel⟩
def sp_each_tied (C_TB E_NoNumber : Addr) : DSp := fun ds M Q E => ∃ th, ds = [th] ∧ (tyN M th).isSome = true ∧ (∀ n, th = .int n → 1 ≤ n → n ≤ 8 → ∀ b d M2, M b = none → M d = none → BookAt C_TB M2 b n (allPrs n n.toNat) d → Agree M M2 [b, d] → Q (.ref b) M2) ∧ (th.within 1 8 = false → E (.ref E_NoNumber) none M)
theorem c_each_tied {C_TB E_NoNumber : Addr} (F : DFun K mg "each_tied" s_each_tied ["size"]) (B : Bn mg) (G : Gs mg) (c_is_within : DCal P w K mg base CX0 2 "is_within" sp_is_within) (MK_Book : DMk P w K mg base CX0 6 "Book" C_TB (sp_Book___init__ C_TB)) (XC_NoNumber : ExCls K mg "NoNumber" E_NoNumber) : DCal P w K mg base (L2.CX P w) 8 "each_tied" (sp_each_tied C_TB E_NoNumber) := by
  obtain ⟨t_MOST_CONTENTS, g_MOST_CONTENTS⟩ := G.MOST_CONTENTS
  refine dokX F sc_each_tied (fun ds M Q E h => (by obtain ⟨_, h⟩ := h; first | (obtain ⟨e, _⟩ := h; subst e; rfl) | (obtain ⟨_, e, _⟩ := h; subst e; rfl) | (obtain ⟨_, _, e, _⟩ := h; subst e; rfl) | (obtain ⟨_, _, _, e, _⟩ := h; subst e; rfl) | (obtain ⟨_, _, _, _, e, _⟩ := h; subst e; rfl) | (obtain ⟨_, _, _, _, _, e, _⟩ := h; subst e; rfl) | (obtain ⟨_, _, _, _, _, _, e, _⟩ := h; subst e; rfl) | (obtain ⟨_, _, _, _, _, _, _, e, _⟩ := h; subst e; rfl) | (obtain ⟨_, _, _, _, _, _, _, _, e, _⟩ := h; subst e; rfl) | (obtain ⟨_, _, _, _, _, _, _, _, _, e, _⟩ := h; subst e; rfl))) (fun f cdv A outer s H E F0 E1 hr hE => ?_)
  have nd := (sc_each_tied).nd
  have tk : L2.Takes (cxOf (L2.CX P w) P w K mg base ["size", "one", "other"] "each_tied" (defScope s_each_tied) f cdv A outer s H E) (lXW K F0 fun _ => E1) := takesX (L2.takes_of rfl rfl rfl rfl) hE
  refine ⟨_, _, (db_cons (ds_if (dt_not (dt_val (de_call c_is_within hr (goes0A (E := DXK.no)) (da_cons (de_var 0) (da_cons de_int (da_cons (de_globI g_MOST_CONTENTS) da_nil)))))) (db_one (ds_raise XC_NoNumber rfl tk)) db_nil)
      (db_one (ds_ret (de_make MK_Book hr (goes0A (E := DXK.no)) (da_cons (de_var 0) (da_cons (de_bty call_tuple_of lc_tuple B.tuple (da_cons (dx_lc2 (own := [("one", 1), ("other", 2)]) (vs1 := [2]) rfl nd (di_range1 B.range (da_cons (de_var 0) da_nil)) (blkOk_by (N := ["size", "one", "other"]) (sc := defScope s_each_tied) (by decide +kernel)) (by decide) (fun _ _ _ _ _ => ⟨_, (dg_name 1 nd), (gw_name (by decide))⟩) (fun _ _ _ _ _ => ⟨_, dts_nil⟩) (fun _ _ _ _ _ => ⟨_, (di_range2 B.range (da_cons (de_add (de_var 1) de_int) (da_cons (de_var 0) da_nil)))⟩) (fun _ _ _ _ _ => ⟨_, (dg_name 2 nd), (gw_name (by decide))⟩) (fun _ _ _ _ _ => ⟨_, dts_nil⟩) (fun _ _ _ _ _ => ⟨_, (de_tup (da_cons (de_var 1) (da_cons (de_var 2) da_nil)))⟩)) da_nil)) da_nil)))))), ?_⟩
  rintro ds M Q ⟨th, rfl, ht, q1, q2⟩
  refine dSeq_then (fun γ' M' => ∃ n, γ' = [some (.int n), none, none] ∧ M' = M ∧ th = .int n ∧ 1 ≤ n ∧ n ≤ 8) (fun nx hn => ?_) (fun γ1 M1 h => ?_)
  · simp only [dVar, dC, dOp, dTest, dII, dIC, dFld, dFldS, dMake, dProp, dAugS, dLcM, toM, dppNil, dppCons, dMerge, dDisp, dCatL, dCatLM, dRep, dRepM, dClear, dExtend, dRg1, dRg2, dLstRg, dLstRgM, dTupRg, dChain, dEq, dIsN, dAnd, dOr, dNot, dIfE, dNext, dSeq, dBreak, dCont, dDrop, dRet, dRetN, dIfS, dNever, dFrzS, dFrz, hName, hNil, hCons, hTup, hSub, dAsg, dPar, dAug, dipI, dNil, dCons, dTup, dLst, dLstM, dIx, dSet, dCall, dwipe, dYes, jSeq, jRng1, jRng2, jStr, jZip, dCB, dLen, dList, dListM, dTuple, dII2, dAbs, dInt, dBM0, dBM, dAppend, dPop, dPopAt, dAndV, dOrV, dNotV, dNeg, dTruth, dIn, dCat, dNoPart, dPart, dSl, dSlM, dNewK, dNewT, dIsi, dIsiT, dLc, dFor, dDc, dLenSet, dLenSetG, dRev, dIsB, dCallS, dRaise, dTry, dIsE, dOwnEq, dOwnNe, dIndex, dSortD, dMin1, dMax1, dIsiC, dLc2, dFrzA, dFrzE, jKeys, jVals, jItems, dLcH, dForH, dEqM, dSortX, dCmpX, dSortSet, dSortDM, dRaiseF, dMakeS, dTryHs, dWHs, dXf, endsD, slotD, dChain3, if_true, if_false, ite_true, ite_false, Bool.false_eq_true, reduceIte, Bool.not_true, Bool.not_false, List.getElem?_cons_zero, List.getElem?_cons_succ, List.set_cons_zero, List.set_cons_succ, List.map_cons, List.map_nil, List.replicate, List.cons_append, List.nil_append, List.length_cons, List.length_nil, dstart]
    refine ⟨th, 1, 8, rfl, ht, ?_⟩
    cases hb : th.within 1 8 with
    | true =>
      obtain ⟨i, rfl⟩ : ∃ i, th = .int i := by
        cases th with
        | int i => exact ⟨i, rfl⟩
        | _ => cases hb
      simp only [D.within, Bool.and_eq_true, decide_eq_true_eq] at hb
      simp only [if_true, if_false, ite_true, ite_false, Bool.false_eq_true, reduceIte, Bool.not_true, Bool.not_false, List.getElem?_cons_zero, List.getElem?_cons_succ, List.set_cons_zero, List.set_cons_succ, List.map_cons, List.map_nil, List.replicate, List.cons_append, List.nil_append, List.length_cons, List.length_nil, dstart]
      exact hn _ _ ⟨i, rfl, rfl, rfl, hb.1, hb.2⟩
    | false => simp only [if_true, if_false, ite_true, ite_false, Bool.false_eq_true, reduceIte, Bool.not_true, Bool.not_false, List.getElem?_cons_zero, List.getElem?_cons_succ, List.set_cons_zero, List.set_cons_succ, List.map_cons, List.map_nil, List.replicate, List.cons_append, List.nil_append, List.length_cons, List.length_nil, dstart]; exact q2 hb
  obtain ⟨n, rfl, rfl, rfl, h1, h8⟩ := h
  simp only [dVar, dC, dOp, dTest, dII, dIC, dFld, dFldS, dMake, dProp, dAugS, dLcM, toM, dppNil, dppCons, dMerge, dDisp, dCatL, dCatLM, dRep, dRepM, dClear, dExtend, dRg1, dRg2, dLstRg, dLstRgM, dTupRg, dChain, dEq, dIsN, dAnd, dOr, dNot, dIfE, dNext, dSeq, dBreak, dCont, dDrop, dRet, dRetN, dIfS, dNever, dFrzS, dFrz, hName, hNil, hCons, hTup, hSub, dAsg, dPar, dAug, dipI, dNil, dCons, dTup, dLst, dLstM, dIx, dSet, dCall, dwipe, dYes, jSeq, jRng1, jRng2, jStr, jZip, dCB, dLen, dList, dListM, dTuple, dII2, dAbs, dInt, dBM0, dBM, dAppend, dPop, dPopAt, dAndV, dOrV, dNotV, dNeg, dTruth, dIn, dCat, dNoPart, dPart, dSl, dSlM, dNewK, dNewT, dIsi, dIsiT, dLc, dFor, dDc, dLenSet, dLenSetG, dRev, dIsB, dCallS, dRaise, dTry, dIsE, dOwnEq, dOwnNe, dIndex, dSortD, dMin1, dMax1, dIsiC, dLc2, dFrzA, dFrzE, jKeys, jVals, jItems, dLcH, dForH, dEqM, dSortX, dCmpX, dSortSet, dSortDM, dRaiseF, dMakeS, dTryHs, dWHs, dXf, endsD, slotD, dChain3, if_true, if_false, ite_true, ite_false, Bool.false_eq_true, reduceIte, Bool.not_true, Bool.not_false, List.getElem?_cons_zero, List.getElem?_cons_succ, List.set_cons_zero, List.set_cons_succ, List.map_cons, List.map_nil, List.replicate, List.cons_append, List.nil_append, List.length_cons, List.length_nil, dstart]
  refine ⟨by omega, fun i acc M' => M' = M1 ∧ acc = (allPrs n i).map prD, ⟨rfl, rfl⟩, ?_, ?_⟩
  · rintro i d acc M' hd ⟨rfl, rfl⟩
    obtain ⟨hi, rfl⟩ := rgD_get hd
    simp only [dVar, dC, dOp, dTest, dII, dIC, dFld, dFldS, dMake, dProp, dAugS, dLcM, toM, dppNil, dppCons, dMerge, dDisp, dCatL, dCatLM, dRep, dRepM, dClear, dExtend, dRg1, dRg2, dLstRg, dLstRgM, dTupRg, dChain, dEq, dIsN, dAnd, dOr, dNot, dIfE, dNext, dSeq, dBreak, dCont, dDrop, dRet, dRetN, dIfS, dNever, dFrzS, dFrz, hName, hNil, hCons, hTup, hSub, dAsg, dPar, dAug, dipI, dNil, dCons, dTup, dLst, dLstM, dIx, dSet, dCall, dwipe, dYes, jSeq, jRng1, jRng2, jStr, jZip, dCB, dLen, dList, dListM, dTuple, dII2, dAbs, dInt, dBM0, dBM, dAppend, dPop, dPopAt, dAndV, dOrV, dNotV, dNeg, dTruth, dIn, dCat, dNoPart, dPart, dSl, dSlM, dNewK, dNewT, dIsi, dIsiT, dLc, dFor, dDc, dLenSet, dLenSetG, dRev, dIsB, dCallS, dRaise, dTry, dIsE, dOwnEq, dOwnNe, dIndex, dSortD, dMin1, dMax1, dIsiC, dLc2, dFrzA, dFrzE, jKeys, jVals, jItems, dLcH, dForH, dEqM, dSortX, dCmpX, dSortSet, dSortDM, dRaiseF, dMakeS, dTryHs, dWHs, dXf, endsD, slotD, dChain3, if_true, if_false, ite_true, ite_false, Bool.false_eq_true, reduceIte, Bool.not_true, Bool.not_false, List.getElem?_cons_zero, List.getElem?_cons_succ, List.set_cons_zero, List.set_cons_succ, List.map_cons, List.map_nil, List.replicate, List.cons_append, List.nil_append, List.length_cons, List.length_nil, dstart]
    refine ⟨by omega, fun j acc M2 => M2 = M' ∧ acc = (allPrs n i ++ (List.range j).map fun (j : Nat) => ((i : Int), (i : Int) + 1 + (j : Int))).map prD, ⟨rfl, by simp⟩, ?_, ?_⟩
    · rintro j d acc M2 hd ⟨rfl, rfl⟩
      obtain ⟨hj, rfl⟩ := rgD_get hd
      simp only [dVar, dC, dOp, dTest, dII, dIC, dFld, dFldS, dMake, dProp, dAugS, dLcM, toM, dppNil, dppCons, dMerge, dDisp, dCatL, dCatLM, dRep, dRepM, dClear, dExtend, dRg1, dRg2, dLstRg, dLstRgM, dTupRg, dChain, dEq, dIsN, dAnd, dOr, dNot, dIfE, dNext, dSeq, dBreak, dCont, dDrop, dRet, dRetN, dIfS, dNever, dFrzS, dFrz, hName, hNil, hCons, hTup, hSub, dAsg, dPar, dAug, dipI, dNil, dCons, dTup, dLst, dLstM, dIx, dSet, dCall, dwipe, dYes, jSeq, jRng1, jRng2, jStr, jZip, dCB, dLen, dList, dListM, dTuple, dII2, dAbs, dInt, dBM0, dBM, dAppend, dPop, dPopAt, dAndV, dOrV, dNotV, dNeg, dTruth, dIn, dCat, dNoPart, dPart, dSl, dSlM, dNewK, dNewT, dIsi, dIsiT, dLc, dFor, dDc, dLenSet, dLenSetG, dRev, dIsB, dCallS, dRaise, dTry, dIsE, dOwnEq, dOwnNe, dIndex, dSortD, dMin1, dMax1, dIsiC, dLc2, dFrzA, dFrzE, jKeys, jVals, jItems, dLcH, dForH, dEqM, dSortX, dCmpX, dSortSet, dSortDM, dRaiseF, dMakeS, dTryHs, dWHs, dXf, endsD, slotD, dChain3, if_true, if_false, ite_true, ite_false, Bool.false_eq_true, reduceIte, Bool.not_true, Bool.not_false, List.getElem?_cons_zero, List.getElem?_cons_succ, List.set_cons_zero, List.set_cons_succ, List.map_cons, List.map_nil, List.replicate, List.cons_append, List.nil_append, List.length_cons, List.length_nil, dstart]
      have l1 := (allPrs_ok n i).len28 h8
      refine ⟨by decide, len_lt (by rw [List.length_map, List.length_append, List.length_map, List.length_range]; omega), trivial, ?_⟩
      rw [List.range_succ, List.map_append (l₁ := List.range j), ← List.append_assoc, List.map_append (l₂ := [j].map _)]
      simp only [List.map_cons, List.map_nil, prD, Int.zero_add]
    · rintro acc M2 ⟨rfl, rfl⟩
      refine ⟨rfl, ?_⟩
      rw [rgD_len, allPrs_succ, Int.zero_add]
  · rintro acc M' ⟨rfl, rfl⟩
    rw [rgD_len]
    intro b hb
    refine ⟨b, n, allPrs n n.toNat, rfl, mset_same, each_ok h1 h8, fun d M3 hd W ag => ⟨rfl, ?_⟩⟩
    have nd : d ≠ b := fun e => by rw [e, mset_same] at hd; cases hd
    have hd0 : M' d = none := by rw [mset_ne nd] at hd; exact hd
    exact fin_self (q1 n rfl h1 h8 b d M3 hb hd0 W ((Agree.mset (by simp)).trans ag))
theorem sc_law : FnScope ["_law_script", "_law_source_here", "_law_kind", "_law_size", "_law_ties", "_law_book_here", "_law_tie", "_law_wrong", "_law_turn"] ["_law_script"] (defScope s_law) := ⟨rfl, rfl, rfl, by decide +kernel, rfl, by decide +kernel, by decide +kernel⟩
def sp_law : DSp := spLaw
theorem c_law {f : Addr} {fd : FuncData} {C_TB E_NoTie E_NoNumber : Addr} (F : Fun K "law" "law" s_law f fd) (B : Bn mg) (G : Gs mg) (c__law_book : DCal P w K mg base CX0 3 "_law_book" sp__law_book) (c__law_draw : DCal P w K mg base CX0 1 "_law_draw" sp__law_draw) (c__law_due : DCal P w K mg base CX0 2 "_law_due" sp__law_due) (c__law_refused : DCal P w K mg base CX0 9 "_law_refused" (sp__law_refused C_TB)) (c__law_right : DCal P w K mg base CX0 9 "_law_right" (sp__law_right C_TB)) (c__law_source : DCal P w K mg base CX0 1 "_law_source" sp__law_source) (c_drawn_together : DCal P w K mg base (L2.CX P w) 8 "drawn_together" (sp_drawn_together C_TB E_NoTie)) (c_each_tied : DCal P w K mg base (L2.CX P w) 8 "each_tied" (sp_each_tied C_TB E_NoNumber)) (MK_Book : DMk P w K mg base CX0 6 "Book" C_TB (sp_Book___init__ C_TB)) (EQ_TB : DEqM P w K mg base 1 C_TB (sp_Book___eq__ C_TB)) : FnOk P w K mg base CX0 10 f fd ["_law_script"] (liftSp K sp_law) := by
  refine dokL F sc_law (fun ds M Q E h => (by obtain ⟨_, h⟩ := h; first | (obtain ⟨e, _⟩ := h; subst e; rfl) | (obtain ⟨_, e, _⟩ := h; subst e; rfl) | (obtain ⟨_, _, e, _⟩ := h; subst e; rfl) | (obtain ⟨_, _, _, e, _⟩ := h; subst e; rfl) | (obtain ⟨_, _, _, _, e, _⟩ := h; subst e; rfl) | (obtain ⟨_, _, _, _, _, e, _⟩ := h; subst e; rfl) | (obtain ⟨_, _, _, _, _, _, e, _⟩ := h; subst e; rfl) | (obtain ⟨_, _, _, _, _, _, _, e, _⟩ := h; subst e; rfl) | (obtain ⟨_, _, _, _, _, _, _, _, e, _⟩ := h; subst e; rfl) | (obtain ⟨_, _, _, _, _, _, _, _, _, e, _⟩ := h; subst e; rfl))) (fun cdv A outer s H E F0 hr => ?_)
  have nd := (sc_law).nd
  refine ⟨_, _, (db_cons (ds_set 1 nd (de_call c__law_source hr (goes0A (E := DXK.no)) (da_cons (de_var 0) da_nil)))
      (db_cons (ds_set 2 nd (de_call c__law_draw hr (goes0A (E := DXK.no)) (da_cons (de_var 1) (da_cons de_int da_nil))))
      (db_cons (ds_asg (de_call c__law_book hr (goes0A (E := DXK.no)) (da_cons (de_var 1) (da_cons de_int da_nil))) (dg_tup (n := 2) rfl (dgs_cons (dg_name 3 nd) (dgs_cons (dg_name 4 nd) dgs_nil))))
      (db_cons (ds_if (dt_eq hr (de_var 3) de_int) (db_cons (ds_set 3 nd de_int)
      (db_one (ds_set 4 nd (de_tup (da_cons (de_tup (da_cons de_int (da_cons de_int da_nil))) da_nil))))) db_nil)
      (db_cons (ds_set 5 nd (de_make MK_Book hr (goes0A (E := DXK.no)) (da_cons (de_var 3) (da_cons (de_var 4) da_nil))))
      (db_cons (ds_for PassesOwn.never rfl (di_seq (de_var 4)) (dg_name 6 nd) (db_one (ds_if (dt_not (dt_val (de_call c__law_right hr (goes0A (E := DXK.no)) (da_cons (de_var 5) (da_cons (de_var 3) (da_cons (de_var 4) (da_cons (de_var 6) da_nil))))))) (db_one (ds_ret de_bl)) db_nil)))
      (db_cons (ds_set 7 nd (de_ix hr (de_lst (da_cons (de_tup (da_cons de_int (da_cons de_int da_nil))) (da_cons (de_lst (da_cons de_int (da_cons de_int da_nil))) (da_cons (de_tup (da_cons de_int (da_cons (de_var 3) da_nil))) (da_cons de_non (da_cons (de_tup (da_cons de_int da_nil)) (da_cons (de_tup (da_cons de_str (da_cons de_str da_nil))) (da_cons (de_var 4) (da_cons (de_tup (da_cons de_int (da_cons de_int (da_cons de_int da_nil)))) da_nil))))))))) (de_var 2)))
      (db_cons (ds_if (DW.dt (dw_or (dt_not (dt_val (de_call c__law_refused hr (goes0A (E := DXK.no)) (da_cons (de_var 5) (da_cons (de_var 7) da_nil))))) (dw_or1 (dt_not (dt_val (de_call c__law_refused hr (goes0A (E := DXK.no)) (da_cons (de_make MK_Book hr (goes0A (E := DXK.no)) (da_cons de_int (da_cons (de_tup da_nil) da_nil))) (da_cons (de_tup (da_cons de_int (da_cons de_int da_nil))) da_nil)))))))) (db_one (ds_ret de_bl)) db_nil)
      (db_cons (ds_for PassesOwn.never rfl (di_range1 B.range (da_cons (de_sub (de_var 3) de_int) da_nil)) (dg_name 8 nd) (db_cons (ds_set 6 nd (de_ix hr (de_var 4) (de_call c__law_draw hr (goes0A (E := DXK.no)) (da_cons (de_var 1) (da_cons (de_len B.len (da_cons (de_var 4) da_nil)) da_nil)))))
      (db_cons (ds_if (dt_not (dt_val (de_call c__law_right hr (goes0A (E := DXK.no)) (da_cons (de_var 5) (da_cons (de_var 3) (da_cons (de_var 4) (da_cons (de_var 6) da_nil))))))) (db_one (ds_ret de_bl)) db_nil)
      (db_cons (ds_set 5 nd (de_call c_drawn_together hr goesNB (da_cons (de_var 5) (da_cons (de_var 6) da_nil))))
      (db_cons (ds_set 3 nd (de_sub (de_var 3) de_int))
      (db_one (ds_set 4 nd (de_call c__law_due hr (goes0A (E := DXK.no)) (da_cons (de_add (de_var 3) de_int) (da_cons (de_var 4) (da_cons (de_var 6) da_nil)))))))))))
      (db_one (ds_ret (de_and (de_ownEq EQ_TB hr (de_var 5) (de_call c_each_tied hr goesNB (da_cons de_int da_nil))) (de_one (de_ownEq EQ_TB hr (de_var 5) (de_make MK_Book hr (goes0A (E := DXK.no)) (da_cons de_int (da_cons (de_tup da_nil) da_nil))))))))))))))))), ?_⟩
  rintro ds M Q E ⟨ss, rfl, hl, hM, q⟩
  refine dSeq_then (fun γ' M' => ∃ p : Addr, γ' = [some (.ls (ss.map .int)), some (.ref p), none, none, none, none, none, none, none] ∧ DiceAt M' p) (fun nx hn => ?_) (fun γ1 M1 h1 => ?_)
  · simp only [dVar, dC, dOp, dTest, dII, dIC, dFld, dFldS, dMake, dProp, dAugS, dLcM, toM, dppNil, dppCons, dMerge, dDisp, dCatL, dCatLM, dRep, dRepM, dClear, dExtend, dRg1, dRg2, dLstRg, dLstRgM, dTupRg, dChain, dEq, dIsN, dAnd, dOr, dNot, dIfE, dNext, dSeq, dBreak, dCont, dDrop, dRet, dRetN, dIfS, dNever, dFrzS, dFrz, hName, hNil, hCons, hTup, hSub, dAsg, dPar, dAug, dipI, dNil, dCons, dTup, dLst, dLstM, dIx, dSet, dCall, dwipe, dYes, jSeq, jRng1, jRng2, jStr, jZip, dCB, dLen, dList, dListM, dTuple, dII2, dAbs, dInt, dBM0, dBM, dAppend, dPop, dPopAt, dAndV, dOrV, dNotV, dNeg, dTruth, dIn, dCat, dNoPart, dPart, dSl, dSlM, dNewK, dNewT, dIsi, dIsiT, dLc, dFor, dDc, dLenSet, dLenSetG, dRev, dIsB, dCallS, dRaise, dTry, dIsE, dOwnEq, dOwnNe, dIndex, dSortD, dMin1, dMax1, dIsiC, dLc2, dFrzA, dFrzE, jKeys, jVals, jItems, dLcH, dForH, dEqM, dSortX, dCmpX, dSortSet, dSortDM, dRaiseF, dMakeS, dTryHs, dWHs, dXf, endsD, slotD, dChain3, if_true, if_false, ite_true, ite_false, Bool.false_eq_true, reduceIte, Bool.not_true, Bool.not_false, List.getElem?_cons_zero, List.getElem?_cons_succ, List.set_cons_zero, List.set_cons_succ, List.map_cons, List.map_nil, List.replicate, List.cons_append, List.nil_append, List.length_cons, List.length_nil, dstart]
    exact ⟨ss, rfl, hl, fun p M2 _ hd _ => hn _ _ ⟨p, rfl, hd⟩⟩
  obtain ⟨p, rfl, hp⟩ := h1
  refine dSeq_then (fun γ' M' => ∃ k : Int, γ' = [some (.ls (ss.map .int)), some (.ref p), some (.int k), none, none, none, none, none, none] ∧ 0 ≤ k ∧ k < 8 ∧ DiceAt M' p) (fun nx hn => ?_) (fun γ2 M2 h => ?_)
  · simp only [dVar, dC, dOp, dTest, dII, dIC, dFld, dFldS, dMake, dProp, dAugS, dLcM, toM, dppNil, dppCons, dMerge, dDisp, dCatL, dCatLM, dRep, dRepM, dClear, dExtend, dRg1, dRg2, dLstRg, dLstRgM, dTupRg, dChain, dEq, dIsN, dAnd, dOr, dNot, dIfE, dNext, dSeq, dBreak, dCont, dDrop, dRet, dRetN, dIfS, dNever, dFrzS, dFrz, hName, hNil, hCons, hTup, hSub, dAsg, dPar, dAug, dipI, dNil, dCons, dTup, dLst, dLstM, dIx, dSet, dCall, dwipe, dYes, jSeq, jRng1, jRng2, jStr, jZip, dCB, dLen, dList, dListM, dTuple, dII2, dAbs, dInt, dBM0, dBM, dAppend, dPop, dPopAt, dAndV, dOrV, dNotV, dNeg, dTruth, dIn, dCat, dNoPart, dPart, dSl, dSlM, dNewK, dNewT, dIsi, dIsiT, dLc, dFor, dDc, dLenSet, dLenSetG, dRev, dIsB, dCallS, dRaise, dTry, dIsE, dOwnEq, dOwnNe, dIndex, dSortD, dMin1, dMax1, dIsiC, dLc2, dFrzA, dFrzE, jKeys, jVals, jItems, dLcH, dForH, dEqM, dSortX, dCmpX, dSortSet, dSortDM, dRaiseF, dMakeS, dTryHs, dWHs, dXf, endsD, slotD, dChain3, if_true, if_false, ite_true, ite_false, Bool.false_eq_true, reduceIte, Bool.not_true, Bool.not_false, List.getElem?_cons_zero, List.getElem?_cons_succ, List.set_cons_zero, List.set_cons_succ, List.map_cons, List.map_nil, List.replicate, List.cons_append, List.nil_append, List.length_cons, List.length_nil, dstart]
    exact ⟨p, 8, rfl, hp, by decide, by decide, fun r M2 h0 h1 hd _ => hn _ _ ⟨r, rfl, h0, h1, hd⟩⟩
  clear hp
  obtain ⟨k, rfl, k0, k1, hp⟩ := h
  refine dSeq_then (fun γ' M' => ∃ n ps, γ' = [some (.ls (ss.map .int)), some (.ref p), some (.int k), some (.int n), some (.tup (ps.map prD)), none, none, none, none] ∧ BookOk n ps ∧ DiceAt M' p) (fun nx hn => ?_) (fun γ3 M3 h => ?_)
  · simp only [dVar, dC, dOp, dTest, dII, dIC, dFld, dFldS, dMake, dProp, dAugS, dLcM, toM, dppNil, dppCons, dMerge, dDisp, dCatL, dCatLM, dRep, dRepM, dClear, dExtend, dRg1, dRg2, dLstRg, dLstRgM, dTupRg, dChain, dEq, dIsN, dAnd, dOr, dNot, dIfE, dNext, dSeq, dBreak, dCont, dDrop, dRet, dRetN, dIfS, dNever, dFrzS, dFrz, hName, hNil, hCons, hTup, hSub, dAsg, dPar, dAug, dipI, dNil, dCons, dTup, dLst, dLstM, dIx, dSet, dCall, dwipe, dYes, jSeq, jRng1, jRng2, jStr, jZip, dCB, dLen, dList, dListM, dTuple, dII2, dAbs, dInt, dBM0, dBM, dAppend, dPop, dPopAt, dAndV, dOrV, dNotV, dNeg, dTruth, dIn, dCat, dNoPart, dPart, dSl, dSlM, dNewK, dNewT, dIsi, dIsiT, dLc, dFor, dDc, dLenSet, dLenSetG, dRev, dIsB, dCallS, dRaise, dTry, dIsE, dOwnEq, dOwnNe, dIndex, dSortD, dMin1, dMax1, dIsiC, dLc2, dFrzA, dFrzE, jKeys, jVals, jItems, dLcH, dForH, dEqM, dSortX, dCmpX, dSortSet, dSortDM, dRaiseF, dMakeS, dTryHs, dWHs, dXf, endsD, slotD, dChain3, if_true, if_false, ite_true, ite_false, Bool.false_eq_true, reduceIte, Bool.not_true, Bool.not_false, List.getElem?_cons_zero, List.getElem?_cons_succ, List.set_cons_zero, List.set_cons_succ, List.map_cons, List.map_nil, List.replicate, List.cons_append, List.nil_append, List.length_cons, List.length_nil, dstart]
    exact ⟨p, 8, rfl, hp, by decide, by decide, fun n ps M2 ok _ d _ => ⟨rfl, hn _ _ ⟨n, ps, rfl, ok, d⟩⟩⟩
  clear hp
  obtain ⟨n, ps, rfl, okb, hp⟩ := h
  refine dSeq_then (fun γ' M' => ∃ n ps, γ' = [some (.ls (ss.map .int)), some (.ref p), some (.int k), some (.int n), some (.tup (ps.map prD)), none, none, none, none] ∧ BookOk n ps ∧ 2 ≤ n ∧ DiceAt M' p) (fun nx hn => ?_) (fun γ4 M4 h => ?_)
  · simp only [dVar, dC, dOp, dTest, dII, dIC, dFld, dFldS, dMake, dProp, dAugS, dLcM, toM, dppNil, dppCons, dMerge, dDisp, dCatL, dCatLM, dRep, dRepM, dClear, dExtend, dRg1, dRg2, dLstRg, dLstRgM, dTupRg, dChain, dEq, dIsN, dAnd, dOr, dNot, dIfE, dNext, dSeq, dBreak, dCont, dDrop, dRet, dRetN, dIfS, dNever, dFrzS, dFrz, hName, hNil, hCons, hTup, hSub, dAsg, dPar, dAug, dipI, dNil, dCons, dTup, dLst, dLstM, dIx, dSet, dCall, dwipe, dYes, jSeq, jRng1, jRng2, jStr, jZip, dCB, dLen, dList, dListM, dTuple, dII2, dAbs, dInt, dBM0, dBM, dAppend, dPop, dPopAt, dAndV, dOrV, dNotV, dNeg, dTruth, dIn, dCat, dNoPart, dPart, dSl, dSlM, dNewK, dNewT, dIsi, dIsiT, dLc, dFor, dDc, dLenSet, dLenSetG, dRev, dIsB, dCallS, dRaise, dTry, dIsE, dOwnEq, dOwnNe, dIndex, dSortD, dMin1, dMax1, dIsiC, dLc2, dFrzA, dFrzE, jKeys, jVals, jItems, dLcH, dForH, dEqM, dSortX, dCmpX, dSortSet, dSortDM, dRaiseF, dMakeS, dTryHs, dWHs, dXf, endsD, slotD, dChain3, if_true, if_false, ite_true, ite_false, Bool.false_eq_true, reduceIte, Bool.not_true, Bool.not_false, List.getElem?_cons_zero, List.getElem?_cons_succ, List.set_cons_zero, List.set_cons_succ, List.map_cons, List.map_nil, List.replicate, List.cons_append, List.nil_append, List.length_cons, List.length_nil, dstart]
    refine ⟨rfl, rfl, ?_⟩
    rw [D.eq_int]
    by_cases e : n = 1
    · rw [if_pos (beq_iff_eq.mpr e)]
      refine ⟨by decide, by decide, hn _ _ ⟨2, [(0, 1)], rfl, book2, by decide, hp⟩⟩
    · rw [if_neg (fun z => e (beq_iff_eq.mp z))]
      have := okb.lo
      exact hn _ _ ⟨n, ps, rfl, okb, by omega, hp⟩
  clear hp okb n ps
  obtain ⟨n, ps, rfl, okb, n2, hp⟩ := h
  have n8 := okb.hi
  have l28 := okb.pr.len28 okb.hi
  refine dSeq_then (fun γ' M' => ∃ b d, γ' = [some (.ls (ss.map .int)), some (.ref p), some (.int k), some (.int n), some (.tup (ps.map prD)), some (.ref b), none, none, none] ∧ BookAt C_TB M' b n ps d ∧ DiceAt M' p) (fun nx hn => ?_) (fun γ5 M5 h => ?_)
  · simp only [dVar, dC, dOp, dTest, dII, dIC, dFld, dFldS, dMake, dProp, dAugS, dLcM, toM, dppNil, dppCons, dMerge, dDisp, dCatL, dCatLM, dRep, dRepM, dClear, dExtend, dRg1, dRg2, dLstRg, dLstRgM, dTupRg, dChain, dEq, dIsN, dAnd, dOr, dNot, dIfE, dNext, dSeq, dBreak, dCont, dDrop, dRet, dRetN, dIfS, dNever, dFrzS, dFrz, hName, hNil, hCons, hTup, hSub, dAsg, dPar, dAug, dipI, dNil, dCons, dTup, dLst, dLstM, dIx, dSet, dCall, dwipe, dYes, jSeq, jRng1, jRng2, jStr, jZip, dCB, dLen, dList, dListM, dTuple, dII2, dAbs, dInt, dBM0, dBM, dAppend, dPop, dPopAt, dAndV, dOrV, dNotV, dNeg, dTruth, dIn, dCat, dNoPart, dPart, dSl, dSlM, dNewK, dNewT, dIsi, dIsiT, dLc, dFor, dDc, dLenSet, dLenSetG, dRev, dIsB, dCallS, dRaise, dTry, dIsE, dOwnEq, dOwnNe, dIndex, dSortD, dMin1, dMax1, dIsiC, dLc2, dFrzA, dFrzE, jKeys, jVals, jItems, dLcH, dForH, dEqM, dSortX, dCmpX, dSortSet, dSortDM, dRaiseF, dMakeS, dTryHs, dWHs, dXf, endsD, slotD, dChain3, if_true, if_false, ite_true, ite_false, Bool.false_eq_true, reduceIte, Bool.not_true, Bool.not_false, List.getElem?_cons_zero, List.getElem?_cons_succ, List.set_cons_zero, List.set_cons_succ, List.map_cons, List.map_nil, List.replicate, List.cons_append, List.nil_append, List.length_cons, List.length_nil, dstart]
    exact fun b hb => ⟨b, n, ps, rfl, mset_same, okb, fun d M2 hd B ag => ⟨rfl, hn _ _ ⟨b, d, rfl, B, hp.extE (Agree.newM hb hd ag)⟩⟩⟩
  clear hp
  obtain ⟨b, d, rfl, B, hp⟩ := h
  refine dSeq_then (fun γ' M' => ∃ o6, γ' = [some (.ls (ss.map .int)), some (.ref p), some (.int k), some (.int n), some (.tup (ps.map prD)), some (.ref b), o6, none, none] ∧ M' = M5) (fun nx hn => ?_) (fun γ6 M6 h => ?_)
  · simp only [dFor, jSeq, dVar, if_true, if_false, ite_true, ite_false, Bool.false_eq_true, reduceIte, Bool.not_true, Bool.not_false, List.getElem?_cons_zero, List.getElem?_cons_succ, List.set_cons_zero, List.set_cons_succ, List.map_cons, List.map_nil, List.replicate, List.cons_append, List.nil_append, List.length_cons, List.length_nil, dstart]
    refine dForI_of (fun i γ M' => ∃ o6, γ = [some (.ls (ss.map .int)), some (.ref p), some (.int k), some (.int n), some (.tup (ps.map prD)), some (.ref b), o6, none, none] ∧ M' = M5) ⟨none, rfl, rfl⟩ ?_ ?_
    · rintro i e γ M' he ⟨o6, rfl, rfl⟩
      obtain ⟨⟨u, v⟩, hpr, rfl⟩ := get_pr he
      simp only [dVar, dC, dOp, dTest, dII, dIC, dFld, dFldS, dMake, dProp, dAugS, dLcM, toM, dppNil, dppCons, dMerge, dDisp, dCatL, dCatLM, dRep, dRepM, dClear, dExtend, dRg1, dRg2, dLstRg, dLstRgM, dTupRg, dChain, dEq, dIsN, dAnd, dOr, dNot, dIfE, dNext, dSeq, dBreak, dCont, dDrop, dRet, dRetN, dIfS, dNever, dFrzS, dFrz, hName, hNil, hCons, hTup, hSub, dAsg, dPar, dAug, dipI, dNil, dCons, dTup, dLst, dLstM, dIx, dSet, dCall, dwipe, dYes, jSeq, jRng1, jRng2, jStr, jZip, dCB, dLen, dList, dListM, dTuple, dII2, dAbs, dInt, dBM0, dBM, dAppend, dPop, dPopAt, dAndV, dOrV, dNotV, dNeg, dTruth, dIn, dCat, dNoPart, dPart, dSl, dSlM, dNewK, dNewT, dIsi, dIsiT, dLc, dFor, dDc, dLenSet, dLenSetG, dRev, dIsB, dCallS, dRaise, dTry, dIsE, dOwnEq, dOwnNe, dIndex, dSortD, dMin1, dMax1, dIsiC, dLc2, dFrzA, dFrzE, jKeys, jVals, jItems, dLcH, dForH, dEqM, dSortX, dCmpX, dSortSet, dSortDM, dRaiseF, dMakeS, dTryHs, dWHs, dXf, endsD, slotD, dChain3, if_true, if_false, ite_true, ite_false, Bool.false_eq_true, reduceIte, Bool.not_true, Bool.not_false, List.getElem?_cons_zero, List.getElem?_cons_succ, List.set_cons_zero, List.set_cons_succ, List.map_cons, List.map_nil, List.replicate, List.cons_append, List.nil_append, List.length_cons, List.length_nil, dstart]
      refine ⟨b, n, ps, d, u, v, rfl, B, List.mem_of_getElem? hpr, ?_⟩
      simp only [if_true, if_false, ite_true, ite_false, Bool.false_eq_true, reduceIte, Bool.not_true, Bool.not_false, List.getElem?_cons_zero, List.getElem?_cons_succ, List.set_cons_zero, List.set_cons_succ, List.map_cons, List.map_nil, List.replicate, List.cons_append, List.nil_append, List.length_cons, List.length_nil, dstart]
      exact ⟨_, rfl, trivial⟩
    · rintro γ M' ⟨o6, rfl, rfl⟩
      exact hn _ _ ⟨o6, rfl, rfl⟩
  obtain ⟨o6, rfl, rfl⟩ := h
  refine dSeq_then (fun γ' M' => ∃ wr, γ' = [some (.ls (ss.map .int)), some (.ref p), some (.int k), some (.int n), some (.tup (ps.map prD)), some (.ref b), o6, some wr, none] ∧ M' = M6 ∧ (∀ M3, Sh1 M3 wr) ∧ ¬ ∃ p ∈ ps, wr = prD p) (fun nx hn => ?_) (fun γ7 M7 h => ?_)
  · have sa : ∀ t : D, (∀ M', (tyN M' t).isSome = true) → noKt t = true → (∀ l, t ≠ .tup l) → ∀ M', Sh1 M' t := fun t h1 h2 h3 M' => ⟨⟨h1 M', h2⟩, fun l e => absurd e (h3 l)⟩
    have np : ∀ p : Int × Int, ¬ prOk n p → ¬ ∃ p' ∈ ps, prD p = prD p' := fun p h ⟨p', hp', e⟩ => h (by rw [prD_inj e]; exact okb.pr.ok _ hp')
    simp only [dVar, dC, dOp, dTest, dII, dIC, dFld, dFldS, dMake, dProp, dAugS, dLcM, toM, dppNil, dppCons, dMerge, dDisp, dCatL, dCatLM, dRep, dRepM, dClear, dExtend, dRg1, dRg2, dLstRg, dLstRgM, dTupRg, dChain, dEq, dIsN, dAnd, dOr, dNot, dIfE, dNext, dSeq, dBreak, dCont, dDrop, dRet, dRetN, dIfS, dNever, dFrzS, dFrz, hName, hNil, hCons, hTup, hSub, dAsg, dPar, dAug, dipI, dNil, dCons, dTup, dLst, dLstM, dIx, dSet, dCall, dwipe, dYes, jSeq, jRng1, jRng2, jStr, jZip, dCB, dLen, dList, dListM, dTuple, dII2, dAbs, dInt, dBM0, dBM, dAppend, dPop, dPopAt, dAndV, dOrV, dNotV, dNeg, dTruth, dIn, dCat, dNoPart, dPart, dSl, dSlM, dNewK, dNewT, dIsi, dIsiT, dLc, dFor, dDc, dLenSet, dLenSetG, dRev, dIsB, dCallS, dRaise, dTry, dIsE, dOwnEq, dOwnNe, dIndex, dSortD, dMin1, dMax1, dIsiC, dLc2, dFrzA, dFrzE, jKeys, jVals, jItems, dLcH, dForH, dEqM, dSortX, dCmpX, dSortSet, dSortDM, dRaiseF, dMakeS, dTryHs, dWHs, dXf, endsD, slotD, dChain3, if_true, if_false, ite_true, ite_false, Bool.false_eq_true, reduceIte, Bool.not_true, Bool.not_false, List.getElem?_cons_zero, List.getElem?_cons_succ, List.set_cons_zero, List.set_cons_succ, List.map_cons, List.map_nil, List.replicate, List.cons_append, List.nil_append, List.length_cons, List.length_nil, dstart]
    refine ⟨by decide, by decide, by decide, by decide, by decide, by decide, by decide, ?_⟩
    rcases (by omega : k = 0 ∨ k = 1 ∨ k = 2 ∨ k = 3 ∨ k = 4 ∨ k = 5 ∨ k = 6 ∨ k = 7) with rfl | rfl | rfl | rfl | rfl | rfl | rfl | rfl
    · exact ⟨_, ixL_at (k := 0) (by decide) rfl, hn _ _ ⟨_, rfl, rfl, fun M3 => sh1_pr (1, 0) M3, np (1, 0) (by unfold prOk; simp only; omega)⟩⟩
    · exact ⟨_, ixL_at (k := 1) (by decide) rfl, hn _ _ ⟨_, rfl, rfl, sa _ (fun _ => rfl) rfl (fun l e => by cases e), fun ⟨p, hp, e⟩ => by cases e⟩⟩
    · exact ⟨_, ixL_at (k := 2) (by decide) rfl, hn _ _ ⟨_, rfl, rfl, fun M3 => sh1_pr (0, n) M3, np (0, n) (by unfold prOk; simp only; omega)⟩⟩
    · exact ⟨_, ixL_at (k := 3) (by decide) rfl, hn _ _ ⟨_, rfl, rfl, sa _ (fun _ => rfl) rfl (fun l e => by cases e), fun ⟨p, hp, e⟩ => by cases e⟩⟩
    · exact ⟨_, ixL_at (k := 4) (by decide) rfl, hn _ _ ⟨_, rfl, rfl, sh1_tup (fun y hy M3 => by rw [List.mem_singleton.mp hy]; rfl), fun ⟨p, hp, e⟩ => by injection e with e; have := congrArg List.length e; simp only [List.length_cons, List.length_nil] at this; omega⟩⟩
    · exact ⟨_, ixL_at (k := 5) (by decide) rfl, hn _ _ ⟨_, rfl, rfl, sh1_two (fun _ => rfl) (fun _ => rfl), fun ⟨p, hp, e⟩ => by cases e⟩⟩
    · refine ⟨_, ixL_at (k := 6) (by decide) rfl, hn _ _ ⟨_, rfl, rfl, sh1_tup (fun y hy M3 => by obtain ⟨z, _, rfl⟩ := List.mem_map.mp hy; rfl), fun ⟨p, hp, e⟩ => ?_⟩⟩
      injection e with e
      cases ps with
      | nil => cases hp
      | cons z zs => rw [List.map_cons] at e; injection e with e _; cases e
    · exact ⟨_, ixL_at (k := 7) (by decide) rfl, hn _ _ ⟨_, rfl, rfl, sh1_tup (fun y hy M3 => by
        simp only [List.mem_cons, List.not_mem_nil, or_false] at hy
        rcases hy with rfl | rfl | rfl <;> rfl), fun ⟨p, hp, e⟩ => by injection e with e; have := congrArg List.length e; simp only [List.length_cons, List.length_nil] at this; omega⟩⟩
  obtain ⟨wr, rfl, rfl, sh, nt⟩ := h
  refine dSeq_then (fun γ' M' => γ' = [some (.ls (ss.map .int)), some (.ref p), some (.int k), some (.int n), some (.tup (ps.map prD)), some (.ref b), o6, some wr, none] ∧ BookAt C_TB M' b n ps d ∧ DiceAt M' p) (fun nx hn => ?_) (fun γ8 M8 h => ?_)
  · simp only [dVar, dC, dOp, dTest, dII, dIC, dFld, dFldS, dMake, dProp, dAugS, dLcM, toM, dppNil, dppCons, dMerge, dDisp, dCatL, dCatLM, dRep, dRepM, dClear, dExtend, dRg1, dRg2, dLstRg, dLstRgM, dTupRg, dChain, dEq, dIsN, dAnd, dOr, dNot, dIfE, dNext, dSeq, dBreak, dCont, dDrop, dRet, dRetN, dIfS, dNever, dFrzS, dFrz, hName, hNil, hCons, hTup, hSub, dAsg, dPar, dAug, dipI, dNil, dCons, dTup, dLst, dLstM, dIx, dSet, dCall, dwipe, dYes, jSeq, jRng1, jRng2, jStr, jZip, dCB, dLen, dList, dListM, dTuple, dII2, dAbs, dInt, dBM0, dBM, dAppend, dPop, dPopAt, dAndV, dOrV, dNotV, dNeg, dTruth, dIn, dCat, dNoPart, dPart, dSl, dSlM, dNewK, dNewT, dIsi, dIsiT, dLc, dFor, dDc, dLenSet, dLenSetG, dRev, dIsB, dCallS, dRaise, dTry, dIsE, dOwnEq, dOwnNe, dIndex, dSortD, dMin1, dMax1, dIsiC, dLc2, dFrzA, dFrzE, jKeys, jVals, jItems, dLcH, dForH, dEqM, dSortX, dCmpX, dSortSet, dSortDM, dRaiseF, dMakeS, dTryHs, dWHs, dXf, endsD, slotD, dChain3, if_true, if_false, ite_true, ite_false, Bool.false_eq_true, reduceIte, Bool.not_true, Bool.not_false, List.getElem?_cons_zero, List.getElem?_cons_succ, List.set_cons_zero, List.set_cons_succ, List.map_cons, List.map_nil, List.replicate, List.cons_append, List.nil_append, List.length_cons, List.length_nil, dstart]
    refine ⟨b, n, ps, d, wr, rfl, B, sh _, nt, ?_⟩
    simp only [if_true, if_false, ite_true, ite_false, Bool.false_eq_true, reduceIte, Bool.not_true, Bool.not_false, List.getElem?_cons_zero, List.getElem?_cons_succ, List.set_cons_zero, List.set_cons_succ, List.map_cons, List.map_nil, List.replicate, List.cons_append, List.nil_append, List.length_cons, List.length_nil, dstart]
    refine ⟨by decide, fun w hw => ⟨w, 1, [], rfl, mset_same, book1, fun d1 M9 hd1 B1 ag => ⟨rfl, by decide, w, 1, [], d1, _, rfl, B1, sh1_two (fun _ => rfl) (fun _ => rfl) _, (fun ⟨p, hp, _⟩ => by cases hp), ?_⟩⟩⟩
    simp only [if_true, if_false, ite_true, ite_false, Bool.false_eq_true, reduceIte, Bool.not_true, Bool.not_false, List.getElem?_cons_zero, List.getElem?_cons_succ, List.set_cons_zero, List.set_cons_succ, List.map_cons, List.map_nil, List.replicate, List.cons_append, List.nil_append, List.length_cons, List.length_nil, dstart]
    exact hn _ _ ⟨rfl, B.ext (Agree.newM hw hd1 ag) (by simp) (by simp), hp.extE (Agree.newM hw hd1 ag)⟩
  clear B hp
  obtain ⟨rfl, B, hp⟩ := h
  refine dSeq_then (fun γ' M' => ∃ b d o6 o8, γ' = [some (.ls (ss.map .int)), some (.ref p), some (.int k), some (.int 1), some (.tup ([].map prD)), some (.ref b), o6, some wr, o8] ∧ BookAt C_TB M' b 1 [] d) (fun nx hn => ?_) (fun γ9 M9 h => ?_)
  · simp only [dFor, jRng1, dCons, dNil, dOp, dII, dC, dVar, if_true, if_false, ite_true, ite_false, Bool.false_eq_true, reduceIte, Bool.not_true, Bool.not_false, List.getElem?_cons_zero, List.getElem?_cons_succ, List.set_cons_zero, List.set_cons_succ, List.map_cons, List.map_nil, List.replicate, List.cons_append, List.nil_append, List.length_cons, List.length_nil, dstart]
    refine ⟨⟨by omega, by omega⟩, dForI_of (fun i γ M' => ∃ m qs b d o6 o8, γ = [some (.ls (ss.map .int)), some (.ref p), some (.int k), some (.int m), some (.tup (qs.map prD)), some (.ref b), o6, some wr, o8] ∧ m = n - (i : Int) ∧ BookAt C_TB M' b m qs d ∧ DiceAt M' p) ⟨n, ps, b, d, o6, none, rfl, by omega, B, hp⟩ ?_ ?_⟩
    · rintro i e γ M' he ⟨m, qs, b, d, o6, o8, rfl, em, B, hp⟩
      obtain ⟨hi, rfl⟩ := rgD_get he
      have m2 : 2 ≤ m := by omega
      have lq := book_some B.ok m2
      have l28 := B.ok.pr.len28 B.ok.hi
      have m8 := B.ok.hi
      have nb : b ≠ p := fun z => by
        obtain ⟨_, _, _, _, _, h1, _⟩ := hp.ex
        have := B.ob
        rw [z, h1] at this; cases this
      have nd : d ≠ p := fun z => by
        obtain ⟨_, _, _, _, _, h1, _⟩ := hp.ex
        have := B.fc
        rw [z, h1] at this
        injection this with this
        injection this with this
        have := congrArg List.length this
        simp [diceL] at this
      simp only [dVar, dC, dOp, dTest, dII, dIC, dFld, dFldS, dMake, dProp, dAugS, dLcM, toM, dppNil, dppCons, dMerge, dDisp, dCatL, dCatLM, dRep, dRepM, dClear, dExtend, dRg1, dRg2, dLstRg, dLstRgM, dTupRg, dChain, dEq, dIsN, dAnd, dOr, dNot, dIfE, dNext, dSeq, dBreak, dCont, dDrop, dRet, dRetN, dIfS, dNever, dFrzS, dFrz, hName, hNil, hCons, hTup, hSub, dAsg, dPar, dAug, dipI, dNil, dCons, dTup, dLst, dLstM, dIx, dSet, dCall, dwipe, dYes, jSeq, jRng1, jRng2, jStr, jZip, dCB, dLen, dList, dListM, dTuple, dII2, dAbs, dInt, dBM0, dBM, dAppend, dPop, dPopAt, dAndV, dOrV, dNotV, dNeg, dTruth, dIn, dCat, dNoPart, dPart, dSl, dSlM, dNewK, dNewT, dIsi, dIsiT, dLc, dFor, dDc, dLenSet, dLenSetG, dRev, dIsB, dCallS, dRaise, dTry, dIsE, dOwnEq, dOwnNe, dIndex, dSortD, dMin1, dMax1, dIsiC, dLc2, dFrzA, dFrzE, jKeys, jVals, jItems, dLcH, dForH, dEqM, dSortX, dCmpX, dSortSet, dSortDM, dRaiseF, dMakeS, dTryHs, dWHs, dXf, endsD, slotD, dChain3, if_true, if_false, ite_true, ite_false, Bool.false_eq_true, reduceIte, Bool.not_true, Bool.not_false, List.getElem?_cons_zero, List.getElem?_cons_succ, List.set_cons_zero, List.set_cons_succ, List.map_cons, List.map_nil, List.replicate, List.cons_append, List.nil_append, List.length_cons, List.length_nil, dstart]
      refine ⟨qs.length, by simp only [lenV, List.length_map], p, _, rfl, hp, by omega, by omega, fun r M2 r0 r1 hd ag => ?_⟩
      have Bb : BookAt C_TB M2 b m qs d := B.keep ag (by simpa using nb) (by simpa using nd)
      have e1 : qs[r.toNat]? = some qs[r.toNat] := List.getElem?_eq_getElem (by omega)
      have hm := List.mem_of_getElem? e1
      generalize qs[r.toNat] = t at e1 hm
      obtain ⟨a, g⟩ := t
      have hag := Bb.ok.pr.ok _ hm
      unfold prOk at hag
      simp only at hag
      refine ⟨prD (a, g), ixT_at (k := r.toNat) (by omega) (by rw [List.getElem?_map, e1]; rfl), ?_⟩
      refine ⟨b, m, qs, d, a, g, rfl, Bb, hm, ?_⟩
      simp only [if_true, if_false, ite_true, ite_false, Bool.false_eq_true, reduceIte, Bool.not_true, Bool.not_false, List.getElem?_cons_zero, List.getElem?_cons_succ, List.set_cons_zero, List.set_cons_succ, List.map_cons, List.map_nil, List.replicate, List.cons_append, List.nil_append, List.length_cons, List.length_nil, dstart]
      refine ⟨b, m, qs, d, prD (a, g), rfl, Bb, sh1_pr (a, g) M2, fun p' hp' e rs pw mem b2 d2 M3 hb2 hd2 B2 ex => ?_, fun nt => (nt ⟨_, hm, rfl⟩).elim⟩
      obtain rfl : (a, g) = p' := prD_inj e
      refine ⟨m - 1 + 1, qs, a, g, rfl, by rw [Int.sub_add_cancel]; exact Bb.ok.pr, hag.1, hag.2.1, by omega, by omega, fun rs2 pw2 mem2 => ?_⟩
      obtain rfl : rs = rs2 := lt_uniq pw pw2 fun r => (mem r).trans (mem2 r).symm
      exact ⟨m - 1, rs, b2, d2, _, _, rfl, by omega, B2, hd.extE ex⟩
    · rintro γ M' ⟨m, qs, b, d, o6, o8, rfl, em, B, hp⟩
      obtain rfl : m = 1 := by rw [rgD_len] at em; omega
      obtain rfl := book_none B.ok
      exact hn _ _ ⟨b, d, o6, o8, rfl, B⟩
  obtain ⟨b, d, o6, o8, rfl, B⟩ := h
  simp only [dVar, dC, dOp, dTest, dII, dIC, dFld, dFldS, dMake, dProp, dAugS, dLcM, toM, dppNil, dppCons, dMerge, dDisp, dCatL, dCatLM, dRep, dRepM, dClear, dExtend, dRg1, dRg2, dLstRg, dLstRgM, dTupRg, dChain, dEq, dIsN, dAnd, dOr, dNot, dIfE, dNext, dSeq, dBreak, dCont, dDrop, dRet, dRetN, dIfS, dNever, dFrzS, dFrz, hName, hNil, hCons, hTup, hSub, dAsg, dPar, dAug, dipI, dNil, dCons, dTup, dLst, dLstM, dIx, dSet, dCall, dwipe, dYes, jSeq, jRng1, jRng2, jStr, jZip, dCB, dLen, dList, dListM, dTuple, dII2, dAbs, dInt, dBM0, dBM, dAppend, dPop, dPopAt, dAndV, dOrV, dNotV, dNeg, dTruth, dIn, dCat, dNoPart, dPart, dSl, dSlM, dNewK, dNewT, dIsi, dIsiT, dLc, dFor, dDc, dLenSet, dLenSetG, dRev, dIsB, dCallS, dRaise, dTry, dIsE, dOwnEq, dOwnNe, dIndex, dSortD, dMin1, dMax1, dIsiC, dLc2, dFrzA, dFrzE, jKeys, jVals, jItems, dLcH, dForH, dEqM, dSortX, dCmpX, dSortSet, dSortDM, dRaiseF, dMakeS, dTryHs, dWHs, dXf, endsD, slotD, dChain3, if_true, if_false, ite_true, ite_false, Bool.false_eq_true, reduceIte, Bool.not_true, Bool.not_false, List.getElem?_cons_zero, List.getElem?_cons_succ, List.set_cons_zero, List.set_cons_succ, List.map_cons, List.map_nil, List.replicate, List.cons_append, List.nil_append, List.length_cons, List.length_nil, dstart]
  refine ⟨.int 1, rfl, rfl, fun n en n1 n8 b2 d2 M2 hb hd B2 ag => ?_, fun h => by cases h⟩
  cases en
  have ez : allPrs 1 (1 : Int).toNat = [] := book_none B2.ok
  rw [ez] at B2
  have ex : Ext M9 M2 [] := fun x o _ hx => by
    rw [ag x (by
      simp only [List.mem_cons, List.not_mem_nil, or_false, not_or]
      exact ⟨fun z => by (rw [z, hb] at hx; cases hx), fun z => by (rw [z, hd] at hx; cases hx)⟩)]
    exact hx
  have C := B.ext ex (by simp) (by simp)
  refine ⟨⟨_, C.ob⟩, ⟨_, B2.ob⟩, b, 1, [], d, b2, 1, [], d2, rfl, C, B2, _, rfl, ?_⟩
  simp only [decide_true, Bool.and_self, if_true, if_false, ite_true, ite_false, Bool.false_eq_true, reduceIte, Bool.not_true, Bool.not_false, List.getElem?_cons_zero, List.getElem?_cons_succ, List.set_cons_zero, List.set_cons_succ, List.map_cons, List.map_nil, List.replicate, List.cons_append, List.nil_append, List.length_cons, List.length_nil, dstart]
  refine ⟨by decide, fun w hw => ⟨w, 1, [], rfl, mset_same, book1, fun d3 M3 hd3 B3 ag3 => ?_⟩⟩
  have C2 := C.ext (Agree.newM hw hd3 ag3) (by simp) (by simp)
  refine ⟨rfl, ⟨_, C2.ob⟩, ⟨_, B3.ob⟩, b, 1, [], d, w, 1, [], d3, rfl, C2, B3, _, rfl, ?_⟩
  simp only [decide_true, Bool.and_self]
  exact fin_self (q _)
end
theorem all_mk {l : PySem.W.OpenLaw} {w : World} {K : PySem.W.Frag} {h : Heap} {mg : Str → Option Value} {fa : Addr} (X : K.In h) (G : h.Ns mainGlobals mg) (hfa : mg "law" = some (.ref fa))
    {C_TB : Addr} {E_LandsError : Addr} {E_NoContent : Addr} {E_NoNumber : Addr} {E_NoTie : Addr} {f1 : Addr} {od1 an1 : Option Addr} {sl1 : Array (Option Value)} {oc1 kV1 dc1 pm1 cd1 ct1 : Value} {f2 : Addr} {od2 an2 : Option Addr} {sl2 : Array (Option Value)} {oc2 kV2 dc2 pm2 cd2 ct2 : Value} {f3 : Addr} {od3 an3 : Option Addr} {sl3 : Array (Option Value)} {oc3 kV3 dc3 pm3 cd3 ct3 : Value} {pa3 : Addr} {re3 : List Value} {f4 : Addr} {od4 an4 : Option Addr} {sl4 : Array (Option Value)} {oc4 kV4 dc4 pm4 cd4 ct4 : Value} {pa4 : Addr} {re4 : List Value} {f5 : Addr} {od5 an5 : Option Addr} {sl5 : Array (Option Value)} {oc5 kV5 dc5 pm5 cd5 ct5 : Value} {f6 : Addr} {od6 an6 : Option Addr} {sl6 : Array (Option Value)} {oc6 kV6 dc6 pm6 cd6 ct6 : Value} {f7 : Addr} {od7 an7 : Option Addr} {sl7 : Array (Option Value)} {oc7 kV7 dc7 pm7 cd7 ct7 : Value} {f8 : Addr} {od8 an8 : Option Addr} {sl8 : Array (Option Value)} {oc8 kV8 dc8 pm8 cd8 ct8 : Value} {f9 : Addr} {od9 an9 : Option Addr} {sl9 : Array (Option Value)} {oc9 kV9 dc9 pm9 cd9 ct9 : Value} {f10 : Addr} {od10 an10 : Option Addr} {sl10 : Array (Option Value)} {oc10 kV10 dc10 pm10 cd10 ct10 : Value} {f11 : Addr} {od11 an11 : Option Addr} {sl11 : Array (Option Value)} {oc11 kV11 dc11 pm11 cd11 ct11 : Value} {f12 : Addr} {od12 an12 : Option Addr} {sl12 : Array (Option Value)} {oc12 kV12 dc12 pm12 cd12 ct12 : Value} {f13 : Addr} {od13 an13 : Option Addr} {sl13 : Array (Option Value)} {oc13 kV13 dc13 pm13 cd13 ct13 : Value} {f14 : Addr} {od14 an14 : Option Addr} {sl14 : Array (Option Value)} {oc14 kV14 dc14 pm14 cd14 ct14 : Value} {f15 : Addr} {od15 an15 : Option Addr} {sl15 : Array (Option Value)} {oc15 kV15 dc15 pm15 cd15 ct15 : Value} {f16 : Addr} {od16 an16 : Option Addr} {sl16 : Array (Option Value)} {oc16 kV16 dc16 pm16 cd16 ct16 : Value} {f17 : Addr} {od17 an17 : Option Addr} {sl17 : Array (Option Value)} {oc17 kV17 dc17 pm17 cd17 ct17 : Value} {f18 : Addr} {od18 an18 : Option Addr} {sl18 : Array (Option Value)} {oc18 kV18 dc18 pm18 cd18 ct18 : Value} {f19 : Addr} {od19 an19 : Option Addr} {sl19 : Array (Option Value)} {oc19 kV19 dc19 pm19 cd19 ct19 : Value} {f20 : Addr} {od20 an20 : Option Addr} {sl20 : Array (Option Value)} {oc20 kV20 dc20 pm20 cd20 ct20 : Value} {f21 : Addr} {od21 an21 : Option Addr} {sl21 : Array (Option Value)} {oc21 kV21 dc21 pm21 cd21 ct21 : Value} {f22 : Addr} {od22 an22 : Option Addr} {sl22 : Array (Option Value)} {oc22 kV22 dc22 pm22 cd22 ct22 : Value} {f23 : Addr} {od23 an23 : Option Addr} {sl23 : Array (Option Value)} {oc23 kV23 dc23 pm23 cd23 ct23 : Value} {f24 : Addr} {od24 an24 : Option Addr} {sl24 : Array (Option Value)} {oc24 kV24 dc24 pm24 cd24 ct24 : Value} {f25 : Addr} {od25 an25 : Option Addr} {sl25 : Array (Option Value)} {oc25 kV25 dc25 pm25 cd25 ct25 : Value} {f26 : Addr} {od26 an26 : Option Addr} {sl26 : Array (Option Value)} {oc26 kV26 dc26 pm26 cd26 ct26 : Value} {f27 : Addr} {od27 an27 : Option Addr} {sl27 : Array (Option Value)} {oc27 kV27 dc27 pm27 cd27 ct27 : Value} {tk_MOST_CONTENTS : Tok} {tk_MOST_TIES : Tok}
    (aC_TB : PySem.W.nsIn K mainGlobals "Book" = some (some (.ref C_TB)))
    (pg_TB : PySem.W.plainGet K C_TB Str.empty = true)
    (hd_TB : PySem.W.hasDictIn K C_TB = true)
    (po_TB : PySem.W.plainOver K C_TB = true)
    (sa_TB : PySem.W.findIn K (.ref C_TB) "__setattr__" = some (some (.builtin "object.__setattr__")))
    (isC_TB : PySem.W.isClsIn K C_TB = true)
    (tyC_TB : PySem.W.typeIn K (.ref C_TB) = some (.type "type"))
    (haC_TB : PySem.W.findIn K (.ref C_TB) "__class__" = some (some (.builtin "object.__class__")))
    (hmC_TB : PySem.W.mroIn K C_TB (.type "object") = some true)
    (n_TB_kept_size : PySem.W.findIn K (.ref C_TB) "kept_size" = some none)
    (n_TB_kept_ties : PySem.W.findIn K (.ref C_TB) "kept_ties" = some none)
    (n_TB_kept_facts : PySem.W.findIn K (.ref C_TB) "kept_facts" = some none)
    (aE_LandsError : PySem.W.nsIn K mainGlobals "LandsError" = some (some (.ref E_LandsError)))
    (bE_LandsError : PySem.W.subIn K (.ref E_LandsError) (.type "BaseException") = some true)
    (tE_LandsError : PySem.W.typeIn K (.ref E_LandsError) = some (.type "type"))
    (iE_LandsError : PySem.W.isClsIn K E_LandsError = true)
    (sE_LandsError : PySem.W.subIn K (.ref E_LandsError) (.ref E_LandsError) = some true)
    (aE_NoContent : PySem.W.nsIn K mainGlobals "NoContent" = some (some (.ref E_NoContent)))
    (bE_NoContent : PySem.W.subIn K (.ref E_NoContent) (.type "BaseException") = some true)
    (tE_NoContent : PySem.W.typeIn K (.ref E_NoContent) = some (.type "type"))
    (iE_NoContent : PySem.W.isClsIn K E_NoContent = true)
    (sE_NoContent : PySem.W.subIn K (.ref E_NoContent) (.ref E_NoContent) = some true)
    (aE_NoNumber : PySem.W.nsIn K mainGlobals "NoNumber" = some (some (.ref E_NoNumber)))
    (bE_NoNumber : PySem.W.subIn K (.ref E_NoNumber) (.type "BaseException") = some true)
    (tE_NoNumber : PySem.W.typeIn K (.ref E_NoNumber) = some (.type "type"))
    (iE_NoNumber : PySem.W.isClsIn K E_NoNumber = true)
    (sE_NoNumber : PySem.W.subIn K (.ref E_NoNumber) (.ref E_NoNumber) = some true)
    (aE_NoTie : PySem.W.nsIn K mainGlobals "NoTie" = some (some (.ref E_NoTie)))
    (bE_NoTie : PySem.W.subIn K (.ref E_NoTie) (.type "BaseException") = some true)
    (tE_NoTie : PySem.W.typeIn K (.ref E_NoTie) = some (.type "type"))
    (iE_NoTie : PySem.W.isClsIn K E_NoTie = true)
    (sE_NoTie : PySem.W.subIn K (.ref E_NoTie) (.ref E_NoTie) = some true)
    (kE_NoContent : PySem.W.keepIn K (.ref E_NoContent) = true)
    (xE_NoContent : PySem.W.excIn K E_NoContent [.type "ValueError", .type "Exception", .type "BaseException", .type "object"] "ValueError.__new__" = true)
    (hgE_NoContent : PySem.W.findIn K (.ref E_NoContent) "__getattribute__" = some (some (.builtin "BaseException.__getattribute__")))
    (hkE_NoContent : PySem.W.findIn K (.ref E_NoContent) "__getattr__" = some none)
    (hdE_NoContent : PySem.W.hasDictIn K E_NoContent = true)
    (haE_NoContent : PySem.W.findIn K (.ref E_NoContent) "__class__" = some (some (.builtin "object.__class__")))
    (hmE_NoContent : PySem.W.mroIn K E_NoContent (.type "object") = some true)
    (sE_NoContent_LandsError : PySem.W.subIn K (.ref E_NoContent) (.ref E_LandsError) = some true)
    (sE_NoContent_NoTie : PySem.W.subIn K (.ref E_NoContent) (.ref E_NoTie) = some false)
    (kE_NoNumber : PySem.W.keepIn K (.ref E_NoNumber) = true)
    (xE_NoNumber : PySem.W.excIn K E_NoNumber [.type "ValueError", .type "Exception", .type "BaseException", .type "object"] "ValueError.__new__" = true)
    (hgE_NoNumber : PySem.W.findIn K (.ref E_NoNumber) "__getattribute__" = some (some (.builtin "BaseException.__getattribute__")))
    (hkE_NoNumber : PySem.W.findIn K (.ref E_NoNumber) "__getattr__" = some none)
    (hdE_NoNumber : PySem.W.hasDictIn K E_NoNumber = true)
    (haE_NoNumber : PySem.W.findIn K (.ref E_NoNumber) "__class__" = some (some (.builtin "object.__class__")))
    (hmE_NoNumber : PySem.W.mroIn K E_NoNumber (.type "object") = some true)
    (sE_NoNumber_LandsError : PySem.W.subIn K (.ref E_NoNumber) (.ref E_LandsError) = some true)
    (sE_NoNumber_NoTie : PySem.W.subIn K (.ref E_NoNumber) (.ref E_NoTie) = some false)
    (kE_NoTie : PySem.W.keepIn K (.ref E_NoTie) = true)
    (xE_NoTie : PySem.W.excIn K E_NoTie [.type "ValueError", .type "Exception", .type "BaseException", .type "object"] "ValueError.__new__" = true)
    (hgE_NoTie : PySem.W.findIn K (.ref E_NoTie) "__getattribute__" = some (some (.builtin "BaseException.__getattribute__")))
    (hkE_NoTie : PySem.W.findIn K (.ref E_NoTie) "__getattr__" = some none)
    (hdE_NoTie : PySem.W.hasDictIn K E_NoTie = true)
    (haE_NoTie : PySem.W.findIn K (.ref E_NoTie) "__class__" = some (some (.builtin "object.__class__")))
    (hmE_NoTie : PySem.W.mroIn K E_NoTie (.type "object") = some true)
    (sE_NoTie_LandsError : PySem.W.subIn K (.ref E_NoTie) (.ref E_LandsError) = some true)
    (hnE : PySem.W.specialIn K (.builtin "object.__class__") "__get__" = some (some (.builtin "getset_descriptor.__get__")))
    (htE : PySem.W.takesIn K (.builtin "object.__class__") = some true)
    (a1 : PySem.W.findIn K (.ref C_TB) "__eq__" = some (some (.ref f1)))
    (i1 : PySem.W.isFn K (.ref f1) = true)
    (l1 : K.lookup f1 = some ⟨oc1, od1, .func (PySem.W.fnOf "__eq__" "Book.__eq__" (defArgs s_Book___eq__) (defBody s_Book___eq__) (defScope s_Book___eq__) .none kV1 dc1 pm1 an1 cd1 ct1), sl1⟩)
    (c1 : PySem.W.codeIn K cd1 "Book.__eq__" = true)
    (k1 : PySem.W.keepIn K (.ref f1) = true)
    (a2 : PySem.W.findIn K (.ref C_TB) "__init__" = some (some (.ref f2)))
    (i2 : PySem.W.isFn K (.ref f2) = true)
    (l2 : K.lookup f2 = some ⟨oc2, od2, .func (PySem.W.fnOf "__init__" "Book.__init__" (defArgs s_Book___init__) (defBody s_Book___init__) (defScope s_Book___init__) .none kV2 dc2 pm2 an2 cd2 ct2), sl2⟩)
    (c2 : PySem.W.codeIn K cd2 "Book.__init__" = true)
    (k2 : PySem.W.keepIn K (.ref f2) = true)
    (mk2 : PySem.W.makesIn K C_TB = true)
    (kc2 : PySem.W.keepIn K (.ref C_TB) = true)
    (a3 : PySem.W.findIn K (.ref C_TB) "size" = some (some (.ref pa3)))
    (g3 : PySem.W.specialIn K (.ref pa3) "__get__" = some (some (.builtin "property.__get__")))
    (t3 : PySem.W.takesIn K (.ref pa3) = some true)
    (r3 : PySem.W.recIn K pa3 "property" = some (.ref f3 :: re3))
    (l3 : K.lookup f3 = some ⟨oc3, od3, .func (PySem.W.fnOf "size" "Book.size" (defArgs s_Book_size) (defBody s_Book_size) (defScope s_Book_size) .none kV3 dc3 pm3 an3 cd3 ct3), sl3⟩)
    (c3 : PySem.W.codeIn K cd3 "Book.size" = true)
    (k3 : PySem.W.keepIn K (.ref f3) = true)
    (a4 : PySem.W.findIn K (.ref C_TB) "ties" = some (some (.ref pa4)))
    (g4 : PySem.W.specialIn K (.ref pa4) "__get__" = some (some (.builtin "property.__get__")))
    (t4 : PySem.W.takesIn K (.ref pa4) = some true)
    (r4 : PySem.W.recIn K pa4 "property" = some (.ref f4 :: re4))
    (l4 : K.lookup f4 = some ⟨oc4, od4, .func (PySem.W.fnOf "ties" "Book.ties" (defArgs s_Book_ties) (defBody s_Book_ties) (defScope s_Book_ties) .none kV4 dc4 pm4 an4 cd4 ct4), sl4⟩)
    (c4 : PySem.W.codeIn K cd4 "Book.ties" = true)
    (k4 : PySem.W.keepIn K (.ref f4) = true)
    (a5 : PySem.W.nsIn K mainGlobals "_law_draw" = some (some (.ref f5)))
    (l5 : K.lookup f5 = some ⟨oc5, od5, .func (PySem.W.fnOf "_law_draw" "_law_draw" (defArgs s__law_draw) (defBody s__law_draw) (defScope s__law_draw) .none kV5 dc5 pm5 an5 cd5 ct5), sl5⟩)
    (c5 : PySem.W.codeIn K cd5 "_law_draw" = true)
    (k5 : PySem.W.keepIn K (.ref f5) = true)
    (a6 : PySem.W.nsIn K mainGlobals "_law_order" = some (some (.ref f6)))
    (l6 : K.lookup f6 = some ⟨oc6, od6, .func (PySem.W.fnOf "_law_order" "_law_order" (defArgs s__law_order) (defBody s__law_order) (defScope s__law_order) .none kV6 dc6 pm6 an6 cd6 ct6), sl6⟩)
    (c6 : PySem.W.codeIn K cd6 "_law_order" = true)
    (k6 : PySem.W.keepIn K (.ref f6) = true)
    (a7 : PySem.W.nsIn K mainGlobals "_law_rising" = some (some (.ref f7)))
    (l7 : K.lookup f7 = some ⟨oc7, od7, .func (PySem.W.fnOf "_law_rising" "_law_rising" (defArgs s__law_rising) (defBody s__law_rising) (defScope s__law_rising) .none kV7 dc7 pm7 an7 cd7 ct7), sl7⟩)
    (c7 : PySem.W.codeIn K cd7 "_law_rising" = true)
    (k7 : PySem.W.keepIn K (.ref f7) = true)
    (a8 : PySem.W.nsIn K mainGlobals "_law_book" = some (some (.ref f8)))
    (l8 : K.lookup f8 = some ⟨oc8, od8, .func (PySem.W.fnOf "_law_book" "_law_book" (defArgs s__law_book) (defBody s__law_book) (defScope s__law_book) .none kV8 dc8 pm8 an8 cd8 ct8), sl8⟩)
    (c8 : PySem.W.codeIn K cd8 "_law_book" = true)
    (k8 : PySem.W.keepIn K (.ref f8) = true)
    (a9 : PySem.W.nsIn K mainGlobals "_law_are_tied" = some (some (.ref f9)))
    (l9 : K.lookup f9 = some ⟨oc9, od9, .func (PySem.W.fnOf "_law_are_tied" "_law_are_tied" (defArgs s__law_are_tied) (defBody s__law_are_tied) (defScope s__law_are_tied) .none kV9 dc9 pm9 an9 cd9 ct9), sl9⟩)
    (c9 : PySem.W.codeIn K cd9 "_law_are_tied" = true)
    (k9 : PySem.W.keepIn K (.ref f9) = true)
    (a10 : PySem.W.nsIn K mainGlobals "_law_due" = some (some (.ref f10)))
    (l10 : K.lookup f10 = some ⟨oc10, od10, .func (PySem.W.fnOf "_law_due" "_law_due" (defArgs s__law_due) (defBody s__law_due) (defScope s__law_due) .none kV10 dc10 pm10 an10 cd10 ct10), sl10⟩)
    (c10 : PySem.W.codeIn K cd10 "_law_due" = true)
    (k10 : PySem.W.keepIn K (.ref f10) = true)
    (a11 : PySem.W.nsIn K mainGlobals "is_integer" = some (some (.ref f11)))
    (l11 : K.lookup f11 = some ⟨oc11, od11, .func (PySem.W.fnOf "is_integer" "is_integer" (defArgs s_is_integer) (defBody s_is_integer) (defScope s_is_integer) .none kV11 dc11 pm11 an11 cd11 ct11), sl11⟩)
    (c11 : PySem.W.codeIn K cd11 "is_integer" = true)
    (k11 : PySem.W.keepIn K (.ref f11) = true)
    (a12 : PySem.W.nsIn K mainGlobals "is_within" = some (some (.ref f12)))
    (l12 : K.lookup f12 = some ⟨oc12, od12, .func (PySem.W.fnOf "is_within" "is_within" (defArgs s_is_within) (defBody s_is_within) (defScope s_is_within) .none kV12 dc12 pm12 an12 cd12 ct12), sl12⟩)
    (c12 : PySem.W.codeIn K cd12 "is_within" = true)
    (k12 : PySem.W.keepIn K (.ref f12) = true)
    (a13 : PySem.W.nsIn K mainGlobals "is_index" = some (some (.ref f13)))
    (l13 : K.lookup f13 = some ⟨oc13, od13, .func (PySem.W.fnOf "is_index" "is_index" (defArgs s_is_index) (defBody s_is_index) (defScope s_is_index) .none kV13 dc13 pm13 an13 cd13 ct13), sl13⟩)
    (c13 : PySem.W.codeIn K cd13 "is_index" = true)
    (k13 : PySem.W.keepIn K (.ref f13) = true)
    (a14 : PySem.W.nsIn K mainGlobals "is_rising_pair" = some (some (.ref f14)))
    (l14 : K.lookup f14 = some ⟨oc14, od14, .func (PySem.W.fnOf "is_rising_pair" "is_rising_pair" (defArgs s_is_rising_pair) (defBody s_is_rising_pair) (defScope s_is_rising_pair) .none kV14 dc14 pm14 an14 cd14 ct14), sl14⟩)
    (c14 : PySem.W.codeIn K cd14 "is_rising_pair" = true)
    (k14 : PySem.W.keepIn K (.ref f14) = true)
    (a15 : PySem.W.nsIn K mainGlobals "check_tie" = some (some (.ref f15)))
    (l15 : K.lookup f15 = some ⟨oc15, od15, .func (PySem.W.fnOf "check_tie" "check_tie" (defArgs s_check_tie) (defBody s_check_tie) (defScope s_check_tie) .none kV15 dc15 pm15 an15 cd15 ct15), sl15⟩)
    (c15 : PySem.W.codeIn K cd15 "check_tie" = true)
    (k15 : PySem.W.keepIn K (.ref f15) = true)
    (a16 : PySem.W.nsIn K mainGlobals "tie_of" = some (some (.ref f16)))
    (l16 : K.lookup f16 = some ⟨oc16, od16, .func (PySem.W.fnOf "tie_of" "tie_of" (defArgs s_tie_of) (defBody s_tie_of) (defScope s_tie_of) .none kV16 dc16 pm16 an16 cd16 ct16), sl16⟩)
    (c16 : PySem.W.codeIn K cd16 "tie_of" = true)
    (k16 : PySem.W.keepIn K (.ref f16) = true)
    (a17 : PySem.W.nsIn K mainGlobals "are_rising_pairs" = some (some (.ref f17)))
    (l17 : K.lookup f17 = some ⟨oc17, od17, .func (PySem.W.fnOf "are_rising_pairs" "are_rising_pairs" (defArgs s_are_rising_pairs) (defBody s_are_rising_pairs) (defScope s_are_rising_pairs) .none kV17 dc17 pm17 an17 cd17 ct17), sl17⟩)
    (c17 : PySem.W.codeIn K cd17 "are_rising_pairs" = true)
    (k17 : PySem.W.keepIn K (.ref f17) = true)
    (a18 : PySem.W.nsIn K mainGlobals "beside_lists" = some (some (.ref f18)))
    (l18 : K.lookup f18 = some ⟨oc18, od18, .func (PySem.W.fnOf "beside_lists" "beside_lists" (defArgs s_beside_lists) (defBody s_beside_lists) (defScope s_beside_lists) .none kV18 dc18 pm18 an18 cd18 ct18), sl18⟩)
    (c18 : PySem.W.codeIn K cd18 "beside_lists" = true)
    (k18 : PySem.W.keepIn K (.ref f18) = true)
    (a19 : PySem.W.nsIn K mainGlobals "reached" = some (some (.ref f19)))
    (l19 : K.lookup f19 = some ⟨oc19, od19, .func (PySem.W.fnOf "reached" "reached" (defArgs s_reached) (defBody s_reached) (defScope s_reached) .none kV19 dc19 pm19 an19 cd19 ct19), sl19⟩)
    (c19 : PySem.W.codeIn K cd19 "reached" = true)
    (k19 : PySem.W.keepIn K (.ref f19) = true)
    (a20 : PySem.W.nsIn K mainGlobals "drawn_together" = some (some (.ref f20)))
    (l20 : K.lookup f20 = some ⟨oc20, od20, .func (PySem.W.fnOf "drawn_together" "drawn_together" (defArgs s_drawn_together) (defBody s_drawn_together) (defScope s_drawn_together) .none kV20 dc20 pm20 an20 cd20 ct20), sl20⟩)
    (c20 : PySem.W.codeIn K cd20 "drawn_together" = true)
    (k20 : PySem.W.keepIn K (.ref f20) = true)
    (a21 : PySem.W.nsIn K mainGlobals "_law_refused" = some (some (.ref f21)))
    (l21 : K.lookup f21 = some ⟨oc21, od21, .func (PySem.W.fnOf "_law_refused" "_law_refused" (defArgs s__law_refused) (defBody s__law_refused) (defScope s__law_refused) .none kV21 dc21 pm21 an21 cd21 ct21), sl21⟩)
    (c21 : PySem.W.codeIn K cd21 "_law_refused" = true)
    (k21 : PySem.W.keepIn K (.ref f21) = true)
    (a22 : PySem.W.nsIn K mainGlobals "tied_of" = some (some (.ref f22)))
    (l22 : K.lookup f22 = some ⟨oc22, od22, .func (PySem.W.fnOf "tied_of" "tied_of" (defArgs s_tied_of) (defBody s_tied_of) (defScope s_tied_of) .none kV22 dc22 pm22 an22 cd22 ct22), sl22⟩)
    (c22 : PySem.W.codeIn K cd22 "tied_of" = true)
    (k22 : PySem.W.keepIn K (.ref f22) = true)
    (a23 : PySem.W.nsIn K mainGlobals "tied" = some (some (.ref f23)))
    (l23 : K.lookup f23 = some ⟨oc23, od23, .func (PySem.W.fnOf "tied" "tied" (defArgs s_tied) (defBody s_tied) (defScope s_tied) .none kV23 dc23 pm23 an23 cd23 ct23), sl23⟩)
    (c23 : PySem.W.codeIn K cd23 "tied" = true)
    (k23 : PySem.W.keepIn K (.ref f23) = true)
    (a24 : PySem.W.nsIn K mainGlobals "_law_right" = some (some (.ref f24)))
    (l24 : K.lookup f24 = some ⟨oc24, od24, .func (PySem.W.fnOf "_law_right" "_law_right" (defArgs s__law_right) (defBody s__law_right) (defScope s__law_right) .none kV24 dc24 pm24 an24 cd24 ct24), sl24⟩)
    (c24 : PySem.W.codeIn K cd24 "_law_right" = true)
    (k24 : PySem.W.keepIn K (.ref f24) = true)
    (a25 : PySem.W.nsIn K mainGlobals "_law_source" = some (some (.ref f25)))
    (l25 : K.lookup f25 = some ⟨oc25, od25, .func (PySem.W.fnOf "_law_source" "_law_source" (defArgs s__law_source) (defBody s__law_source) (defScope s__law_source) .none kV25 dc25 pm25 an25 cd25 ct25), sl25⟩)
    (c25 : PySem.W.codeIn K cd25 "_law_source" = true)
    (k25 : PySem.W.keepIn K (.ref f25) = true)
    (a26 : PySem.W.nsIn K mainGlobals "each_tied" = some (some (.ref f26)))
    (l26 : K.lookup f26 = some ⟨oc26, od26, .func (PySem.W.fnOf "each_tied" "each_tied" (defArgs s_each_tied) (defBody s_each_tied) (defScope s_each_tied) .none kV26 dc26 pm26 an26 cd26 ct26), sl26⟩)
    (c26 : PySem.W.codeIn K cd26 "each_tied" = true)
    (k26 : PySem.W.keepIn K (.ref f26) = true)
    (a27 : PySem.W.nsIn K mainGlobals "law" = some (some (.ref f27)))
    (l27 : K.lookup f27 = some ⟨oc27, od27, .func (PySem.W.fnOf "law" "law" (defArgs s_law) (defBody s_law) (defScope s_law) .none kV27 dc27 pm27 an27 cd27 ct27), sl27⟩)
    (c27 : PySem.W.codeIn K cd27 "law" = true)
    (k27 : PySem.W.keepIn K (.ref f27) = true)
    (z_all : PySem.W.nsIn K mainGlobals "all" = some none)
    (z_any : PySem.W.nsIn K mainGlobals "any" = some none)
    (z_bool : PySem.W.nsIn K mainGlobals "bool" = some none)
    (z_int : PySem.W.nsIn K mainGlobals "int" = some none)
    (z_isinstance : PySem.W.nsIn K mainGlobals "isinstance" = some none)
    (z_len : PySem.W.nsIn K mainGlobals "len" = some none)
    (z_list : PySem.W.nsIn K mainGlobals "list" = some none)
    (z_max : PySem.W.nsIn K mainGlobals "max" = some none)
    (z_min : PySem.W.nsIn K mainGlobals "min" = some none)
    (z_range : PySem.W.nsIn K mainGlobals "range" = some none)
    (z_sorted : PySem.W.nsIn K mainGlobals "sorted" = some none)
    (z_tuple : PySem.W.nsIn K mainGlobals "tuple" = some none)
    (v_MOST_CONTENTS : PySem.W.nsIn K mainGlobals "MOST_CONTENTS" = some (some (.int 8 tk_MOST_CONTENTS)))
    (v_MOST_TIES : PySem.W.nsIn K mainGlobals "MOST_TIES" = some (some (.int 28 tk_MOST_TIES))) :
    ∃ fd : FuncData, (∀ (s : Shared) (v : Value), BindsTo s fd ⟨[v], []⟩ [("_law_script", v)]) ∧ ∀ base : Heap, K.In base → base.Ns mainGlobals mg → FnOk l.prog w K mg base CX0 10 fa fd ["_law_script"] (liftSp K spLaw) := by
  have e := hfa.symm.trans (PySem.W.mg_of X G a27)
  cases e
  have B : Bn mg := ⟨PySem.W.mg_none_of X G z_all, PySem.W.mg_none_of X G z_any, PySem.W.mg_none_of X G z_bool, PySem.W.mg_none_of X G z_int, PySem.W.mg_none_of X G z_isinstance, PySem.W.mg_none_of X G z_len, PySem.W.mg_none_of X G z_list, PySem.W.mg_none_of X G z_max, PySem.W.mg_none_of X G z_min, PySem.W.mg_none_of X G z_range, PySem.W.mg_none_of X G z_sorted, PySem.W.mg_none_of X G z_tuple⟩
  have GG : Gs mg := ⟨⟨_, PySem.W.mg_of X G v_MOST_CONTENTS⟩, ⟨_, PySem.W.mg_of X G v_MOST_TIES⟩⟩
  have TB : Cl_TB K mg C_TB := ⟨⟨pg_TB, hd_TB, po_TB, sa_TB⟩, n_TB_kept_size, n_TB_kept_ties, n_TB_kept_facts⟩
  have CN_TB : mg "Book" = some (.ref C_TB) := PySem.W.mg_of X G aC_TB
  have IK_TB : IsC K C_TB := ⟨isC_TB, tyC_TB⟩
  have IC_TB : ICl K C_TB := ⟨TB.cl, haC_TB, hnE, htE, hmC_TB⟩
  have EX_LandsError : mg "LandsError" = some (.ref E_LandsError) := PySem.W.mg_of X G aE_LandsError
  have EX_NoContent : mg "NoContent" = some (.ref E_NoContent) := PySem.W.mg_of X G aE_NoContent
  have EX_NoNumber : mg "NoNumber" = some (.ref E_NoNumber) := PySem.W.mg_of X G aE_NoNumber
  have EX_NoTie : mg "NoTie" = some (.ref E_NoTie) := PySem.W.mg_of X G aE_NoTie
  have XC_NoContent : ExCls K mg "NoContent" E_NoContent := ⟨EX_NoContent, kE_NoContent, xE_NoContent, bE_NoContent, tE_NoContent⟩
  have XC_NoNumber : ExCls K mg "NoNumber" E_NoNumber := ⟨EX_NoNumber, kE_NoNumber, xE_NoNumber, bE_NoNumber, tE_NoNumber⟩
  have XC_NoTie : ExCls K mg "NoTie" E_NoTie := ⟨EX_NoTie, kE_NoTie, xE_NoTie, bE_NoTie, tE_NoTie⟩
  have XS : Exs K E_LandsError E_NoContent E_NoNumber E_NoTie := { c_NoContent := ⟨hgE_NoContent, hkE_NoContent, bE_NoContent, hdE_NoContent, haE_NoContent, hnE, htE, hmE_NoContent⟩, m_NoContent_LandsError := exm_ref bE_LandsError iE_LandsError tE_LandsError sE_NoContent_LandsError, k_NoContent_LandsError := kit_ref iE_LandsError tE_LandsError sE_NoContent sE_NoContent_LandsError, m_NoContent_NoTie := exm_ref bE_NoTie iE_NoTie tE_NoTie sE_NoContent_NoTie, k_NoContent_NoTie := kit_ref iE_NoTie tE_NoTie sE_NoContent sE_NoContent_NoTie, c_NoNumber := ⟨hgE_NoNumber, hkE_NoNumber, bE_NoNumber, hdE_NoNumber, haE_NoNumber, hnE, htE, hmE_NoNumber⟩, m_NoNumber_LandsError := exm_ref bE_LandsError iE_LandsError tE_LandsError sE_NoNumber_LandsError, k_NoNumber_LandsError := kit_ref iE_LandsError tE_LandsError sE_NoNumber sE_NoNumber_LandsError, m_NoNumber_NoTie := exm_ref bE_NoTie iE_NoTie tE_NoTie sE_NoNumber_NoTie, k_NoNumber_NoTie := kit_ref iE_NoTie tE_NoTie sE_NoNumber sE_NoNumber_NoTie, c_NoTie := ⟨hgE_NoTie, hkE_NoTie, bE_NoTie, hdE_NoTie, haE_NoTie, hnE, htE, hmE_NoTie⟩, m_NoTie_LandsError := exm_ref bE_LandsError iE_LandsError tE_LandsError sE_NoTie_LandsError, k_NoTie_LandsError := kit_ref iE_LandsError tE_LandsError sE_NoTie sE_NoTie_LandsError, m_NoTie_NoTie := exm_ref bE_NoTie iE_NoTie tE_NoTie sE_NoTie, k_NoTie_NoTie := kit_ref iE_NoTie tE_NoTie sE_NoTie sE_NoTie }
  have F1 : DMet K "__eq__" "Book.__eq__" s_Book___eq__ f1 ["self", "other"] := dmet_mk l1 c1 k1 (fun _ _ _ _ _ _ us hl => match us, hl with | [_, _], _ => rfl)
  have F2 : DMet K "__init__" "Book.__init__" s_Book___init__ f2 ["self", "size", "ties"] := dmet_mk l2 c2 k2 (fun _ _ _ _ _ _ us hl => match us, hl with | [_, _, _], _ => rfl)
  have F3 : DMet K "size" "Book.size" s_Book_size f3 ["self"] := dmet_mk l3 c3 k3 (fun _ _ _ _ _ _ us hl => match us, hl with | [_], _ => rfl)
  have F4 : DMet K "ties" "Book.ties" s_Book_ties f4 ["self"] := dmet_mk l4 c4 k4 (fun _ _ _ _ _ _ us hl => match us, hl with | [_], _ => rfl)
  have F5 : DFun K mg "_law_draw" s__law_draw ["_law_source_here", "_law_many"] := dfun_mk X G a5 l5 c5 k5 (fun _ _ _ _ _ _ us hl => match us, hl with | [_, _], _ => rfl)
  have F6 : DFun K mg "_law_order" s__law_order ["_law_source_here", "_law_size"] := dfun_mk X G a6 l6 c6 k6 (fun _ _ _ _ _ _ us hl => match us, hl with | [_, _], _ => rfl)
  have F7 : DFun K mg "_law_rising" s__law_rising ["_law_pairs"] := dfun_mk X G a7 l7 c7 k7 (fun _ _ _ _ _ _ us hl => match us, hl with | [_], _ => rfl)
  have F8 : DFun K mg "_law_book" s__law_book ["_law_source_here", "_law_most"] := dfun_mk X G a8 l8 c8 k8 (fun _ _ _ _ _ _ us hl => match us, hl with | [_, _], _ => rfl)
  have F9 : DFun K mg "_law_are_tied" s__law_are_tied ["_law_ties", "_law_tie", "_law_one", "_law_other"] := dfun_mk X G a9 l9 c9 k9 (fun _ _ _ _ _ _ us hl => match us, hl with | [_, _, _, _], _ => rfl)
  have F10 : DFun K mg "_law_due" s__law_due ["_law_size", "_law_ties", "_law_tie"] := dfun_mk X G a10 l10 c10 k10 (fun _ _ _ _ _ _ us hl => match us, hl with | [_, _, _], _ => rfl)
  have F11 : DFun K mg "is_integer" s_is_integer ["thing"] := dfun_mk X G a11 l11 c11 k11 (fun _ _ _ _ _ _ us hl => match us, hl with | [_], _ => rfl)
  have F12 : DFun K mg "is_within" s_is_within ["thing", "least", "most"] := dfun_mk X G a12 l12 c12 k12 (fun _ _ _ _ _ _ us hl => match us, hl with | [_, _, _], _ => rfl)
  have F13 : DFun K mg "is_index" s_is_index ["thing", "many"] := dfun_mk X G a13 l13 c13 k13 (fun _ _ _ _ _ _ us hl => match us, hl with | [_, _], _ => rfl)
  have F14 : DFun K mg "is_rising_pair" s_is_rising_pair ["thing", "many"] := dfun_mk X G a14 l14 c14 k14 (fun _ _ _ _ _ _ us hl => match us, hl with | [_, _], _ => rfl)
  have F15 : DFun K mg "check_tie" s_check_tie ["book", "thing"] := dfun_mk X G a15 l15 c15 k15 (fun _ _ _ _ _ _ us hl => match us, hl with | [_, _], _ => rfl)
  have F16 : DFun K mg "tie_of" s_tie_of ["one", "other"] := dfun_mk X G a16 l16 c16 k16 (fun _ _ _ _ _ _ us hl => match us, hl with | [_, _], _ => rfl)
  have F17 : DFun K mg "are_rising_pairs" s_are_rising_pairs ["thing", "many", "most"] := dfun_mk X G a17 l17 c17 k17 (fun _ _ _ _ _ _ us hl => match us, hl with | [_, _, _], _ => rfl)
  have F18 : DFun K mg "beside_lists" s_beside_lists ["many", "pairs"] := dfun_mk X G a18 l18 c18 k18 (fun _ _ _ _ _ _ us hl => match us, hl with | [_, _], _ => rfl)
  have F19 : DFun K mg "reached" s_reached ["rows", "inside", "start"] := dfun_mk X G a19 l19 c19 k19 (fun _ _ _ _ _ _ us hl => match us, hl with | [_, _, _], _ => rfl)
  have F20 : DFun K mg "drawn_together" s_drawn_together ["book", "tie"] := dfun_mk X G a20 l20 c20 k20 (fun _ _ _ _ _ _ us hl => match us, hl with | [_, _], _ => rfl)
  have F21 : DFun K mg "_law_refused" s__law_refused ["_law_book_here", "_law_thing"] := dfun_mk X G a21 l21 c21 k21 (fun _ _ _ _ _ _ us hl => match us, hl with | [_, _], _ => rfl)
  have F22 : DFun K mg "tied_of" s_tied_of ["book"] := dfun_mk X G a22 l22 c22 k22 (fun _ _ _ _ _ _ us hl => match us, hl with | [_], _ => rfl)
  have F23 : DFun K mg "tied" s_tied ["book", "content"] := dfun_mk X G a23 l23 c23 k23 (fun _ _ _ _ _ _ us hl => match us, hl with | [_, _], _ => rfl)
  have F24 : DFun K mg "_law_right" s__law_right ["_law_book_here", "_law_size", "_law_ties", "_law_tie"] := dfun_mk X G a24 l24 c24 k24 (fun _ _ _ _ _ _ us hl => match us, hl with | [_, _, _, _], _ => rfl)
  have F25 : DFun K mg "_law_source" s__law_source ["_law_script"] := dfun_mk X G a25 l25 c25 k25 (fun _ _ _ _ _ _ us hl => match us, hl with | [_], _ => rfl)
  have F26 : DFun K mg "each_tied" s_each_tied ["size"] := dfun_mk X G a26 l26 c26 k26 (fun _ _ _ _ _ _ us hl => match us, hl with | [_], _ => rfl)
  refine ⟨PySem.W.fnOf "law" "law" (defArgs s_law) (defBody s_law) (defScope s_law) .none kV27 dc27 pm27 an27 cd27 ct27, fun s v => .of_eq rfl, fun base _ _ => ?_⟩
  have m1 := c_Book___eq__ (P := l.prog) (w := w) (base := base) (C_TB := C_TB) F1 B GG TB CN_TB IK_TB IC_TB
  have EQ_TB : DEqM l.prog w K mg base 1 C_TB (sp_Book___eq__ C_TB) := ⟨by obtain ⟨fd, z1, z2⟩ := m1; exact ⟨_, fd, _, z1, a1, i1, z2⟩⟩
  have c__law_draw := c__law_draw (P := l.prog) (w := w) (base := base) F5 B GG 
  have c__law_order := c__law_order (P := l.prog) (w := w) (base := base) F6 B GG c__law_draw
  have c__law_rising := c__law_rising (P := l.prog) (w := w) (base := base) F7 B GG 
  have c__law_book := c__law_book (P := l.prog) (w := w) (base := base) F8 B GG c__law_draw c__law_order c__law_rising
  have c__law_are_tied := c__law_are_tied (P := l.prog) (w := w) (base := base) F9 B GG 
  have c__law_due := c__law_due (P := l.prog) (w := w) (base := base) F10 B GG c__law_are_tied
  have c_is_integer := c_is_integer (P := l.prog) (w := w) (base := base) F11 B GG 
  have c_is_within := c_is_within (P := l.prog) (w := w) (base := base) F12 B GG c_is_integer
  have c_is_index := c_is_index (P := l.prog) (w := w) (base := base) F13 B GG c_is_within
  have c_is_rising_pair := c_is_rising_pair (P := l.prog) (w := w) (base := base) F14 B GG c_is_index
  have c_check_tie := c_check_tie (P := l.prog) (w := w) (base := base) (C_TB := C_TB) (E_NoTie := E_NoTie) F15 B GG TB c_is_rising_pair XC_NoTie
  have c_tie_of := c_tie_of (P := l.prog) (w := w) (base := base) F16 B GG 
  have c_are_rising_pairs := c_are_rising_pairs (P := l.prog) (w := w) (base := base) F17 B GG c_is_rising_pair
  have c_beside_lists := c_beside_lists (P := l.prog) (w := w) (base := base) F18 B GG 
  have c_reached := c_reached (P := l.prog) (w := w) (base := base) F19 B GG 
  have m2 := c_Book___init__ (P := l.prog) (w := w) (base := base) (C_TB := C_TB) F2 B GG TB c_are_rising_pairs c_beside_lists c_is_within c_reached
  have MK_Book := dmk_mk X G aC_TB ⟨mk2, a2, i2, kc2⟩ m2
  have c_drawn_together := c_drawn_together (P := l.prog) (w := w) (base := base) (C_TB := C_TB) (E_NoTie := E_NoTie) F20 B GG TB c_check_tie c_tie_of MK_Book
  have c__law_refused := c__law_refused (P := l.prog) (w := w) (base := base) (C_TB := C_TB) (E_NoTie := E_NoTie) (E_LandsError := E_LandsError) (E_NoContent := E_NoContent) (E_NoNumber := E_NoNumber) F21 B GG c_drawn_together EX_LandsError EX_NoTie XS
  have c_tied_of := c_tied_of (P := l.prog) (w := w) (base := base) (C_TB := C_TB) F22 B GG TB
  have c_tied := c_tied (P := l.prog) (w := w) (base := base) (C_TB := C_TB) (E_NoContent := E_NoContent) F23 B GG TB c_is_index c_tied_of XC_NoContent
  have m3 := c_Book_size (P := l.prog) (w := w) (base := base) (C_TB := C_TB) F3 B GG TB
  have TB_p_size := dpr_mk ⟨a3, g3, t3, ⟨_, r3⟩⟩ m3
  have m4 := c_Book_ties (P := l.prog) (w := w) (base := base) (C_TB := C_TB) F4 B GG TB
  have TB_p_ties := dpr_mk ⟨a4, g4, t4, ⟨_, r4⟩⟩ m4
  have c__law_right := c__law_right (P := l.prog) (w := w) (base := base) (C_TB := C_TB) (E_NoTie := E_NoTie) (E_NoContent := E_NoContent) F24 B GG TB c__law_due c_drawn_together c_tied MK_Book EQ_TB CN_TB IK_TB IC_TB TB_p_size TB_p_ties
  have c__law_source := c__law_source (P := l.prog) (w := w) (base := base) F25 B GG 
  have c_each_tied := c_each_tied (P := l.prog) (w := w) (base := base) (C_TB := C_TB) (E_NoNumber := E_NoNumber) F26 B GG c_is_within MK_Book XC_NoNumber
  exact c_law (fun_mk (st := s_law) l27 c27 k27) B GG c__law_book c__law_draw c__law_due c__law_refused c__law_right c__law_source c_drawn_together c_each_tied MK_Book EQ_TB
end DL
open PySem PySem.W PyProof.Rows
set_option maxRecDepth 100000 in
set_option maxHeartbeats 0 in
theorem PySem.Challenge.cw_storelands_k10_whole_contents_drawn_toge_holds : PySem.Challenge.rw_storelands_k10_whole_contents_drawn_toge.Holds := by
  w_on; o_law; k_head; (case hw => w_witness2)
  k_fill
  refine DL.walk_law (k := 10) (x := "_law_script") (l := PySem.Challenge.rw_storelands_k10_whole_contents_drawn_toge) rfl rfl ⟨rfl, by decide, by decide⟩ (fun w h Y => PySem.W.kIn_of Y) ?F
  case F =>
    intro w mg fa h KX G hmg
    refine' DL.all_mk KX G hmg ?aC_TB ?pg_TB ?hd_TB ?po_TB ?sa_TB ?isC_TB ?tyC_TB ?haC_TB ?hmC_TB ?n_TB_kept_size ?n_TB_kept_ties ?n_TB_kept_facts ?aE_LandsError ?bE_LandsError ?tE_LandsError ?iE_LandsError ?sE_LandsError ?aE_NoContent ?bE_NoContent ?tE_NoContent ?iE_NoContent ?sE_NoContent ?aE_NoNumber ?bE_NoNumber ?tE_NoNumber ?iE_NoNumber ?sE_NoNumber ?aE_NoTie ?bE_NoTie ?tE_NoTie ?iE_NoTie ?sE_NoTie ?kE_NoContent ?xE_NoContent ?hgE_NoContent ?hkE_NoContent ?hdE_NoContent ?haE_NoContent ?hmE_NoContent ?sE_NoContent_LandsError ?sE_NoContent_NoTie ?kE_NoNumber ?xE_NoNumber ?hgE_NoNumber ?hkE_NoNumber ?hdE_NoNumber ?haE_NoNumber ?hmE_NoNumber ?sE_NoNumber_LandsError ?sE_NoNumber_NoTie ?kE_NoTie ?xE_NoTie ?hgE_NoTie ?hkE_NoTie ?hdE_NoTie ?haE_NoTie ?hmE_NoTie ?sE_NoTie_LandsError ?hnE ?htE ?a1 ?i1 ?l1 ?c1 ?k1 ?a2 ?i2 ?l2 ?c2 ?k2 ?mk2 ?kc2 ?a3 ?g3 ?t3 ?r3 ?l3 ?c3 ?k3 ?a4 ?g4 ?t4 ?r4 ?l4 ?c4 ?k4 ?a5 ?l5 ?c5 ?k5 ?a6 ?l6 ?c6 ?k6 ?a7 ?l7 ?c7 ?k7 ?a8 ?l8 ?c8 ?k8 ?a9 ?l9 ?c9 ?k9 ?a10 ?l10 ?c10 ?k10 ?a11 ?l11 ?c11 ?k11 ?a12 ?l12 ?c12 ?k12 ?a13 ?l13 ?c13 ?k13 ?a14 ?l14 ?c14 ?k14 ?a15 ?l15 ?c15 ?k15 ?a16 ?l16 ?c16 ?k16 ?a17 ?l17 ?c17 ?k17 ?a18 ?l18 ?c18 ?k18 ?a19 ?l19 ?c19 ?k19 ?a20 ?l20 ?c20 ?k20 ?a21 ?l21 ?c21 ?k21 ?a22 ?l22 ?c22 ?k22 ?a23 ?l23 ?c23 ?k23 ?a24 ?l24 ?c24 ?k24 ?a25 ?l25 ?c25 ?k25 ?a26 ?l26 ?c26 ?k26 ?a27 ?l27 ?c27 ?k27 ?z_all ?z_any ?z_bool ?z_int ?z_isinstance ?z_len ?z_list ?z_max ?z_min ?z_range ?z_sorted ?z_tuple ?v_MOST_CONTENTS ?v_MOST_TIES
    (case aC_TB => k_is); (case pg_TB => k_is); (case hd_TB => k_is); (case po_TB => k_is); (case sa_TB => k_is); (case isC_TB => k_is)
    (case tyC_TB => k_is); (case haC_TB => k_is); (case hmC_TB => k_is); (case n_TB_kept_size => k_is); (case n_TB_kept_ties => k_is); (case n_TB_kept_facts => k_is)
    (case aE_LandsError => k_is); (case bE_LandsError => k_is); (case tE_LandsError => k_is); (case iE_LandsError => k_is); (case sE_LandsError => k_is); (case aE_NoContent => k_is)
    (case bE_NoContent => k_is); (case tE_NoContent => k_is); (case iE_NoContent => k_is); (case sE_NoContent => k_is); (case aE_NoNumber => k_is); (case bE_NoNumber => k_is)
    (case tE_NoNumber => k_is); (case iE_NoNumber => k_is); (case sE_NoNumber => k_is); (case aE_NoTie => k_is); (case bE_NoTie => k_is); (case tE_NoTie => k_is)
    (case iE_NoTie => k_is); (case sE_NoTie => k_is); (case kE_NoContent => k_is); (case xE_NoContent => k_exc); (case hgE_NoContent => k_is); (case hkE_NoContent => k_is)
    (case hdE_NoContent => k_is); (case haE_NoContent => k_is); (case hmE_NoContent => k_is); (case sE_NoContent_LandsError => k_is); (case sE_NoContent_NoTie => k_is); (case kE_NoNumber => k_is)
    (case xE_NoNumber => k_exc); (case hgE_NoNumber => k_is); (case hkE_NoNumber => k_is); (case hdE_NoNumber => k_is); (case haE_NoNumber => k_is); (case hmE_NoNumber => k_is)
    (case sE_NoNumber_LandsError => k_is); (case sE_NoNumber_NoTie => k_is); (case kE_NoTie => k_is); (case xE_NoTie => k_exc); (case hgE_NoTie => k_is); (case hkE_NoTie => k_is)
    (case hdE_NoTie => k_is); (case haE_NoTie => k_is); (case hmE_NoTie => k_is); (case sE_NoTie_LandsError => k_is); (case hnE => k_is); (case htE => k_is)
    (case a1 => k_is); (case i1 => k_is); (case l1 => k_is); (case c1 => k_is); (case k1 => k_is); (case a2 => k_is)
    (case i2 => k_is); (case l2 => k_is); (case c2 => k_is); (case k2 => k_is); (case mk2 => k_is); (case kc2 => k_is)
    (case a3 => k_is); (case g3 => k_is); (case t3 => k_is); (case r3 => k_is); (case l3 => k_is); (case c3 => k_is)
    (case k3 => k_is); (case a4 => k_is); (case g4 => k_is); (case t4 => k_is); (case r4 => k_is); (case l4 => k_is)
    (case c4 => k_is); (case k4 => k_is); (case a5 => k_is); (case l5 => k_is); (case c5 => k_is); (case k5 => k_is)
    (case a6 => k_is); (case l6 => k_is); (case c6 => k_is); (case k6 => k_is); (case a7 => k_is); (case l7 => k_is)
    (case c7 => k_is); (case k7 => k_is); (case a8 => k_is); (case l8 => k_is); (case c8 => k_is); (case k8 => k_is)
    (case a9 => k_is); (case l9 => k_is); (case c9 => k_is); (case k9 => k_is); (case a10 => k_is); (case l10 => k_is)
    (case c10 => k_is); (case k10 => k_is); (case a11 => k_is); (case l11 => k_is); (case c11 => k_is); (case k11 => k_is)
    (case a12 => k_is); (case l12 => k_is); (case c12 => k_is); (case k12 => k_is); (case a13 => k_is); (case l13 => k_is)
    (case c13 => k_is); (case k13 => k_is); (case a14 => k_is); (case l14 => k_is); (case c14 => k_is); (case k14 => k_is)
    (case a15 => k_is); (case l15 => k_is); (case c15 => k_is); (case k15 => k_is); (case a16 => k_is); (case l16 => k_is)
    (case c16 => k_is); (case k16 => k_is); (case a17 => k_is); (case l17 => k_is); (case c17 => k_is); (case k17 => k_is)
    (case a18 => k_is); (case l18 => k_is); (case c18 => k_is); (case k18 => k_is); (case a19 => k_is); (case l19 => k_is)
    (case c19 => k_is); (case k19 => k_is); (case a20 => k_is); (case l20 => k_is); (case c20 => k_is); (case k20 => k_is)
    (case a21 => k_is); (case l21 => k_is); (case c21 => k_is); (case k21 => k_is); (case a22 => k_is); (case l22 => k_is)
    (case c22 => k_is); (case k22 => k_is); (case a23 => k_is); (case l23 => k_is); (case c23 => k_is); (case k23 => k_is)
    (case a24 => k_is); (case l24 => k_is); (case c24 => k_is); (case k24 => k_is); (case a25 => k_is); (case l25 => k_is)
    (case c25 => k_is); (case k25 => k_is); (case a26 => k_is); (case l26 => k_is); (case c26 => k_is); (case k26 => k_is)
    (case a27 => k_is); (case l27 => k_is); (case c27 => k_is); (case k27 => k_is); (case z_all => k_is); (case z_any => k_is)
    (case z_bool => k_is); (case z_int => k_is); (case z_isinstance => k_is); (case z_len => k_is); (case z_list => k_is); (case z_max => k_is)
    (case z_min => k_is); (case z_range => k_is); (case z_sorted => k_is); (case z_tuple => k_is); (case v_MOST_CONTENTS => k_is); (case v_MOST_TIES => k_is)

