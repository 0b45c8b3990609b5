import PyProof.Rows.All
import Wide.All
import OpenK.AllK
import Wide.FinOn
import HandS.ForMost
import HandS.ForExc
import HandS.IsInst
import HandS.TupAny
import HandS.Deep
import HandS.Flow
import HandS.Zip
import HandS.Comp
import HandS.ExcCtx
import HandS.Walk
import HandS.TupLen
import HandS.Conv
import HandS.SortInts
import HandS.SortRule
import HandS.SetFor
import HandS.More
import HandS.Property
import HandS.NoneIn
import HandS.TupLe
import HandS.Ends
import HandS.DictComp
import HandS.Style
import HandS.ExcOwn
import HandS.ExcIs
import PyProof.ExcBaseAll.ValueError
import HandS.Iter
import KE.SortUse
import KE.DataCmp
import HandS.Strs
import PyProof.EqKinds
import HandS.ExcInit
import HandS.ExcField
import KE.KExcSuper
import KE.KSuper
import HandS.TryMany
import HandS.HeadHook3
import HandS.Codes
import HandS.TupMul
import HandS.TupSets
import KE.GoesMore
import PyProof.AutoSeq1
import PyProof.SumWalk
import PyProof.ListOps
import PyProof.ReprRoads
import PyProof.CallFns
import PyProof.ReprLen
import KE.KDictCopyH
import HandS.SetKeys
import HandS.DictTup
import KE.KUnpackStar
import HandS.FStr
import HandS.CallLocal
import KE.KIntText
import PyProof.StrLawsTight
import PyProof.StrLawsChain
import PyProof.Rows.StrSplitAre
import PyProof.StrLawsIn
import HandS.Hot
import HandS.HotCalls
import HandS.Head0
import HandS.Head1
import HandS.Head2
import HandS.HeadEnd
import HandS.HeadHook1
import HandS.HeadHook2
import KE.KDictZip
import KE.KDictKeyed
import KE.DataMinMax
import PyProof.P3Eq
import PySem.Challenge.RW_storelands_k44_whole_rims
set_option Elab.async false
set_option linter.all false
set_option maxRecDepth 100000
set_option maxHeartbeats 2000000
namespace DL
open PySem PySem.Spec PyProof.Rows L2

/-- data: scalars, references (what may change), frozen tuples and lists -/
inductive D where
  | non | bl (b : Bool) | int (i : Int) | str (x : Str) | ref (a : Addr) | ty (n : String)
  | tup (l : List D) | lst (l : List D) | kt (l : List D) | ls (l : List D)
  | dk (ks : List Key) (l : List D) | dt (ks : List (List Key)) (l : List D)

/-- what may change -/
inductive MO where
  | lst (l : List D)
  | dK (kvs : List (Key × D))
  | dT (kvs : List (List Key × D))
  | ins (C : Addr) (fs : List (Str × D))

abbrev Mp := Addr → Option MO
def mset (M : Mp) (a : Addr) (o : MO) : Mp := fun b => if b = a then some o else M b
def mdel (M : Mp) (a : Addr) : Mp := fun b => if b = a then none else M b
theorem mne_of_none {M : Mp} {a b : Addr} {o : MO} (h : M a = some o) (h' : M b = none) : a ≠ b := by
  intro e; subst e; rw [h] at h'; cases h'
theorem mset_same {M : Mp} {a : Addr} {o : MO} : mset M a o a = some o := if_pos rfl
theorem mset_ne {M : Mp} {a b : Addr} {o : MO} (h : b ≠ a) : mset M a o b = M b := if_neg h
theorem mdel_same {M : Mp} {a : Addr} : mdel M a a = none := if_pos rfl
theorem mdel_ne {M : Mp} {a b : Addr} (h : b ≠ a) : mdel M a b = M b := if_neg h
theorem mset_mset {M : Mp} {a : Addr} {o u : MO} : mset (mset M a o) a u = mset M a u := by
  funext b; unfold mset; split <;> rfl

/-- what is frozen, what is somebody else's (it stays as it is), dicts that are frozen -/
structure FZ where
  f : Hp
  p : Hp
  d : Hp
abbrev Sm (F F1 : FZ) : Prop := Same F.f F1.f ∧ Same F.d F1.d
theorem Sm.rfl' {F : FZ} : Sm F F := ⟨Same.refl _, Same.refl _⟩
theorem Sm.trans' {F F1 F2 : FZ} (a : Sm F F1) (b : Sm F1 F2) : Sm F F2 := ⟨a.1.trans b.1, a.2.trans b.2⟩
structure FLe (F F1 : FZ) : Prop where
  s : Sm F F1
  e : F1.p = F.p
theorem FLe.refl (F : FZ) : FLe F F := ⟨Sm.rfl', rfl⟩
theorem FLe.trans {F F1 F2 : FZ} (a : FLe F F1) (b : FLe F1 F2) : FLe F F2 := ⟨a.s.trans' b.s, b.e.trans a.e⟩
/-- what stands on a base: its frozen things, and what was somebody else's -/
structure Bs (F0 F : FZ) : Prop where
  f : Sm F0 F
  p : Same F0.p F.p
theorem Bs.refl (F : FZ) : Bs F F := ⟨Sm.rfl', Same.refl _⟩
theorem Bs.tr {F0 F F1 : FZ} (a : Bs F0 F) (b : FLe F F1) : Bs F0 F1 := ⟨a.f.trans' b.s, by rw [b.e]; exact a.p⟩
def FZ.put (F : FZ) (a : Addr) (o : HO) : FZ := ⟨upd F.f a o, F.p, F.d⟩
/-- a tuple of the written part -/
def KTup (K : PySem.W.Frag) (a : Addr) (xs : List V) : Prop := ∃ (o : Obj) (its : Array Value) (n : Nat), K.lookup a = some o ∧ o.cls = .type "tuple" ∧ o.data = .seq its n ∧ its.size ≤ sizeLine ∧ Vals xs its.toList ∧ o.dict = none
/-- a tuple of the written part, or one whose object is known: it has no attributes of its own -/
def KtF (K : PySem.W.Frag) (F : FZ) (a : Addr) (xs : List V) : Prop := KTup K a xs ∨ ∃ o : Obj, F.f a = some (.frz o (.tup xs)) ∧ o.dict = none
theorem KtF.mono {K : PySem.W.Frag} {F F' : FZ} {a : Addr} {xs : List V} (h : KtF K F a xs) (e : Sm F F') : KtF K F' a xs := h.imp (fun z => z) fun ⟨o, z, y⟩ => ⟨o, e.1 _ _ z, y⟩
mutual
inductive Rp (K : PySem.W.Frag) (F : FZ) : D → V → Prop
  | non : Rp K F .non .non
  | bl (b : Bool) : Rp K F (.bl b) (.bl b)
  | int (i : Int) : Rp K F (.int i) (.int i)
  | str (x : Str) : Rp K F (.str x) (.str x)
  | ref (a : Addr) : Rp K F (.ref a) (.ref a)
  | ty (n : String) : Rp K F (.ty n) (.ty n)
  | tup {a : Addr} {xs : List V} {ds : List D} : F.f a = some (.tup xs) → RpL K F ds xs → Rp K F (.tup ds) (.ref a)
  | kt {a : Addr} {xs : List V} {ds : List D} : KtF K F a xs → RpL K F ds xs → Rp K F (.kt ds) (.ref a)
  | lst {a : Addr} {xs : List V} {ds : List D} : F.f a = some (.lst xs) → RpL K F ds xs → Rp K F (.lst ds) (.ref a)
  | ls {a : Addr} {xs : List V} {ds : List D} : SqL K F.f a xs → RpL K F ds xs → Rp K F (.ls ds) (.ref a)
  | dk {a : Addr} {ps : List (Key × V)} {ds : List D} : F.d a = some (.dK ps) → RpL K F ds (ps.map (·.2)) → Rp K F (.dk (ps.map (·.1)) ds) (.ref a)
  | dt {a : Addr} {ps : List (List Key × V)} {ds : List D} : F.d a = some (.dT ps) → RpL K F ds (ps.map (·.2)) → Rp K F (.dt (ps.map (·.1)) ds) (.ref a)
inductive RpL (K : PySem.W.Frag) (F : FZ) : List D → List V → Prop
  | nil : RpL K F [] []
  | cons {d : D} {v : V} {ds : List D} {xs : List V} : Rp K F d v → RpL K F ds xs → RpL K F (d :: ds) (v :: xs)
end

mutual
theorem Rp.monoS {K : PySem.W.Frag} {F F' : FZ} (e : Sm F F') : ∀ {d : D} {v : V}, Rp K F d v → Rp K F' d v
  | _, _, .non => .non
  | _, _, .bl b => .bl b
  | _, _, .int i => .int i
  | _, _, .str x => .str x
  | _, _, .ref a => .ref a
  | _, _, .ty n => .ty n
  | _, _, .tup t r => .tup (e.1 _ _ t) (RpL.monoS e r)
  | _, _, .kt t r => .kt (t.mono e) (RpL.monoS e r)
  | _, _, .lst t r => .lst (e.1 _ _ t) (RpL.monoS e r)
  | _, _, .ls t r => .ls (e.1.seq t) (RpL.monoS e r)
  | _, _, .dk t r => .dk (e.2 _ _ t) (RpL.monoS e r)
  | _, _, .dt t r => .dt (e.2 _ _ t) (RpL.monoS e r)
theorem RpL.monoS {K : PySem.W.Frag} {F F' : FZ} (e : Sm F F') : ∀ {ds : List D} {xs : List V}, RpL K F ds xs → RpL K F' ds xs
  | _, _, .nil => .nil
  | _, _, .cons h t => .cons (Rp.monoS e h) (RpL.monoS e t)
end
section
variable {K : PySem.W.Frag} {F F' : FZ}
theorem Rp.mono (e : FLe F F') {d : D} {v : V} (r : Rp K F d v) : Rp K F' d v := r.monoS e.s
theorem RpL.mono (e : FLe F F') {ds : List D} {xs : List V} (r : RpL K F ds xs) : RpL K F' ds xs := r.monoS e.s
theorem RpL.length : ∀ {ds : List D} {xs : List V}, RpL K F ds xs → ds.length = xs.length
  | _, _, .nil => rfl
  | _, _, .cons _ t => by simp [RpL.length t]
theorem RpL.get : ∀ {ds : List D} {xs : List V} {i : Nat} {d : D}, RpL K F ds xs → ds[i]? = some d → ∃ v, xs[i]? = some v ∧ Rp K F d v
  | _, _, _, _, .nil, e => by simp at e
  | _, _, 0, _, .cons r _, e => by simp at e; subst e; exact ⟨_, rfl, r⟩
  | _, _, i + 1, d, .cons _ t, e => by
    obtain ⟨u, h1, h2⟩ := RpL.get (i := i) (d := d) t (by simpa using e)
    exact ⟨u, by simpa using h1, h2⟩
theorem RpL.append : ∀ {ds es : List D} {xs ys : List V}, RpL K F ds xs → RpL K F es ys → RpL K F (ds ++ es) (xs ++ ys)
  | _, _, _, _, .nil, s => s
  | _, _, _, _, .cons r t, s => .cons r (RpL.append t s)
theorem RpL.take : ∀ {ds : List D} {xs : List V} (n : Nat), RpL K F ds xs → RpL K F (ds.take n) (xs.take n)
  | _, _, 0, _ => .nil
  | _, _, _ + 1, .nil => .nil
  | _, _, n + 1, .cons r t => .cons r (RpL.take n t)
theorem RpL.drop : ∀ {ds : List D} {xs : List V} (n : Nat), RpL K F ds xs → RpL K F (ds.drop n) (xs.drop n)
  | _, _, 0, r => r
  | _, _, _ + 1, .nil => .nil
  | _, _, n + 1, .cons _ t => RpL.drop n t
theorem RpL.set {d : D} {v : V} (r : Rp K F d v) : ∀ {ds : List D} {xs : List V} (i : Nat), RpL K F ds xs → RpL K F (ds.set i d) (xs.set i v)
  | _, _, _, .nil => .nil
  | _, _, 0, .cons _ t => .cons r t
  | _, _, i + 1, .cons q t => .cons q (RpL.set r i t)
theorem RpL.reverse : ∀ {ds : List D} {xs : List V}, RpL K F ds xs → RpL K F ds.reverse xs.reverse
  | _, _, .nil => .nil
  | _, _, .cons r t => by
    rw [List.reverse_cons, List.reverse_cons]
    exact RpL.append (RpL.reverse t) (.cons r .nil)
theorem RpL.eraseIdx : ∀ {ds : List D} {xs : List V} (i : Nat), RpL K F ds xs → RpL K F (ds.eraseIdx i) (xs.eraseIdx i)
  | _, _, _, .nil => .nil
  | _, _, 0, .cons _ t => t
  | _, _, i + 1, .cons r t => .cons r (RpL.eraseIdx i t)
theorem RpL.dropLast : ∀ {ds : List D} {xs : List V}, RpL K F ds xs → RpL K F ds.dropLast xs.dropLast
  | _, _, .nil => .nil
  | _, _, .cons _ .nil => .nil
  | _, _, .cons r (.cons q t) => .cons r (RpL.dropLast (.cons q t))
theorem RpL.int : ∀ (ns : List Int) {xs : List V}, RpL K F (ns.map D.int) xs → xs = ns.map V.int
  | [], _, .nil => rfl
  | _ :: ns, _, .cons (.int _) t => by rw [RpL.int ns t]; rfl
theorem RpL.ofInt : ∀ (ns : List Int), RpL K F (ns.map D.int) (ns.map V.int)
  | [] => .nil
  | _ :: ns => .cons (.int _) (RpL.ofInt ns)
theorem RpL.bl : ∀ (ns : List Bool) {xs : List V}, RpL K F (ns.map D.bl) xs → xs = ns.map V.bl
  | [], _, .nil => rfl
  | _ :: ns, _, .cons (.bl _) t => by rw [RpL.bl ns t]; rfl
theorem RpL.str : ∀ (ns : List Str) {xs : List V}, RpL K F (ns.map D.str) xs → xs = ns.map V.str
  | [], _, .nil => rfl
  | _ :: ns, _, .cons (.str _) t => by rw [RpL.str ns t]; rfl
end

abbrev KVR (K : PySem.W.Frag) (F : FZ) {κ : Type} : List (κ × D) → List (κ × V) → Prop := Paired fun p q => p.1 = q.1 ∧ Rp K F p.2 q.2
theorem KVR.monoS {K : PySem.W.Frag} {F F' : FZ} {κ : Type} (e : Sm F F') {l : List (κ × D)} {m : List (κ × V)} (h : KVR K F l m) : KVR K F' l m := Paired.mapP h fun _ _ q => ⟨q.1, q.2.monoS e⟩
theorem KVR.mono {K : PySem.W.Frag} {F F' : FZ} {κ : Type} (e : FLe F F') {l : List (κ × D)} {m : List (κ × V)} (h : KVR K F l m) : KVR K F' l m := h.monoS e.s

inductive MR (K : PySem.W.Frag) (F : FZ) : MO → HO → Prop
  | lst {ds : List D} {xs : List V} : RpL K F ds xs → xs.length ≤ sizeLine → MR K F (.lst ds) (.lst xs)
  | dK {kvs : List (Key × D)} {ps : List (Key × V)} : KVR K F kvs ps → ps.length ≤ sizeLine → MR K F (.dK kvs) (.dK ps)
  | dT {kvs : List (List Key × D)} {ps : List (List Key × V)} : KVR K F kvs ps → ps.length ≤ sizeLine → (∀ p ∈ ps, p.1.length ≤ sizeLine) → MR K F (.dT kvs) (.dT ps)
  | ins {C dx : Addr} {fs : List (Str × D)} {gs : List (Str × V)} : KVR K F fs gs → MR K F (.ins C fs) (.ins C dx gs)
theorem MR.monoS {K : PySem.W.Frag} {F F' : FZ} (e : Sm F F') {o : MO} {u : HO} : MR K F o u → MR K F' o u
  | .lst r z => .lst (r.monoS e) z
  | .dK r z => .dK (r.monoS e) z
  | .dT r z y => .dT (r.monoS e) z y
  | .ins r => .ins (r.monoS e)
theorem MR.mono {K : PySem.W.Frag} {F F' : FZ} (e : FLe F F') {o : MO} {u : HO} (r : MR K F o u) : MR K F' o u := r.monoS e.s

/-- what may be frozen -/
def FzO : HO → Prop
  | .lst xs => xs.length ≤ sizeLine
  | .tup xs => xs.length ≤ sizeLine
  | .frz _ (.lst xs) => xs.length ≤ sizeLine
  | .frz _ (.tup xs) => xs.length ≤ sizeLine
  | _ => False

/-- a dict -/
def DcO : HO → Prop
  | .dK ps => ps.length ≤ sizeLine
  | .dT ps => ps.length ≤ sizeLine ∧ ∀ p ∈ ps, p.1.length ≤ sizeLine
  | _ => False
structure SR (K : PySem.W.Frag) (F : FZ) (M : Mp) (H : Hp) : Prop where
  fz : Same F.f H
  ok : ∀ a o, F.f a = some o → FzO o
  dj : ∀ a o, M a = some o → F.f a = none
  pz : Same F.p H
  pf : ∀ a o, F.p a = some o → F.f a = none ∧ M a = none ∧ (∀ xs, o ≠ .tup xs) ∧ ∀ u, F.d a = some u → ∃ od, o = .frz od u
  mu : ∀ a o, M a = some o → ∃ u, H a = some u ∧ MR K F o u
  dz : ∀ a u, F.d a = some u → Rd H a u
  df : ∀ a u, F.d a = some u → F.f a = none ∧ M a = none ∧ DcO u

abbrev G := List (Option D)
structure GR (K : PySem.W.Frag) (F : FZ) (γ : G) (σ : L2.St) : Prop where
  len : γ.length = σ.length
  at' : ∀ (i : Nat) (d : D), γ[i]? = some (some d) → ∃ v, σ[i]? = some (some v) ∧ Rp K F d v
theorem GR.monoS {K : PySem.W.Frag} {F F' : FZ} (e : Sm F F') {γ : G} {σ : L2.St} (h : GR K F γ σ) : GR K F' γ σ := ⟨h.len, fun i d q => let ⟨v, a, b⟩ := h.at' i d q; ⟨v, a, b.monoS e⟩⟩
theorem GR.mono {K : PySem.W.Frag} {F F' : FZ} (e : FLe F F') {γ : G} {σ : L2.St} (h : GR K F γ σ) : GR K F' γ σ := h.monoS e.s
theorem GR.set {K : PySem.W.Frag} {F : FZ} {γ : G} {σ : L2.St} {d : D} {v : V} (h : GR K F γ σ) (r : Rp K F d v) (i : Nat) : GR K F (γ.set i (some d)) (σ.set i (some v)) := by
  refine ⟨by simp [h.len], fun j e q => ?_⟩
  by_cases hj : i = j
  · subst hj
    by_cases hl : i < γ.length
    · rw [List.getElem?_set_self hl] at q
      cases q
      exact ⟨v, List.getElem?_set_self (h.len ▸ hl), r⟩
    · rw [List.getElem?_eq_none (by simpa using hl)] at q
      cases q
  · rw [List.getElem?_set_ne hj] at q ⊢
    exact h.at' j e q

section
variable {K : PySem.W.Frag} {F F' : FZ} {M : Mp} {H : Hp}
/-- an address that is not tracked is neither frozen nor changeable -/
theorem SR.freeF (s : SR K F M H) {p : Addr} (h : H p = none) : F.f p = none := s.fz.free h
theorem SR.freeD (s : SR K F M H) {p : Addr} (h : H p = none) : F.d p = none := by
  cases e : F.d p with
  | none => rfl
  | some u =>
    rcases s.dz p u e with z | ⟨o, z⟩ <;> rw [h] at z <;> cases z
theorem rd_upd {H : Hp} {a p : Addr} {u o : HO} (h : Rd H a u) (ne : a ≠ p) : Rd (upd H p o) a u := by
  rcases h with z | ⟨x, z⟩
  · exact .inl (by rw [upd_ne ne]; exact z)
  · exact .inr ⟨x, by rw [upd_ne ne]; exact z⟩
theorem SR.freeP (s : SR K F M H) {p : Addr} (h : H p = none) : F.p p = none := s.pz.free h
theorem SR.freeM (s : SR K F M H) {p : Addr} (h : H p = none) : M p = none := by
  cases e : M p with
  | none => rfl
  | some o =>
    obtain ⟨u, q, _⟩ := s.mu p o e
    rw [h] at q; cases q
theorem SR.notP (s : SR K F M H) {p : Addr} {o : MO} (h : M p = some o) : F.p p = none := by
  cases e : F.p p with
  | none => rfl
  | some u =>
    rw [(s.pf p u e).2.1] at h; cases h
theorem SR.notD (s : SR K F M H) {p : Addr} {o : MO} (h : M p = some o) : F.d p = none := by
  cases e : F.d p with
  | none => rfl
  | some u =>
    rw [(s.df p u e).2.1] at h; cases h
theorem same_upd {F : FZ} {p : Addr} {o : HO} (h : F.f p = none) : FLe F (F.put p o) := ⟨⟨fun b u e => by show upd F.f p o b = _; rw [upd_ne (ne_of_none e h)]; exact e, Same.refl _⟩, rfl⟩
theorem put_f {F : FZ} {p : Addr} {o : HO} : (F.put p o).f = upd F.f p o := rfl
theorem put_p {F : FZ} {p : Addr} {o : HO} : (F.put p o).p = F.p := rfl
/-- a new frozen thing -/
theorem SR.newF (s : SR K F M H) {p : Addr} {o : HO} (h : H p = none) (ok : FzO o) : SR K (F.put p o) M (upd H p o) := by
  have hF := s.freeF h
  have hM := s.freeM h
  have hP := s.freeP h
  have hD := s.freeD h
  refine ⟨fun b u e => ?_, fun b u e => ?_, fun b u e => ?_, fun b u e => ?_, fun b u e => ?_, fun b u e => ?_, fun b u e => rd_upd (s.dz b u e) (ne_of_none e hD), fun b u e => ⟨by rw [put_f, upd_ne (ne_of_none (show F.d b = some u from e) hD)]; exact (s.df b u e).1, (s.df b u e).2⟩⟩
  · rw [put_f] at e
    by_cases q : b = p
    · subst q; rw [upd_same] at e ⊢; exact e
    · rw [upd_ne q] at e ⊢; exact s.fz _ _ e
  · rw [put_f] at e
    by_cases q : b = p
    · subst q; rw [upd_same] at e; cases e; exact ok
    · rw [upd_ne q] at e; exact s.ok _ _ e
  · rw [put_f]
    have q : b ≠ p := fun z => by rw [z, hM] at e; cases e
    rw [upd_ne q]; exact s.dj _ _ e
  · rw [put_p] at e
    rw [upd_ne (ne_of_none e hP)]; exact s.pz _ _ e
  · rw [put_p] at e
    rw [put_f, upd_ne (ne_of_none e hP)]
    exact s.pf _ _ e
  · have q : b ≠ p := fun z => by rw [z, hM] at e; cases e
    obtain ⟨v, h1, h2⟩ := s.mu b u e
    exact ⟨v, by rw [upd_ne q]; exact h1, h2.mono (same_upd hF)⟩
/-- a new changeable thing, or one changed -/
theorem SR.put (s : SR K F M H) {p : Addr} {o : MO} {u : HO} (h : F.f p = none) (hp : F.p p = none) (hd : F.d p = none) (r : MR K F o u) : SR K F (mset M p o) (upd H p u) := by
  refine ⟨fun b x e => ?_, s.ok, fun b x e => ?_, fun b x e => ?_, fun b x e => ⟨(s.pf b x e).1, ?_, (s.pf b x e).2.2⟩, fun b x e => ?_, fun b x e => rd_upd (s.dz b x e) (ne_of_none e hd), fun b x e => ⟨(s.df b x e).1, by rw [mset_ne (ne_of_none e hd)]; exact (s.df b x e).2.1, (s.df b x e).2.2⟩⟩
  · rw [upd_ne (ne_of_none e h)]; exact s.fz _ _ e
  · by_cases q : b = p
    · subst q; exact h
    · rw [mset_ne q] at e; exact s.dj _ _ e
  · rw [upd_ne (ne_of_none e hp)]; exact s.pz _ _ e
  · rw [mset_ne (ne_of_none e hp)]; exact (s.pf b x e).2.1
  · by_cases q : b = p
    · subst q; rw [mset_same] at e; cases e; exact ⟨u, upd_same, r⟩
    · rw [mset_ne q] at e
      obtain ⟨v, h1, h2⟩ := s.mu b x e
      exact ⟨v, by rw [upd_ne q]; exact h1, h2⟩
theorem SR.putN (s : SR K F M H) {p : Addr} {o : MO} {u : HO} (h : H p = none) (r : MR K F o u) : SR K F (mset M p o) (upd H p u) := s.put (s.freeF h) (s.freeP h) (s.freeD h) r
theorem SR.putM (s : SR K F M H) {p : Addr} {o o' : MO} {u : HO} (h : M p = some o') (r : MR K F o u) : SR K F (mset M p o) (upd H p u) := s.put (s.dj p _ h) (s.notP h) (s.notD h) r
/-- nobody's thing is frozen -/
theorem SR.adopt (s : SR K F M H) {p : Addr} {o : HO} (hf : F.f p = none) (hp : F.p p = none) (hm : M p = none) (h : H p = some o) (ok : FzO o) : SR K (F.put p o) M H := by
  have hd : F.d p = none := by
    cases e : F.d p with
    | none => rfl
    | some u =>
      have dc := (s.df p u e).2.2
      have k1 : ∀ v : HO, DcO v → FzO v → False := fun v a b => by cases v <;> first | exact a | exact b
      have k2 : ∀ (x : Obj) (v : HO), DcO v → FzO (.frz x v) → False := fun x v a b => by cases v <;> first | exact a | exact b
      rcases s.dz p u e with z | ⟨x, z⟩
      · rw [h] at z; cases z
        exact (k1 _ dc ok).elim
      · rw [h] at z; cases z
        exact (k2 _ _ dc ok).elim
  refine ⟨fun b u e => ?_, fun b u e => ?_, fun b u e => ?_, fun b u e => s.pz b u e, fun b u e => ?_, fun b u e => ?_, s.dz, fun b u e => ⟨by rw [put_f, upd_ne (ne_of_none (show F.d b = some u from e) hd)]; exact (s.df b u e).1, (s.df b u e).2⟩⟩
  · rw [put_f] at e
    by_cases q : b = p
    · subst q; rw [upd_same] at e; cases e; exact h
    · rw [upd_ne q] at e; exact s.fz _ _ e
  · rw [put_f] at e
    by_cases q : b = p
    · subst q; rw [upd_same] at e; cases e; exact ok
    · rw [upd_ne q] at e; exact s.ok _ _ e
  · rw [put_f, upd_ne (mne_of_none e hm)]; exact s.dj _ _ e
  · have e' : F.p b = some u := e
    rw [put_f, upd_ne (ne_of_none e' hp)]
    exact s.pf _ _ e'
  · obtain ⟨v, h1, h2⟩ := s.mu b u e
    exact ⟨v, h1, h2.mono (same_upd hf)⟩
/-- a tuple that is tracked is frozen -/
theorem SR.adoptT (s : SR K F M H) {p : Addr} {xs : List V} (h : H p = some (.tup xs)) (ok : xs.length ≤ sizeLine) : ∃ F1, FLe F F1 ∧ SR K F1 M H ∧ F1.f p = some (.tup xs) := by
  have hm : M p = none := by
    cases e : M p with
    | none => rfl
    | some o =>
      obtain ⟨u, h1, h2⟩ := s.mu p o e
      rw [h] at h1; cases h1
      cases h2
  have hp : F.p p = none := by
    cases e : F.p p with
    | none => rfl
    | some o =>
      have h1 := s.pz p o e
      rw [h] at h1; cases h1
      exact absurd rfl ((s.pf p _ e).2.2.1 xs)
  cases e : F.f p with
  | some o =>
    have h1 := s.fz p o e
    rw [h] at h1; cases h1
    exact ⟨F, FLe.refl F, s, e⟩
  | none => exact ⟨F.put p (.tup xs), same_upd e, s.adopt e hp hm h ok, upd_same⟩
/-- hidden no more, and changed -/
theorem SR.unhide (s : SR K F M H) {q : Hp} {p : Addr} {o u : HO} (e : F.p = upd q p o) (hq : q p = none) (hu : ∀ od u', o = .frz od u' → u = u' := by exact fun _ _ z => nomatch z) : SR K ⟨F.f, q, F.d⟩ M (upd H p u) ∧ H p = some o ∧ F.f p = none ∧ M p = none := by
  have hp : F.p p = some o := by rw [e, upd_same]
  obtain ⟨hf, hm, _, hpd⟩ := s.pf p o hp
  refine ⟨⟨fun b x z => by rw [upd_ne (ne_of_none z hf)]; exact s.fz _ _ z, s.ok, s.dj, fun b x z => ?_, fun b x z => ?_, fun b x z => ?_, fun b x z => ?_, s.df⟩, s.pz _ _ hp, hf, hm⟩
  · have z' : q b = some x := z
    have ne := ne_of_none z' hq
    rw [upd_ne ne]
    exact s.pz b x (by rw [e, upd_ne ne]; exact z')
  · have z' : q b = some x := z
    have ne := ne_of_none z' hq
    exact s.pf b x (by rw [e, upd_ne ne]; exact z')
  · obtain ⟨v, h1, h2⟩ := s.mu b x z
    exact ⟨v, by rw [upd_ne (mne_of_none z hm)]; exact h1, MR.monoS (F := F) (F' := ⟨F.f, q, F.d⟩) Sm.rfl' h2⟩
  · have z' : F.d b = some x := z
    by_cases w : b = p
    · subst w
      obtain ⟨od, eo⟩ := hpd x z'
      rw [hu od x eo]
      exact .inl upd_same
    · exact rd_upd (s.dz b x z') w
/-- a thing is lent to nobody: it stays as it is -/
def FZ.hide (F : FZ) (a : Addr) (o : HO) : FZ := ⟨F.f, upd F.p a o, F.d⟩
/-- a new thing that is not ours -/
theorem SR.other (s : SR K F M H) {p : Addr} {o : HO} (h : H p = none) : SR K F M (upd H p o) :=
  ⟨fun b u e => by rw [upd_ne (ne_of_none e (s.freeF h))]; exact s.fz _ _ e, s.ok, s.dj, fun b u e => by rw [upd_ne (ne_of_none e (s.freeP h))]; exact s.pz _ _ e, s.pf, fun b u e => by
    obtain ⟨v, h1, h2⟩ := s.mu b u e
    exact ⟨v, by rw [upd_ne (mne_of_none e (s.freeM h))]; exact h1, h2⟩, fun b u e => rd_upd (s.dz b u e) (ne_of_none e (s.freeD h)), s.df⟩
theorem SR.noL (s : SR K F M H) {p : Addr} {xs : List V} (h : H p = some (.lst xs)) : ∀ u, F.d p = some u → ∃ od, HO.lst xs = .frz od u := fun u e => by
  have dc := (s.df p u e).2.2
  rcases s.dz p u e with z | ⟨x, z⟩
  · rw [h] at z; cases z; exact False.elim dc
  · rw [h] at z; cases z
theorem SR.hidD (s : SR K F M H) {p : Addr} {o : HO} (e : F.p p = some o) (ho : ∀ od u, o ≠ .frz od u) : F.d p = none := by
  cases e2 : F.d p with
  | none => rfl
  | some u =>
    obtain ⟨od, z⟩ := (s.pf p o e).2.2.2 u e2
    exact absurd z (ho od u)
/-- what a walk asks of the world: frozen things, and what is locked -/
structure Bj (F F1 : FZ) : Prop where
  f : Sm F F1
  p : ∀ a od u, F.p a = some (.frz od u) → F1.p a = some (.frz od u)
theorem FLe.bj {F F1 : FZ} (e : FLe F F1) : Bj F F1 := ⟨e.s, fun a od u h => by rw [e.e]; exact h⟩
theorem Bj.trans {F F1 F2 : FZ} (a : Bj F F1) (b : Bj F1 F2) : Bj F F2 := ⟨a.f.trans' b.f, fun x od u h => b.p x od u (a.p x od u h)⟩
theorem bj_hide {F1 F2 : FZ} {p : Addr} {o : HO} (e : FLe F1 F2) (h : F1.p p = none) : Bj F1 (F2.hide p o) := ⟨e.s, fun b od u hb => by show upd F2.p p o b = _; rw [upd_ne (ne_of_none hb h), e.e]; exact hb⟩
def MLe (M' M : Mp) : Prop := ∀ a o, M' a = some o → M a = some o
theorem MLe.refl (M : Mp) : MLe M M := fun _ _ h => h
theorem MLe.none {M' M : Mp} (l : MLe M' M) {a : Addr} (h : M a = none) : M' a = none := by
  cases e : M' a with
  | none => rfl
  | some o => rw [l a o e] at h; cases h
theorem SR.less (s : SR K F M H) {M' : Mp} (h : MLe M' M) : SR K F M' H := ⟨s.fz, s.ok, fun a o e => s.dj a o (h a o e), s.pz, fun a o e => ⟨(s.pf a o e).1, h.none (s.pf a o e).2.1, (s.pf a o e).2.2⟩, fun a o e => s.mu a o (h a o e), s.dz, fun a u e => ⟨(s.df a u e).1, h.none (s.df a u e).2.1, (s.df a u e).2.2⟩⟩
/-- a list is frozen -/
theorem SR.freeze (s : SR K F M H) {p : Addr} {ds : List D} (h : M p = some (.lst ds)) : ∃ xs, SR K (F.put p (.lst xs)) (mdel M p) H ∧ FLe F (F.put p (.lst xs)) ∧ Rp K (F.put p (.lst xs)) (.lst ds) (.ref p) := by
  obtain ⟨u, h1, h2⟩ := s.mu p _ h
  have hF := s.dj p _ h
  have hP := s.notP h
  have hD := s.notD h
  cases h2 with
  | lst r z =>
    rename_i xs
    have e := same_upd (o := .lst xs) hF
    refine ⟨xs, ⟨fun b x q => ?_, fun b x q => ?_, fun b x q => ?_, fun b x q => s.pz b x q, fun b x q => ?_, fun b x q => ?_, s.dz, fun b x q => ⟨by rw [put_f, upd_ne (ne_of_none (show F.d b = some x from q) hD)]; exact (s.df b x q).1, by rw [mdel_ne (ne_of_none (show F.d b = some x from q) hD)]; exact (s.df b x q).2.1, (s.df b x q).2.2⟩⟩, e, .lst upd_same (r.mono e)⟩
    · rw [put_f] at q
      by_cases w : b = p
      · subst w; rw [upd_same] at q; cases q; exact h1
      · rw [upd_ne w] at q; exact s.fz _ _ q
    · rw [put_f] at q
      by_cases w : b = p
      · subst w; rw [upd_same] at q; cases q; exact z
      · rw [upd_ne w] at q; exact s.ok _ _ q
    · rw [put_f]
      by_cases w : b = p
      · subst w; rw [mdel_same] at q; cases q
      · rw [mdel_ne w] at q; rw [upd_ne w]; exact s.dj _ _ q
    · have q' : F.p b = some x := q
      rw [put_f, upd_ne (ne_of_none q' hP), mdel_ne (ne_of_none q' hP)]
      exact s.pf b x q'
    · by_cases w : b = p
      · subst w; rw [mdel_same] at q; cases q
      · rw [mdel_ne w] at q
        obtain ⟨v, a1, a2⟩ := s.mu b x q
        exact ⟨v, a1, a2.mono e⟩
theorem SR.hide (s : SR K F M H) {p : Addr} {o : HO} (hf : F.f p = none) (hm : M p = none) (h : H p = some o) (ht : ∀ xs, o ≠ .tup xs) (hd : ∀ u, F.d p = some u → ∃ od, o = .frz od u) : SR K (F.hide p o) M H := by
  refine ⟨s.fz, s.ok, s.dj, fun b x e => ?_, fun b x e => ?_, fun b x e => ?_, s.dz, s.df⟩
  · have e' : upd F.p p o b = some x := e
    by_cases q : b = p
    · subst q; rw [upd_same] at e'; cases e'; exact h
    · rw [upd_ne q] at e'; exact s.pz _ _ e'
  · have e' : upd F.p p o b = some x := e
    by_cases q : b = p
    · subst q; rw [upd_same] at e'; cases e'; exact ⟨hf, hm, ht, hd⟩
    · rw [upd_ne q] at e'; exact s.pf _ _ e'
  · obtain ⟨v, a1, a2⟩ := s.mu b x e
    exact ⟨v, a1, MR.monoS (F := F) (show Sm F (F.hide p o) from Sm.rfl' (F := F)) a2⟩
theorem SR.lenT (s : SR K F M H) {a : Addr} {xs : List V} (h : F.f a = some (.tup xs)) : xs.length ≤ sizeLine := s.ok _ _ h
theorem KTup.len {a : Addr} {xs : List V} (h : KTup K a xs) : xs.length ≤ sizeLine := by
  obtain ⟨o, its, n, _, _, _, hz, r, _⟩ := h
  have e := r.length
  simp only [Array.length_toList] at e
  omega
theorem SR.sqT (s : SR K F M H) {a : Addr} {xs : List V} (h : F.f a = some (.tup xs)) : SqT K H a xs := .inl (.inl (s.fz _ _ h))
theorem KTup.sqT {a : Addr} {xs : List V} (h : KTup K a xs) : SqT K H a xs := by
  obtain ⟨o, its, n, h1, h2, h3, h4, h5, _⟩ := h
  exact .inr ⟨o, its, n, h1, h2, h3, h4, h5⟩
theorem KtF.sq {a : Addr} {xs : List V} (h : KtF K F a xs) (e : Same F.f H) : SqT K H a xs := h.elim (fun z => z.sqT) fun ⟨o, z, _⟩ => .inl (.inr ⟨o, e _ _ z⟩)
theorem SR.sqK (s : SR K F M H) {a : Addr} {xs : List V} (h : KtF K F a xs) : SqT K H a xs := h.sq s.fz
theorem SR.lenK (s : SR K F M H) {a : Addr} {xs : List V} (h : KtF K F a xs) : xs.length ≤ sizeLine := h.elim (fun z => z.len) fun ⟨o, z, _⟩ => s.ok _ _ z
theorem SR.lenL (s : SR K F M H) {a : Addr} {xs : List V} (h : SqL K F.f a xs) : xs.length ≤ sizeLine := by
  rcases h with (h | ⟨o, h⟩) | ⟨o, its, n, _, _, _, _, hz, r⟩
  · exact s.ok _ _ h
  · exact s.ok _ _ h
  · have e := r.length
    simp only [Array.length_toList] at e
    omega
end

/-! ### readings -/
abbrev DK := D → Mp → Prop
abbrev DTE := G → Mp → DK → Prop
abbrev DTT := G → Mp → (Bool → Mp → Prop) → Prop
abbrev DTA := G → Mp → (List D → Mp → Prop) → Prop
section
variable (K : PySem.W.Frag) (F0 : FZ)
def LE (t' : DTE) (t : TE) : Prop := ∀ (F : FZ) (γ : G) (M : Mp) (σ : L2.St) (H : Hp) (Q' : DK) (Q : VK), Bs F0 F → SR K F M H → GR K F γ σ → t' γ M Q' →
  (∀ F1 d v M1 H1, FLe F F1 → SR K F1 M1 H1 → Rp K F1 d v → Q' d M1 → Q v H1) → t σ H Q
def LT (t' : DTT) (t : TT) : Prop := ∀ (F : FZ) (γ : G) (M : Mp) (σ : L2.St) (H : Hp) (Q' : Bool → Mp → Prop) (Q : Bool → Hp → Prop), Bs F0 F → SR K F M H → GR K F γ σ → t' γ M Q' →
  (∀ F1 b M1 H1, FLe F F1 → SR K F1 M1 H1 → Q' b M1 → Q b H1) → t σ H Q
def LA (t' : DTA) (t : TA) : Prop := ∀ (F : FZ) (γ : G) (M : Mp) (σ : L2.St) (H : Hp) (Q' : List D → Mp → Prop) (Q : List V → Hp → Prop), Bs F0 F → SR K F M H → GR K F γ σ → t' γ M Q' →
  (∀ F1 ds vs M1 H1, FLe F F1 → SR K F1 M1 H1 → RpL K F1 ds vs → Q' ds M1 → Q vs H1) → t σ H Q
end
structure DE (X : Cx) (F0 : FZ) (e : Expr) (t : TE) (t' : DTE) : Prop where
  pe : PE X e t
  le : LE X.K F0 t' t
structure DT (X : Cx) (F0 : FZ) (e : Expr) (t : TT) (t' : DTT) : Prop where
  pt : PT X e t
  le : LT X.K F0 t' t
structure DW (X : Cx) (F0 : FZ) (e : Expr) (t : TT) (t' : DTT) : Prop where
  pw : PW X e t
  le : LT X.K F0 t' t
structure DA (X : Cx) (F0 : FZ) (es : List Expr) (t : TA) (t' : DTA) : Prop where
  pa : PA X es t
  le : LA X.K F0 t' t

/-! ### names, constants -/
def dVar (i : Nat) : DTE := fun γ M Q => match γ[i]? with
  | some (some d) => Q d M
  | _ => False
def dC (d : D) : DTE := fun _ M Q => Q d M
section
variable {X : Cx} {K : PySem.W.Frag} {F0 : FZ}
theorem le_var (i : Nat) : LE K F0 (dVar i) (tVar i) := by
  intro F γ M σ H Q' Q e0 s g h k
  unfold dVar at h
  split at h
  · rename_i d e
    obtain ⟨v, e1, r⟩ := g.at' i d e
    exact ⟨v, e1, k F d v M H (FLe.refl F) s r h⟩
  · exact h.elim
theorem de_var (i : Nat) {x : Str} {pos : Pos} (hN : X.N[i]? = some x := by rfl) (hv : Vis X.env.scope x := by first | exact Or.inl rfl | exact Or.inr (Or.inl rfl) | exact Or.inr (Or.inr rfl)) (hd : (x == ("__debug__" : Str)) = false := by decide)
    (hcd : (x == ("__classdict__" : Str)) = false := by decide) : DE X F0 (.Name x pos) (tVar i) (dVar i) := ⟨pe_var hN hv hd hcd, le_var i⟩
theorem le_c {d : D} {v : V} (h : ∀ F, Rp K F d v) : LE K F0 (dC d) (tC v) := fun F γ M σ H Q' Q e0 s g q k => k F d v M H (FLe.refl F) s (h F) q
theorem de_int {i j pos} : DE X F0 (.Constant (.int i) j pos) (tC (.int i)) (dC (.int i)) := ⟨pe_int, le_c fun _ => .int i⟩
theorem de_bl {b j pos} : DE X F0 (.Constant (.bool b) j pos) (tC (.bl b)) (dC (.bl b)) := ⟨pe_bl, le_c fun _ => .bl b⟩
theorem de_str {x j pos} : DE X F0 (.Constant (.str x) j pos) (tC (.str x)) (dC (.str x)) := ⟨pe_str, le_c fun _ => .str x⟩
theorem de_globI {x : Str} {i : Int} {t : Tok} {pos : Pos} (hm : X.mg x = some (.int i t)) (hg : Gl X x := by rfl) (hd : (x == ("__debug__" : Str)) = false := by decide) : DE X F0 (.Name x pos) (tC (.int i)) (dC (.int i)) :=
  ⟨pe_glob hg hm ⟨t, rfl⟩ hd, le_c fun _ => .int i⟩
/-! ### operators -/
abbrev DR2 := D → D → Mp → DK → Prop
def L2r (K : PySem.W.Frag) (F0 : FZ) (r' : DR2) (r : R2) : Prop := ∀ (F : FZ) (M : Mp) (H : Hp) (d e : D) (x y : V) (Q' : DK) (Q : VK), Bs F0 F → SR K F M H → Rp K F d x → Rp K F e y → r' d e M Q' →
  (∀ F1 d v M1 H1, FLe F F1 → SR K F1 M1 H1 → Rp K F1 d v → Q' d M1 → Q v H1) → r x y H Q
def dOp (r : DR2) (ta tb : DTE) : DTE := fun γ M Q => ta γ M fun x M1 => tb γ M1 fun y M2 => r x y M2 Q
theorem le_op {r' : DR2} {r : R2} {ta' tb' : DTE} {ta tb : TE} (hr : L2r K F0 r' r) (ha : LE K F0 ta' ta) (hb : LE K F0 tb' tb) : LE K F0 (dOp r' ta' tb') (tOp r ta tb) := by
  intro F γ M σ H Q' Q e0 s g h k
  refine ha F γ M σ H _ _ e0 s g h fun F1 d v M1 H1 e1 s1 r1 q1 => ?_
  refine hb F1 γ M1 σ H1 _ _ (e0.tr e1) s1 (g.mono e1) q1 fun F2 d2 v2 M2 H2 e2 s2 r2 q2 => ?_
  exact hr F2 M2 H2 d d2 v v2 Q' Q ((e0.tr e1).tr e2) s2 (r1.mono e2) r2 q2 fun F3 d3 v3 M3 H3 e3 s3 r3 q3 => k F3 d3 v3 M3 H3 ((e1.trans e2).trans e3) s3 r3 q3
variable {a b : Expr} {ta tb : TE} {ta' tb' : DTE} {pos : Pos}
theorem de_op {op : Operator} {r : R2} {r' : DR2} (ho : OpR X (binaryOp op) r) (hr : L2r X.K F0 r' r) (ha : DE X F0 a ta ta') (hb : DE X F0 b tb tb') : DE X F0 (.BinOp a op b pos) (tOp r ta tb) (dOp r' ta' tb') :=
  ⟨pe_op ho ha.pe hb.pe, le_op hr ha.le hb.le⟩
theorem de_cmp {op : CmpOp} {r : R2} {r' : DR2} (ho : OpR X (compareOp op) r) (hr : L2r X.K F0 r' r) (ha : DE X F0 a ta ta') (hb : DE X F0 b tb tb') (hm : behindInMarks op b = false) : DE X F0 (.Compare a [op] [b] pos) (tOp r ta tb) (dOp r' ta' tb') :=
  ⟨pe_cmpR ho ha.pe hb.pe hm, le_op hr ha.le hb.le⟩
def dTest (t : DTE) : DTT := fun γ M Q => t γ M fun x M' => match x with
  | .bl k => Q k M'
  | _ => False
theorem le_test {t' : DTE} {t : TE} (h : LE K F0 t' t) : LT K F0 (dTest t') (tTest t) := by
  intro F γ M σ H Q' Q e0 s g q k
  refine h F γ M σ H _ _ e0 s g q fun F1 d v M1 H1 e1 s1 r1 q1 => ?_
  split at q1
  · cases r1
    exact ⟨_, rfl, k F1 _ M1 H1 e1 s1 q1⟩
  · exact q1.elim
theorem dt_cmp {op : CmpOp} {r : R2} {r' : DR2} (ho : OpR X (compareOp op) r) (hr : L2r X.K F0 r' r) (ha : DE X F0 a ta ta') (hb : DE X F0 b tb tb') (hm : behindInMarks op b = false) : DT X F0 (.Compare a [op] [b] pos) (tTest (tOp r ta tb)) (dTest (dOp r' ta' tb')) :=
  ⟨pt_cmpR ho ha.pe hb.pe hm, le_test (le_op hr ha.le hb.le)⟩
theorem dt_val {e : Expr} {t : TE} {t' : DTE} (h : DE X F0 e t t') (he : ∀ whole, isTrue e X.env whole = (do let v ← whole; standAt e.pos; holding [v] (truthy v)) := by intro _; rfl) : DT X F0 e (tTest t) (dTest t') :=
  ⟨pt_val h.pe he, le_test h.le⟩

/-- two ints -/
def dII (g : Int → Int → D) : DR2 := fun x y M Q => match x, y with
  | .int i, .int j => Q (g i j) M
  | _, _ => False
def dIC (C : Int → Int → Prop) (g : Int → Int → D) : DR2 := fun x y M Q => match x, y with
  | .int i, .int j => C i j ∧ Q (g i j) M
  | _, _ => False
theorem l2_II {g' : Int → Int → D} {g : Int → Int → V} (h : ∀ F i j, Rp K F (g' i j) (g i j)) : L2r K F0 (dII g') (rI0 g) := by
  intro F M H d e x y Q' Q e0 s r1 r2 q k
  unfold dII at q
  split at q
  · cases r1; cases r2
    exact ⟨_, _, rfl, rfl, k F _ _ M H (FLe.refl F) s (h F _ _) q⟩
  · exact q.elim
theorem l2_IC {C : Int → Int → Prop} {g' : Int → Int → D} {g : Int → Int → V} (h : ∀ F i j, Rp K F (g' i j) (g i j)) : L2r K F0 (dIC C g') (rI C g) := by
  intro F M H d e x y Q' Q e0 s r1 r2 q k
  unfold dIC at q
  split at q
  · cases r1; cases r2
    exact ⟨_, _, rfl, rfl, q.1, k F _ _ M H (FLe.refl F) s (h F _ _) q.2⟩
  · exact q.elim
theorem de_add (ha : DE X F0 a ta ta') (hb : DE X F0 b tb tb') : DE X F0 (.BinOp a .Add b pos) (tOp (rI0 fun i j => .int (i + j)) ta tb) (dOp (dII fun i j => .int (i + j)) ta' tb') := de_op op_add (l2_II fun _ _ _ => .int _) ha hb
theorem de_sub (ha : DE X F0 a ta ta') (hb : DE X F0 b tb tb') : DE X F0 (.BinOp a .Sub b pos) (tOp (rI0 fun i j => .int (i - j)) ta tb) (dOp (dII fun i j => .int (i - j)) ta' tb') := de_op op_sub (l2_II fun _ _ _ => .int _) ha hb
theorem de_mul (ha : DE X F0 a ta ta') (hb : DE X F0 b tb tb') : DE X F0 (.BinOp a .Mult b pos) (tOp (rI CMul fun i j => .int (i * j)) ta tb) (dOp (dIC CMul fun i j => .int (i * j)) ta' tb') := de_op op_mul (l2_IC fun _ _ _ => .int _) ha hb
theorem de_fdiv (ha : DE X F0 a ta ta') (hb : DE X F0 b tb tb') : DE X F0 (.BinOp a .FloorDiv b pos) (tOp (rI CDiv fun i j => .int (i / j)) ta tb) (dOp (dIC CDiv fun i j => .int (i / j)) ta' tb') := de_op op_fdiv (l2_IC fun _ _ _ => .int _) ha hb
theorem de_mod (ha : DE X F0 a ta ta') (hb : DE X F0 b tb tb') : DE X F0 (.BinOp a .Mod b pos) (tOp (rI (fun _ j => 0 < j) fun i j => .int (i % j)) ta tb) (dOp (dIC (fun _ j => 0 < j) fun i j => .int (i % j)) ta' tb') := de_op op_mod (l2_IC fun _ _ _ => .int _) ha hb
theorem de_pow (ha : DE X F0 a ta ta') (hb : DE X F0 b tb tb') : DE X F0 (.BinOp a .Pow b pos) (tOp (rI CPow fun i j => .int (i ^ j.toNat)) ta tb) (dOp (dIC CPow fun i j => .int (i ^ j.toNat)) ta' tb') := de_op op_pow (l2_IC fun _ _ _ => .int _) ha hb
end
end DL

set_option maxRecDepth 100000
set_option maxHeartbeats 2000000
namespace DL
open PySem PySem.Spec PyProof.Rows L2

section
variable {X : Cx} {K : PySem.W.Frag} {F0 : FZ} {a b e : Expr} {ta tb te : TE} {ta' tb' te' : DTE} {pos : Pos}
/-! ### comparisons of ints, chains -/
theorem de_lt (ha : DE X F0 a ta ta') (hb : DE X F0 b tb tb') : DE X F0 (.Compare a [.Lt] [b] pos) (tOp (rI0 fun i j => .bl (decide (i < j))) ta tb) (dOp (dII fun i j => .bl (decide (i < j))) ta' tb') := de_cmp op_lt (l2_II fun _ _ _ => .bl _) ha hb (nomark _)
def dChain (r r' : DR2) (ta tb tc : DTE) : DTE := fun γ M Q => ta γ M fun x M1 => tb γ M1 fun y M2 => r x y M2 fun z M3 => match z with
  | .bl true => tc γ M3 fun w M4 => r' y w M4 Q
  | .bl false => Q (.bl false) M3
  | _ => False
end

/-! ### equality of data -/
mutual
def D.py : D → PyData
  | .non => .none
  | .bl b => .bool b
  | .int i => .int i
  | .str x => .str x
  | .tup l => .tuple (D.pyL l)
  | .lst l => .list (D.pyL l)
  | .kt l => .tuple (D.pyL l)
  | .ref _ => .none
  | .ty _ => .none
  | .ls _ => .none
  | .dk _ _ => .none
  | .dt _ _ => .none
def D.pyL : List D → List PyData
  | [] => []
  | d :: r => D.py d :: D.pyL r
end
mutual
/-- plain data, nested at most so deep -/
def D.ok : D → Nat → Bool
  | .non, _ => true
  | .bl _, _ => true
  | .int _, _ => true
  | .str x, _ => PyData.strOk x
  | .tup l, 0 => false
  | .tup l, n + 1 => D.okL l n
  | .lst l, 0 => false
  | .lst l, n + 1 => D.okL l n
  | .kt l, 0 => false
  | .kt l, n + 1 => D.okL l n
  | .ref _, _ => false
  | .ty _, _ => false
  | .ls _, _ => false
  | .dk _ _, _ => false
  | .dt _ _, _ => false
def D.okL : List D → Nat → Bool
  | [], _ => true
  | d :: r, n => D.ok d n && D.okL r n
end
theorem okL_iff {n : Nat} : ∀ {l : List D}, D.okL l n = true ↔ ∀ d ∈ l, D.ok d n = true
  | [] => by simp [D.okL]
  | d :: r => by simp [D.okL, okL_iff (l := r)]
mutual
theorem D.ok_lay : ∀ {d : D} {n : Nat}, d.ok n = true → d.py.canLay0 = true ∧ d.py.depth ≤ n
  | .non, _, _ => by simp [D.py, PyData.canLay0, PyData.depth]
  | .bl _, _, _ => by simp [D.py, PyData.canLay0, PyData.depth]
  | .int _, _, _ => by simp [D.py, PyData.canLay0, PyData.depth]
  | .str x, _, h => by
    have h' : PyData.strOk x = true := by simpa [D.ok] using h
    simp [D.py, PyData.canLay0, PyData.depth, h']
  | .tup l, 0, h => by simp [D.ok] at h
  | .tup l, n + 1, h => by
    have h' : D.okL l n = true := by simpa [D.ok] using h
    obtain ⟨a, b⟩ := D.okL_lay h'
    simp only [D.py, PyData.canLay0, PyData.depth]
    exact ⟨a, by omega⟩
  | .lst l, 0, h => by simp [D.ok] at h
  | .lst l, n + 1, h => by
    have h' : D.okL l n = true := by simpa [D.ok] using h
    obtain ⟨a, b⟩ := D.okL_lay h'
    simp only [D.py, PyData.canLay0, PyData.depth]
    exact ⟨a, by omega⟩
  | .kt l, 0, h => by simp [D.ok] at h
  | .kt l, n + 1, h => by
    have h' : D.okL l n = true := by simpa [D.ok] using h
    obtain ⟨a, b⟩ := D.okL_lay h'
    simp only [D.py, PyData.canLay0, PyData.depth]
    exact ⟨a, by omega⟩
  | .ref _, _, h => by simp [D.ok] at h
  | .ty _, _, h => by simp [D.ok] at h
  | .ls _, _, h => by simp [D.ok] at h
  | .dk _ _, _, h => by simp [D.ok] at h
  | .dt _ _, _, h => by simp [D.ok] at h
theorem D.okL_lay : ∀ {l : List D} {n : Nat}, D.okL l n = true → PyData.canLayAll0 (D.pyL l) = true ∧ PyData.depthAll (D.pyL l) ≤ n
  | [], _, _ => by simp [D.pyL, PyData.canLayAll0, PyData.depthAll]
  | d :: r, n, h => by
    simp only [D.okL, Bool.and_eq_true] at h
    obtain ⟨a, b⟩ := D.ok_lay h.1
    obtain ⟨a', b'⟩ := D.okL_lay h.2
    simp only [D.pyL, PyData.canLayAll0, PyData.depthAll, a, a', Bool.and_self, true_and]
    omega
end
theorem D.ok_shaped {d : D} (h : d.ok 60 = true) : SeqAt.shaped d.py = true := by
  obtain ⟨a, b⟩ := D.ok_lay h
  show (d.py.canLay0 && decide (d.py.depth ≤ 64)) = true
  rw [a, Bool.true_and]
  exact decide_eq_true (by omega)
mutual
theorem Rp.dp {K : PySem.W.Frag} {F : FZ} {H : Hp} (e : Same F.f H) : ∀ {d : D} {v : V} {n : Nat}, Rp K F d v → d.ok n = true → Dp K H v d.py
  | _, _, _, .non, _ => by simp only [D.py]; exact .non
  | _, _, _, .bl b, _ => by simp only [D.py]; exact .bl b
  | _, _, _, .int i, _ => by simp only [D.py]; exact .int i
  | _, _, _, .str x, _ => by simp only [D.py]; exact .str x
  | _, _, _, .ref a, h => by simp [D.ok] at h
  | _, _, _, .ty n, h => by simp [D.ok] at h
  | _, _, _, .ls _ _, h => by simp [D.ok] at h
  | _, _, _, .dk _ _, h => by simp [D.ok] at h
  | _, _, _, .dt _ _, h => by simp [D.ok] at h
  | _, _, 0, .tup t r, h => by simp [D.ok] at h
  | _, _, n + 1, .tup t r, h => by
    simp only [D.py]
    exact .tup (.inl (.inl (e _ _ t))) (RpL.dp e r (n := n) (by simpa [D.ok] using h))
  | _, _, 0, .kt t r, h => by simp [D.ok] at h
  | _, _, n + 1, .kt t r, h => by
    simp only [D.py]
    exact .tup (t.sq e) (RpL.dp e r (n := n) (by simpa [D.ok] using h))
  | _, _, 0, .lst t r, h => by simp [D.ok] at h
  | _, _, n + 1, .lst t r, h => by
    simp only [D.py]
    exact .lst (SqL.of (e _ _ t)) (RpL.dp e r (n := n) (by simpa [D.ok] using h))
theorem RpL.dp {K : PySem.W.Frag} {F : FZ} {H : Hp} (e : Same F.f H) : ∀ {ds : List D} {xs : List V} {n : Nat}, RpL K F ds xs → D.okL ds n = true → DpAll K H xs (D.pyL ds)
  | _, _, _, .nil, _ => by simp only [D.pyL]; exact .nil
  | _, _, n, .cons h t, k => by
    simp only [D.okL, Bool.and_eq_true] at k
    simp only [D.pyL]
    exact .cons (Rp.dp e h k.1) (RpL.dp e t k.2)
end
/-- == of data -/
def D.eq (x y : D) : Bool := PyData.eqv x.py y.py
def D.eqL (x y : List D) : Bool := PyData.eqvAll (D.pyL x) (D.pyL y)
@[simp] theorem D.eq_int (i j : Int) : D.eq (.int i) (.int j) = (i == j) := by simp only [D.eq, D.py, PyData.eqv]
@[simp] theorem D.eq_str (i j : Str) : D.eq (.str i) (.str j) = (i == j) := by simp only [D.eq, D.py, PyData.eqv]
@[simp] theorem D.eq_tup (i j : List D) : D.eq (.tup i) (.tup j) = D.eqL i j := by simp only [D.eq, D.eqL, D.py, PyData.eqv]
@[simp] theorem D.eq_lst (i j : List D) : D.eq (.lst i) (.lst j) = D.eqL i j := by simp only [D.eq, D.eqL, D.py, PyData.eqv]
@[simp] theorem D.eqL_nil : D.eqL [] [] = true := by simp only [D.eqL, D.pyL, PyData.eqvAll]
@[simp] theorem D.eqL_cons (x y : D) (r s : List D) : D.eqL (x :: r) (y :: s) = (D.eq x y && D.eqL r s) := by simp only [D.eqL, D.eq, D.pyL, PyData.eqvAll]
@[simp] theorem D.eqL_nc (y : D) (s : List D) : D.eqL [] (y :: s) = false := by simp only [D.eqL, D.pyL, PyData.eqvAll]
@[simp] theorem D.eqL_cn (y : D) (s : List D) : D.eqL (y :: s) [] = false := by simp only [D.eqL, D.pyL, PyData.eqvAll]
@[simp] theorem D.eq_bl (i j : Bool) : D.eq (.bl i) (.bl j) = (i == j) := by simp only [D.eq, D.py, PyData.eqv]
@[simp] theorem D.eq_nn : D.eq .non .non = true := by simp only [D.eq, D.py, PyData.eqv]

section
variable {X : Cx} {K : PySem.W.Frag} {F0 : FZ} {a b e : Expr} {ta tb te : TE} {ta' tb' te' : DTE} {pos : Pos}
def dEq (neg : Bool) : DR2 := fun x y M Q => x.ok 60 = true ∧ y.ok 60 = true ∧ Q (.bl (if neg then !D.eq x y else D.eq x y)) M
theorem l2_eq : L2r K F0 (dEq false) (rEqD K) := by
  intro F M H d e x y Q' Q e0 s r1 r2 q k
  exact ⟨d.py, e.py, r1.dp s.fz q.1, r2.dp s.fz q.2.1, D.ok_shaped q.1, D.ok_shaped q.2.1, k F _ _ M H (FLe.refl F) s (.bl _) q.2.2⟩
theorem l2_ne : L2r K F0 (dEq true) (rNeD K) := by
  intro F M H d e x y Q' Q e0 s r1 r2 q k
  exact ⟨d.py, e.py, r1.dp s.fz q.1, r2.dp s.fz q.2.1, D.ok_shaped q.1, D.ok_shaped q.2.1, k F _ _ M H (FLe.refl F) s (.bl _) q.2.2⟩
theorem de_eq {n : Nat} (hr : Room n X.A) (ha : DE X F0 a ta ta') (hb : DE X F0 b tb tb') : DE X F0 (.Compare a [.Eq] [b] pos) (tOp (rEqD X.K) ta tb) (dOp (dEq false) ta' tb') := de_cmp (op_eqD hr.units) l2_eq ha hb (nomark _)
/-! ### and, or, not, if .. else -/
def dAnd (t u : DTT) : DTT := fun γ M Q => t γ M fun c M1 => if c = true then u γ M1 Q else Q false M1
def dOr (t u : DTT) : DTT := fun γ M Q => t γ M fun c M1 => if c = true then Q true M1 else u γ M1 Q
def dNot (t : DTT) : DTT := fun γ M Q => t γ M fun c M1 => Q (!c) M1
variable {tA tB : TT} {tA' tB' : DTT} {rest : List Expr}
theorem dw_and1 (ha : DT X F0 a tA tA') : DW X F0 (.BoolOp .And [a] pos) tA tA' := ⟨pw_and1 ha.pt, ha.le⟩
theorem dw_or1 (ha : DT X F0 a tA tA') : DW X F0 (.BoolOp .Or [a] pos) tA tA' := ⟨pw_or1 ha.pt, ha.le⟩
theorem lt_and (ha : LT K F0 tA' tA) (hb : LT K F0 tB' tB) : LT K F0 (dAnd tA' tB') (tAnd tA tB) := by
  intro F γ M σ H Q' Q e0 s g h k
  refine ha F γ M σ H _ _ e0 s g h fun F1 c M1 H1 e1 s1 q1 => ?_
  cases c with
  | true => exact hb F1 γ M1 σ H1 _ _ (e0.tr e1) s1 (g.mono e1) q1 fun F2 d M2 H2 e2 s2 q2 => k F2 d M2 H2 (e1.trans e2) s2 q2
  | false => exact k F1 false M1 H1 e1 s1 q1
theorem lt_or (ha : LT K F0 tA' tA) (hb : LT K F0 tB' tB) : LT K F0 (dOr tA' tB') (tOr tA tB) := by
  intro F γ M σ H Q' Q e0 s g h k
  refine ha F γ M σ H _ _ e0 s g h fun F1 c M1 H1 e1 s1 q1 => ?_
  cases c with
  | true => exact k F1 true M1 H1 e1 s1 q1
  | false => exact hb F1 γ M1 σ H1 _ _ (e0.tr e1) s1 (g.mono e1) q1 fun F2 d M2 H2 e2 s2 q2 => k F2 d M2 H2 (e1.trans e2) s2 q2
theorem lt_not (ha : LT K F0 tA' tA) : LT K F0 (dNot tA') (tNot tA) := by
  intro F γ M σ H Q' Q e0 s g h k
  exact ha F γ M σ H _ _ e0 s g h fun F1 c M1 H1 e1 s1 q1 => k F1 (!c) M1 H1 e1 s1 q1
theorem dw_and (ha : DT X F0 a tA tA') (hb : DW X F0 (.BoolOp .And (b :: rest) pos) tB tB') : DW X F0 (.BoolOp .And (a :: b :: rest) pos) (tAnd tA tB) (dAnd tA' tB') := ⟨pw_and ha.pt hb.pw, lt_and ha.le hb.le⟩
theorem dw_or (ha : DT X F0 a tA tA') (hb : DW X F0 (.BoolOp .Or (b :: rest) pos) tB tB') : DW X F0 (.BoolOp .Or (a :: b :: rest) pos) (tOr tA tB) (dOr tA' tB') := ⟨pw_or ha.pt hb.pw, lt_or ha.le hb.le⟩
theorem DW.dt {t : TT} {t' : DTT} (h : DW X F0 e t t') : DT X F0 e t t' := ⟨h.pw.pt, h.le⟩
theorem dt_not (ha : DT X F0 a tA tA') : DT X F0 (.UnaryOp .Not a pos) (tNot tA) (dNot tA') := ⟨pt_not ha.pt, lt_not ha.le⟩
def dIfE (c : DTT) (ta tb : DTE) : DTE := fun γ M Q => c γ M fun b M1 => if b = true then ta γ M1 Q else tb γ M1 Q
theorem de_ifExp {c : Expr} (hc : DT X F0 c tA tA') (ha : DE X F0 a ta ta') (hb : DE X F0 b tb tb') : DE X F0 (.IfExp c a b pos) (tIf tA ta tb) (dIfE tA' ta' tb') := by
  refine ⟨pe_ifExp hc.pt ha.pe hb.pe, ?_⟩
  intro F γ M σ H Q' Q e0 s g h k
  refine hc.le F γ M σ H _ _ e0 s g h fun F1 c M1 H1 e1 s1 q1 => ?_
  cases c with
  | true => exact ha.le F1 γ M1 σ H1 _ _ (e0.tr e1) s1 (g.mono e1) q1 fun F2 d v M2 H2 e2 s2 r2 q2 => k F2 d v M2 H2 (e1.trans e2) s2 r2 q2
  | false => exact hb.le F1 γ M1 σ H1 _ _ (e0.tr e1) s1 (g.mono e1) q1 fun F2 d v M2 H2 e2 s2 r2 q2 => k F2 d v M2 H2 (e1.trans e2) s2 r2 q2
end
end DL

set_option maxRecDepth 100000
set_option maxHeartbeats 2000000
namespace DL
open PySem PySem.Spec PyProof.Rows L2

/-! ### statements -/
structure DEnds where
  nx : G → Mp → Prop
  rt : DK
  bk : G → Mp → Prop := fun _ _ => False
  ct : G → Mp → Prop := fun _ _ => False
abbrev DTS := DEnds → G → Mp → Prop
structure ER (K : PySem.W.Frag) (F : FZ) (D' : DEnds) (D : Ends) : Prop where
  nx : ∀ F1 γ M σ H, FLe F F1 → SR K F1 M H → GR K F1 γ σ → D'.nx γ M → D.nx σ H
  rt : ∀ F1 d v M H, FLe F F1 → SR K F1 M H → Rp K F1 d v → D'.rt d M → D.rt v H
  bk : ∀ F1 γ M σ H, FLe F F1 → SR K F1 M H → GR K F1 γ σ → D'.bk γ M → D.bk σ H
  ct : ∀ F1 γ M σ H, FLe F F1 → SR K F1 M H → GR K F1 γ σ → D'.ct γ M → D.ct σ H
theorem ER.mono {K : PySem.W.Frag} {F F1 : FZ} {D' : DEnds} {D : Ends} (h : ER K F D' D) (e : FLe F F1) : ER K F1 D' D :=
  ⟨fun F2 γ M σ H e2 => h.nx F2 γ M σ H (e.trans e2), fun F2 d v M H e2 => h.rt F2 d v M H (e.trans e2), fun F2 γ M σ H e2 => h.bk F2 γ M σ H (e.trans e2), fun F2 γ M σ H e2 => h.ct F2 γ M σ H (e.trans e2)⟩
def LS (K : PySem.W.Frag) (F0 : FZ) (t' : DTS) (t : TS) : Prop := ∀ (F : FZ) (γ : G) (M : Mp) (σ : L2.St) (H : Hp) (D' : DEnds) (D : Ends), Bs F0 F → SR K F M H → GR K F γ σ → t' D' γ M → ER K F D' D → t D σ H
structure DS (X : Cx) (F0 : FZ) (st : Stmt) (t : TS) (t' : DTS) : Prop where
  ps : PS X st t
  le : LS X.K F0 t' t
structure DB (X : Cx) (F0 : FZ) (st : List Stmt) (t : TS) (t' : DTS) : Prop where
  ps : PSs X st t
  le : LS X.K F0 t' t

section
variable {X : Cx} {K : PySem.W.Frag} {F0 : FZ} {st : Stmt} {rest : List Stmt} {t u : TS} {t' u' : DTS} {e : Expr} {te : TE} {te' : DTE} {pos : Pos}
def dNext : DTS := fun D γ M => D.nx γ M
def dSeq (t u : DTS) : DTS := fun D γ M => t { D with nx := u D } γ M
theorem db_nil : DB X F0 [] tNext dNext := ⟨pss_nil, fun F γ M σ H D' D e0 s g q er => er.nx F γ M σ H (FLe.refl F) s g q⟩
theorem ls_seq (h1 : LS K F0 t' t) (h2 : LS K F0 u' u) : LS K F0 (dSeq t' u') (tSeq t u) := by
  intro F γ M σ H D' D e0 s g q er
  refine h1 F γ M σ H { D' with nx := u' D' } { D with nx := u D } e0 s g q ⟨fun F1 γ1 M1 σ1 H1 e1 s1 g1 q1 => ?_, er.rt, er.bk, er.ct⟩
  exact h2 F1 γ1 M1 σ1 H1 D' D (e0.tr e1) s1 g1 q1 (er.mono e1)
theorem db_cons (h1 : DS X F0 st t t') (h2 : DB X F0 rest u u') : DB X F0 (st :: rest) (tSeq t u) (dSeq t' u') := ⟨pss_cons h1.ps h2.ps, ls_seq h1.le h2.le⟩
theorem db_one (h1 : DS X F0 st t t') : DB X F0 [st] t t' := ⟨pss_one h1.ps, h1.le⟩
def dDrop (te : DTE) : DTS := fun D γ M => te γ M fun _ M1 => D.nx γ M1
theorem ds_expr (he : DE X F0 e te te') (hs : swapsWith e none pos.line X.env = pure false := by rfl) : DS X F0 (.Expr e pos) (tDrop te) (dDrop te') :=
  ⟨ps_expr he.pe hs, fun F γ M σ H D' D e0 s g q er => he.le F γ M σ H _ _ e0 s g q fun F1 d v M1 H1 e1 s1 r1 q1 => er.nx F1 γ M1 σ H1 e1 s1 (g.mono e1) q1⟩
def dRet (te : DTE) : DTS := fun D γ M => te γ M D.rt
theorem ds_ret (he : DE X F0 e te te') : DS X F0 (.Return (some e) pos) (tRet te) (dRet te') :=
  ⟨ps_ret he.pe, fun F γ M σ H D' D e0 s g q er => he.le F γ M σ H _ _ e0 s g q fun F1 d v M1 H1 e1 s1 r1 q1 => er.rt F1 d v M1 H1 e1 s1 r1 q1⟩
def dIfS (c : DTT) (t u : DTS) : DTS := fun D γ M => c γ M fun b M1 => if b = true then t D γ M1 else u D γ M1
theorem ds_if {c : Expr} {a b : List Stmt} {tc : TT} {tc' : DTT} (hc : DT X F0 c tc tc') (ha : DB X F0 a t t') (hb : DB X F0 b u u') : DS X F0 (.If c a b pos) (tIfS tc t u) (dIfS tc' t' u') := by
  refine ⟨ps_if hc.pt ha.ps hb.ps, fun F γ M σ H D' D e0 s g q er => ?_⟩
  refine hc.le F γ M σ H _ _ e0 s g q fun F1 c M1 H1 e1 s1 q1 => ?_
  cases c with
  | true => exact ha.le F1 γ M1 σ H1 D' D (e0.tr e1) s1 (g.mono e1) q1 (er.mono e1)
  | false => exact hb.le F1 γ M1 σ H1 D' D (e0.tr e1) s1 (g.mono e1) q1 (er.mono e1)
def dNever : DTS := fun _ _ _ => False
theorem ds_never : DS X F0 st tNever dNever := ⟨ps_never, fun F γ M σ H D' D e0 s g q er => q.elim⟩
theorem GR.reset {F : FZ} {γ : G} {σ : L2.St} {d : D} {v : V} (h : GR K F γ σ) {i : Nat} (hv : σ[i]? = some (some v)) (r : Rp K F d v) : GR K F (γ.set i (some d)) σ := by
  refine ⟨by simp [h.len], fun j e q => ?_⟩
  by_cases hj : i = j
  · subst hj
    by_cases hl : i < γ.length
    · rw [List.getElem?_set_self hl] at q
      cases q
      exact ⟨v, hv, r⟩
    · rw [List.getElem?_eq_none (by simpa using hl)] at q
      cases q
  · rw [List.getElem?_set_ne hj] at q
    exact h.at' j e q
end

/-! ### targets -/
abbrev DTG := D → G → Mp → (G → Mp → Prop) → Prop
abbrev DTGs := List D → G → Mp → (G → Mp → Prop) → Prop
def LG (K : PySem.W.Frag) (F0 : FZ) (g' : DTG) (g : TG) : Prop := ∀ (F : FZ) (γ : G) (M : Mp) (σ : L2.St) (H : Hp) (d : D) (v : V) (Q' : G → Mp → Prop) (Q : L2.St → Hp → Prop), Bs F0 F → SR K F M H → GR K F γ σ → Rp K F d v → g' d γ M Q' →
  (∀ F1 γ1 M1 σ1 H1, FLe F F1 → SR K F1 M1 H1 → GR K F1 γ1 σ1 → Q' γ1 M1 → Q σ1 H1) → g v σ H Q
def LGs (K : PySem.W.Frag) (F0 : FZ) (g' : DTGs) (g : TGs) : Prop := ∀ (F : FZ) (γ : G) (M : Mp) (σ : L2.St) (H : Hp) (d : List D) (v : List V) (Q' : G → Mp → Prop) (Q : L2.St → Hp → Prop), Bs F0 F → SR K F M H → GR K F γ σ → RpL K F d v → g' d γ M Q' →
  (∀ F1 γ1 M1 σ1 H1, FLe F F1 → SR K F1 M1 H1 → GR K F1 γ1 σ1 → Q' γ1 M1 → Q σ1 H1) → g v σ H Q
structure DG (X : Cx) (F0 : FZ) (tg : Expr) (t : TG) (t' : DTG) : Prop where
  pg : PG X tg t
  le : LG X.K F0 t' t
structure DGs (X : Cx) (F0 : FZ) (ts : List Expr) (t : TGs) (t' : DTGs) : Prop where
  pg : PGs X ts t
  le : LGs X.K F0 t' t
section
variable {X : Cx} {K : PySem.W.Frag} {F0 : FZ} {pos : Pos}
def hName (i : Nat) : DTG := fun d γ M Q => Q (γ.set i (some d)) M
theorem dg_name (i : Nat) {x : Str} (hN : X.N.Nodup) (hi : X.N[i]? = some x := by rfl) (hx : Loc X.env.scope x := by first | exact Or.inl rfl | exact Or.inr rfl) (hf : X.fn x = true ∨ X.env.scope.names.lookup x = some .local := by first | exact .inl rfl | exact .inr rfl | assumption) :
    DG X F0 (.Name x pos) (gName i) (hName i) :=
  ⟨pg_name hN hi hx hf, fun F γ M σ H d v Q' Q e0 s g r q k => k F _ M _ H (FLe.refl F) s (g.set r i) q⟩
def hNil : DTGs := fun ds γ M Q => match ds with
  | [] => Q γ M
  | _ => False
def hCons (t : DTG) (u : DTGs) : DTGs := fun ds γ M Q => match ds with
  | d :: r => t d γ M fun γ1 M1 => u r γ1 M1 Q
  | [] => False
theorem dgs_nil : DGs X F0 [] gNil hNil := ⟨pgs_nil, fun F γ M σ H d v Q' Q e0 s g r q k => by
  cases r with
  | nil => exact ⟨rfl, k F γ M σ H (FLe.refl F) s g q⟩
  | cons _ _ => exact False.elim q⟩
theorem dgs_cons {e : Expr} {es : List Expr} {t : TG} {t' : DTG} {u : TGs} {u' : DTGs} (h1 : DG X F0 e t t') (h2 : DGs X F0 es u u')
    (hs : (assignEach (e :: es) X.env).map (·.2) = assign e X.env :: (assignEach es X.env).map (·.2) := by rfl) : DGs X F0 (e :: es) (gCons t u) (hCons t' u') := ⟨pgs_cons h1.pg h2.pg hs, fun F γ M σ H d v Q' Q e0 s g r q k => by
  cases r with
  | nil => exact False.elim q
  | cons r1 r2 =>
    exact ⟨_, _, rfl, h1.le F γ M σ H _ _ _ _ e0 s g r1 q fun F1 γ1 M1 σ1 H1 e1 s1 g1 q1 => h2.le F1 γ1 M1 σ1 H1 _ _ _ _ (e0.tr e1) s1 g1 (r2.mono e1) q1 fun F2 γ2 M2 σ2 H2 e2 s2 g2 q2 => k F2 γ2 M2 σ2 H2 (e1.trans e2) s2 g2 q2⟩⟩
def hTup (n : Nat) (t : DTGs) : DTG := fun d γ M Q => match d with
  | .tup l => l.length = n ∧ t l γ M Q
  | _ => False
theorem dg_tup {es : List Expr} {k : Nat} {t : TGs} {t' : DTGs} {n : Nat} (hc : X.calm = true) (h : DGs X F0 es t t')
    (hn : (assignEach es X.env).length = n := by rfl) (hst : (assignEach es X.env).findIdx? (·.1) = none := by rfl) : DG X F0 (.Tuple es k pos) (gTup X.K n t) (hTup n t') := ⟨pg_tup hc h.pg hn hst, fun F γ M σ H d v Q' Q e0 s g r q kk => by
  unfold hTup at q
  split at q
  · cases r with
    | tup a b => exact ⟨_, _, rfl, s.sqT a, b.length ▸ q.1, h.le F γ M σ H _ _ _ _ e0 s g b q.2 kk⟩
  · exact q.elim⟩
/-- o[i] = v, by values -/
abbrev DTSet := D → D → D → Mp → (Mp → Prop) → Prop
def L3s (K : PySem.W.Frag) (F0 : FZ) (r' : DTSet) (r : TSet) : Prop := ∀ (F : FZ) (M : Mp) (H : Hp) (o i d : D) (x y v : V) (Q' : Mp → Prop) (Q : Hp → Prop), Bs F0 F → SR K F M H → Rp K F o x → Rp K F i y → Rp K F d v → r' o i d M Q' →
  (∀ F1 M1 H1, FLe F F1 → SR K F1 M1 H1 → Q' M1 → Q H1) → r x y v H Q
def hSub (to ti : DTE) (t : DTSet) : DTG := fun d γ M Q => to γ M fun o M1 => ti γ M1 fun i M2 => t o i d M2 fun M3 => Q γ M3
theorem dg_sub {o i : Expr} {to ti : TE} {to' ti' : DTE} {t : TSet} {t' : DTSet} (ho : DE X F0 o to to') (hi : DE X F0 i ti ti') (hs : PSet X t) (hl : L3s X.K F0 t' t)
    (ha : ∀ v, assign (.Subscript o i pos) X.env v = (do
      let ov ← holding [v] (eval o X.env)
      let iv ← holding [v, ov] (eval i X.env)
      standAt pos
      holding [v, ov, iv] (setItem ov iv v)
      release [v, ov, iv] []) := by intro _; rfl) : DG X F0 (.Subscript o i pos) (gSub to ti t) (hSub to' ti' t') := ⟨pg_sub ho.pe hi.pe hs ha, fun F γ M σ H d v Q' Q e0 s g r q k => by
  refine ho.le F γ M σ H _ _ e0 s g q fun F1 d1 v1 M1 H1 e1 s1 r1 q1 => ?_
  refine hi.le F1 γ M1 σ H1 _ _ (e0.tr e1) s1 (g.mono e1) q1 fun F2 d2 v2 M2 H2 e2 s2 r2 q2 => ?_
  exact hl F2 M2 H2 d1 d2 d v1 v2 v _ _ ((e0.tr e1).tr e2) s2 (r1.mono e2) r2 (r.mono (e1.trans e2)) q2 fun F3 M3 H3 e3 s3 q3 => k F3 γ M3 σ H3 ((e1.trans e2).trans e3) s3 (g.mono ((e1.trans e2).trans e3)) q3⟩
def dAsg (te : DTE) (g : DTG) : DTS := fun D γ M => te γ M fun x M1 => g x γ M1 D.nx
theorem ls_asg {te : TE} {te' : DTE} {g : TG} {g' : DTG} (he : LE K F0 te' te) (hg : LG K F0 g' g) : LS K F0 (dAsg te' g') (tAsg te g) := fun F γ M σ H D' D e0 s gr q er =>
  he F γ M σ H _ _ e0 s gr q fun F1 d v M1 H1 e1 s1 r1 q1 => hg F1 γ M1 σ H1 d v _ _ (e0.tr e1) s1 (gr.mono e1) r1 q1 fun F2 γ2 M2 σ2 H2 e2 s2 g2 q2 => er.nx F2 γ2 M2 σ2 H2 (e1.trans e2) s2 g2 q2
theorem ds_asg {tg e : Expr} {te : TE} {te' : DTE} {g : TG} {g' : DTG} (he : DE X F0 e te te') (hg : DG X F0 tg g g') (hs : swapsWithSole [tg] e pos.line X.env = pure false := by rfl) (hw : swappedStores [tg] e X.env = pure none := by rfl)
    (h1 : (assignEach [tg] X.env).map (·.2) = [assign tg X.env] := by rfl) : DS X F0 (.Assign [tg] e pos) (tAsg te g) (dAsg te' g') := ⟨ps_asg he.pe hg.pg hs hw h1, ls_asg he.le hg.le⟩
theorem ds_set (i : Nat) {x : Str} {e : Expr} {te : TE} {te' : DTE} {pos' : Pos} (hN : X.N.Nodup) (he : DE X F0 e te te') (hi : X.N[i]? = some x := by rfl) (hx : Loc X.env.scope x := by first | exact Or.inl rfl | exact Or.inr rfl)
    (hs : swapsWith e (some (.Name x pos')) pos.line X.env = pure false := by rfl) (hf : X.fn x = true ∨ X.env.scope.names.lookup x = some .local := by first | exact .inl rfl | exact .inr rfl | assumption) :
    DS X F0 (.Assign [.Name x pos'] e pos) (tAsg te (gName i)) (dAsg te' (hName i)) := ⟨ps_set hN hi hx he.pe hs hf, ls_asg he.le (dg_name (X := X) (F0 := F0) (pos := pos') i hN hi hx hf).le⟩
/-- x op= e -/
abbrev DTIp := D → D → Mp → DK → Prop
end

/-! ### loops -/
section
variable {X : Cx} {K : PySem.W.Frag} {F0 : FZ} {pos : Pos}
def dWhile (c : DTT) (tb : DTS) : DTS := fun D γ M => ∃ W : Nat → G → Mp → Prop, (∃ m, W m γ M) ∧ ∀ m γ M, W m γ M →
  c γ M fun b M1 => if b = true then tb { D with nx := fun γ' M' => ∃ m', m' < m ∧ W m' γ' M', ct := fun γ' M' => ∃ m', m' < m ∧ W m' γ' M', bk := D.nx } γ M1 else D.nx γ M1
theorem ds_while {c : Expr} {body : List Stmt} {tc : TT} {tc' : DTT} {tb : TS} {tb' : DTS} (hp : PassesOwn (model X.prog X.w) X.A X.env X.xe) (hc : DT X F0 c tc tc') (hb : DB X F0 body tb tb') : DS X F0 (.While c body [] pos) (tWhile tc tb) (dWhile tc' tb') := by
  refine ⟨ps_while hp hc.pt hb.ps, fun F γ M σ H D' D e0 s g q er => ?_⟩
  obtain ⟨W, ⟨m0, w0⟩, turn⟩ := q
  refine ⟨fun m σ H => ∃ F1 γ M, FLe F F1 ∧ SR X.K F1 M H ∧ GR X.K F1 γ σ ∧ W m γ M, ⟨m0, F, γ, M, FLe.refl F, s, g, w0⟩, ?_⟩
  rintro m σ1 H1 ⟨F1, γ1, M1, e1, s1, g1, w1⟩
  refine hc.le F1 γ1 M1 σ1 H1 _ _ (e0.tr e1) s1 g1 (turn m γ1 M1 w1) fun F2 b M2 H2 e2 s2 q2 => ?_
  cases b with
  | false => exact er.nx F2 γ1 M2 σ1 H2 (e1.trans e2) s2 (g1.mono e2) q2
  | true =>
    refine ⟨fun σ' H' => ∃ m', m' < m ∧ ∃ F1 γ M, FLe F F1 ∧ SR X.K F1 M H' ∧ GR X.K F1 γ σ' ∧ W m' γ M, fun σ' H' h => h, ?_⟩
    refine hb.le F2 γ1 M2 σ1 H2 _ _ ((e0.tr e1).tr e2) s2 (g1.mono e2) q2 ⟨?_, fun F3 d v M3 H3 e3 => er.rt F3 d v M3 H3 ((e1.trans e2).trans e3), fun F3 γ3 M3 σ3 H3 e3 => er.nx F3 γ3 M3 σ3 H3 ((e1.trans e2).trans e3), ?_⟩
    · rintro F3 γ3 M3 σ3 H3 e3 s3 g3 ⟨m', hm, w3⟩
      exact ⟨m', hm, F3, γ3, M3, (e1.trans e2).trans e3, s3, g3, w3⟩
    · rintro F3 γ3 M3 σ3 H3 e3 s3 g3 ⟨m', hm, w3⟩
      exact ⟨m', hm, F3, γ3, M3, (e1.trans e2).trans e3, s3, g3, w3⟩

abbrev DTI := G → Mp → (List D → Mp → Prop) → Prop
/-- a walk over known items -/
def JR (K : PySem.W.Frag) (F : FZ) (items : List D) (J : It) : Prop := ∀ (i : Nat) (F1 : FZ) (M1 : Mp) (H1 : Hp), Bj F F1 → SR K F1 M1 H1 →
  (items.length ≤ i → J.stop i H1) ∧ ∀ d, items[i]? = some d → J.go i H1 ∧ ∀ x H2, J.yld i H1 x H2 → ∃ F2, FLe F1 F2 ∧ SR K F2 M1 H2 ∧ Rp K F2 d x
def LI (K : PySem.W.Frag) (F0 : FZ) (wi' : DTI) (wi : TI) : Prop := ∀ (F : FZ) (γ : G) (M : Mp) (σ : L2.St) (H : Hp) (R' : List D → Mp → Prop) (R : It → Hp → Prop), Bs F0 F → SR K F M H → GR K F γ σ → wi' γ M R' →
  (∀ F1 items J M1 H1, FLe F F1 → SR K F1 M1 H1 → JR K F1 items J → R' items M1 → R J H1) → wi σ H R
structure DI (X : Cx) (F0 : FZ) (tg iter : Expr) (wi : TI) (wi' : DTI) : Prop where
  pi : PI X tg iter wi
  le : LI X.K F0 wi' wi
theorem JR.mono {F F1 : FZ} {items : List D} {J : It} (h : JR K F items J) (e : FLe F F1) : JR K F1 items J := fun i F2 M H e2 s => h i F2 M H (e.bj.trans e2) s
def dForI (g : DTG) (tb : DTS) (D0 : DEnds) (γ : G) (items : List D) (M1 : Mp) : Prop := ∃ I : Nat → G → Mp → Prop, I 0 γ M1 ∧
  (∀ i d γ M, items[i]? = some d → I i γ M → g d γ M fun γ1 M1 => tb { D0 with nx := I (i + 1), ct := I (i + 1), bk := D0.nx } γ1 M1) ∧ ∀ γ M, I items.length γ M → D0.nx γ M
def dFor (wi : DTI) (g : DTG) (tb : DTS) : DTS := fun D0 γ M => wi γ M fun items M1 => dForI g tb D0 γ items M1
theorem ds_for {tg iter : Expr} {body : List Stmt} {wi : TI} {wi' : DTI} {g : TG} {g' : DTG} {tb : TS} {tb' : DTS} (hp : PassesOwn (model X.prog X.w) X.A X.env X.xe) (hc : X.calm = true) (hi : DI X F0 tg iter wi wi') (hg : DG X F0 tg g g') (hb : DB X F0 body tb tb')
    (hs : ∀ x, foldedSetIterable iter X.env x = pure x := by intro _; rfl) : DS X F0 (.For tg iter body [] pos) (tFor wi g tb) (dFor wi' g' tb') := by
  refine ⟨ps_for hp hc hi.pi hg.pg hb.ps hs, fun F γ M σ H D' D0 e0 s gr q er => ?_⟩
  refine hi.le F γ M σ H _ _ e0 s gr q fun F1 items J M1 H1 e1 s1 j1 q1 => ?_
  obtain ⟨I, h0, step, fin⟩ := q1
  refine ⟨fun i m σ H => m = items.length - i ∧ i ≤ items.length ∧ ∃ F2 γ2 M2, FLe F1 F2 ∧ SR X.K F2 M2 H ∧ GR X.K F2 γ2 σ ∧ I i γ2 M2, ⟨items.length, by simp, Nat.zero_le _, F1, γ, M1, FLe.refl F1, s1, gr.mono e1, h0⟩, ?_⟩
  rintro i m σ2 H2 ⟨rfl, hi', F2, γ2, M2, e2, s2, g2, q2⟩
  have j2 := j1 i F2 M2 H2 e2.bj s2
  by_cases hlt : i < items.length
  · have hd : items[i]? = some items[i] := List.getElem?_eq_getElem hlt
    obtain ⟨go, y⟩ := j2.2 _ hd
    refine .inr ⟨go, fun σ' H' => ∃ F2 γ2 M2, FLe F1 F2 ∧ SR X.K F2 M2 H' ∧ GR X.K F2 γ2 σ' ∧ I (i + 1) γ2 M2, fun σ' H' h => ⟨items.length - (i + 1), by omega, rfl, hlt, h⟩, fun x H3 yy => ?_⟩
    obtain ⟨F3, e3, s3, r3⟩ := y x H3 yy
    refine hg.le F3 γ2 M2 σ2 H3 _ x _ _ ((e0.tr e1).tr (e2.trans e3)) s3 (g2.mono e3) r3 (step i _ γ2 M2 hd q2) fun F4 γ4 M4 σ4 H4 e4 s4 g4 q4 => ?_
    refine hb.le F4 γ4 M4 σ4 H4 _ _ (((e0.tr e1).tr (e2.trans e3)).tr e4) s4 g4 q4 ⟨?_, fun F5 d v M5 H5 e5 => er.rt F5 d v M5 H5 ((e1.trans ((e2.trans e3).trans e4)).trans e5), fun F5 γ5 M5 σ5 H5 e5 => er.nx F5 γ5 M5 σ5 H5 ((e1.trans ((e2.trans e3).trans e4)).trans e5), ?_⟩
    · intro F5 γ5 M5 σ5 H5 e5 s5 g5 q5
      exact ⟨F5, γ5, M5, (((e2.trans e3).trans e4).trans e5), s5, g5, q5⟩
    · intro F5 γ5 M5 σ5 H5 e5 s5 g5 q5
      exact ⟨F5, γ5, M5, (((e2.trans e3).trans e4).trans e5), s5, g5, q5⟩
  · have e : i = items.length := by omega
    subst e
    exact .inl ⟨j2.1 (Nat.le_refl _), er.nx F2 γ2 M2 σ2 H2 (e1.trans e2) s2 g2 (fin γ2 M2 q2)⟩
end
end DL

set_option maxRecDepth 100000
set_option maxHeartbeats 2000000
namespace DL
open PySem PySem.Spec PyProof.Rows L2

/-! ### argument lists, displays -/
section
variable {X : Cx} {K : PySem.W.Frag} {F0 : FZ} {a b e : Expr} {es : List Expr} {ta tb te : TE} {ta' tb' te' : DTE} {t : TA} {t' : DTA} {pos : Pos}
def dNil : DTA := fun _ M Q => Q [] M
def dCons (ta : DTE) (tr : DTA) : DTA := fun γ M Q => ta γ M fun x M1 => tr γ M1 fun xs M2 => Q (x :: xs) M2
theorem da_nil : DA X F0 [] tNil dNil := ⟨pa_nil, fun F γ M σ H Q' Q e0 s g q k => k F [] [] M H (FLe.refl F) s .nil q⟩
theorem da_cons (ha : DE X F0 e te te') (hr : DA X F0 es t t') (hs : starEach (e :: es) X.env = (false, eval e X.env) :: starEach es X.env := by rfl) : DA X F0 (e :: es) (tCons te t) (dCons te' t') :=
  ⟨pa_cons ha.pe hr.pa hs, fun F γ M σ H Q' Q e0 s g q k => ha.le F γ M σ H _ _ e0 s g q fun F1 d v M1 H1 e1 s1 r1 q1 =>
    hr.le F1 γ M1 σ H1 _ _ (e0.tr e1) s1 (g.mono e1) q1 fun F2 ds vs M2 H2 e2 s2 r2 q2 => k F2 _ _ M2 H2 (e1.trans e2) s2 (.cons (r1.mono e2) r2) q2⟩
def dTup (t : DTA) : DTE := fun γ M Q => t γ M fun ds M1 => ds.length ≤ sizeLine ∧ Q (.tup ds) M1
def dLst (t : DTA) : DTE := fun γ M Q => t γ M fun ds M1 => ds.length ≤ sizeLine ∧ Q (.lst ds) M1
def dLstM (t : DTA) : DTE := fun γ M Q => t γ M fun ds M1 => ds.length ≤ sizeLine ∧ ∀ p, M1 p = none → Q (.ref p) (mset M1 p (.lst ds))
theorem de_tup {x1} (h : DA X F0 es t t') : DE X F0 (.Tuple es x1 pos) (tTup t) (dTup t') := ⟨pe_tup h.pa, fun F γ M σ H Q' Q e0 s g q k => by
  refine h.le F γ M σ H _ _ e0 s g q fun F1 ds vs M1 H1 e1 s1 r1 q1 => ?_
  have hl : vs.length ≤ sizeLine := r1.length ▸ q1.1
  refine ⟨hl, fun p hp => ?_⟩
  have e2 := same_upd (o := .tup vs) (s1.freeF hp)
  exact k _ _ _ _ _ (e1.trans e2) (s1.newF hp hl) (.tup upd_same (r1.mono e2)) q1.2⟩
theorem de_lst (h : DA X F0 es t t') : DE X F0 (.List es pos) (tLst t) (dLst t') := ⟨pe_lst h.pa, fun F γ M σ H Q' Q e0 s g q k => by
  refine h.le F γ M σ H _ _ e0 s g q fun F1 ds vs M1 H1 e1 s1 r1 q1 => ?_
  have hl : vs.length ≤ sizeLine := r1.length ▸ q1.1
  refine ⟨hl, fun p hp => ?_⟩
  have e2 := same_upd (o := .lst vs) (s1.freeF hp)
  exact k _ _ _ _ _ (e1.trans e2) (s1.newF hp hl) (.lst upd_same (r1.mono e2)) q1.2⟩
theorem de_lstM (h : DA X F0 es t t') : DE X F0 (.List es pos) (tLst t) (dLstM t') := ⟨pe_lst h.pa, fun F γ M σ H Q' Q e0 s g q k => by
  refine h.le F γ M σ H _ _ e0 s g q fun F1 ds vs M1 H1 e1 s1 r1 q1 => ?_
  have hl : vs.length ≤ sizeLine := r1.length ▸ q1.1
  refine ⟨hl, fun p hp => ?_⟩
  exact k F1 _ _ _ _ e1 (s1.putN hp (.lst r1 hl)) (.ref p) (q1.2 p (s1.freeM hp))⟩
end

/-! ### dicts as told -/
section
variable {κ : Type} [DecidableEq κ]
def dval (kvs : List (κ × D)) (k : κ) : Option D := (kvs.find? fun kv => decide (kv.1 = k)).map (·.2)
def dput (kvs : List (κ × D)) (k : κ) (v : D) : List (κ × D) := if (dval kvs k).isSome = true then kvs.map fun kv => if kv.1 = k then (kv.1, v) else kv else kvs ++ [(k, v)]
end
def keyOf : D → Option Key
  | .int i => some (.inl i)
  | .str x => some (.inr x)
  | _ => none
def keysOf : List D → Option (List Key)
  | [] => some []
  | d :: r => match keyOf d, keysOf r with
    | some k, some ks => some (k :: ks)
    | _, _ => none
/-- the dict at p, asked for y -/
def dLook (M : Mp) (p : Addr) (y : D) : Option (Option D) := match M p with
  | some (.dK kvs) => (keyOf y).map fun k => dval kvs k
  | some (.dT kvs) => match y with
    | .tup l => (keysOf l).map fun k => dval kvs k
    | _ => none
  | _ => none
section
variable {K : PySem.W.Frag} {F : FZ} {M : Mp} {H : Hp}
theorem keyOf_rp {d : D} {v : V} {k : Key} (r : Rp K F d v) (h : keyOf d = some k) : v = kV k := by
  cases r <;> simp [keyOf] at h <;> subst h <;> rfl
theorem keysOf_rp : ∀ {ds : List D} {xs : List V} {ks : List Key}, RpL K F ds xs → keysOf ds = some ks → xs = ks.map kV
  | _, _, ks, .nil, h => by simp [keysOf] at h; subst h; rfl
  | _, _, ks, .cons r t, h => by
    simp only [keysOf] at h
    split at h
    · rename_i k ks' hk hks
      cases h
      rw [List.map_cons, keyOf_rp r hk, keysOf_rp t hks]
    · cases h
theorem kvr_find {κ : Type} [DecidableEq κ] {k : κ} : ∀ {l : List (κ × D)} {m : List (κ × V)}, KVR K F l m →
    (dval l k = none ∧ valV m k = none) ∨ ∃ d v, dval l k = some d ∧ valV m k = some v ∧ Rp K F d v
  | _, _, .nil => .inl ⟨rfl, rfl⟩
  | (k1, d) :: l, (k2, v) :: m, .cons r t => by
    obtain ⟨e, r⟩ := r
    simp only at e r
    subst e
    by_cases h : k1 = k
    · refine .inr ⟨d, v, ?_, ?_, r⟩ <;> simp [dval, valV, List.find?, h]
    · have e1 : dval ((k1, d) :: l) k = dval l k := by simp [dval, List.find?, h]
      have e2 : valV ((k1, v) :: m) k = valV m k := by simp [valV, List.find?, h]
      rw [e1, e2]
      exact kvr_find t
theorem kvr_append {κ : Type} : ∀ {l : List (κ × D)} {m : List (κ × V)} {l' : List (κ × D)} {m' : List (κ × V)}, KVR K F l m → KVR K F l' m' → KVR K F (l ++ l') (m ++ m')
  | _, _, _, _, .nil, s => s
  | _, _, _, _, .cons r t, s => .cons r (kvr_append t s)
theorem kvr_len {κ : Type} {l : List (κ × D)} {m : List (κ × V)} (h : KVR K F l m) : l.length = m.length := Paired.length h
theorem kvr_map {κ : Type} [DecidableEq κ] {k : κ} {d : D} {v : V} (r : Rp K F d v) : ∀ {l : List (κ × D)} {m : List (κ × V)}, KVR K F l m →
    KVR K F (l.map fun kv => if kv.1 = k then (kv.1, d) else kv) (m.map fun kv => if kv.1 = k then (kv.1, v) else kv)
  | _, _, .nil => .nil
  | (k1, d1) :: l, (k2, v1) :: m, .cons q t => by
    obtain ⟨e, q⟩ := q
    simp only at e q
    subst e
    rw [List.map_cons, List.map_cons]
    refine .cons ?_ (kvr_map r t)
    by_cases h : k1 = k
    · simp [h, r]
    · simp [h, q]
theorem putK_eq {κ : Type} [DecidableEq κ] (m : List (κ × V)) (k : κ) (v : V) : putK m k v = if (valV m k).isSome = true then m.map fun kv => if kv.1 = k then (kv.1, v) else kv else m ++ [(k, v)] := by
  unfold putK valV
  have e : (m.any fun kv => decide (kv.1 = k)) = ((m.find? fun kv => decide (kv.1 = k)).map (·.2)).isSome := by
    induction m with
    | nil => rfl
    | cons p r ih =>
      by_cases h : p.1 = k
      · simp [List.find?, h]
      · simp [List.find?, h] at ih ⊢
        exact ih
  rw [e]
theorem kvr_put {κ : Type} [DecidableEq κ] {k : κ} {d : D} {v : V} (r : Rp K F d v) {l : List (κ × D)} {m : List (κ × V)} (h : KVR K F l m) : KVR K F (dput l k d) (putK m k v) := by
  unfold dput
  rw [putK_eq]
  rcases kvr_find (k := k) h with ⟨e1, e2⟩ | ⟨d1, v1, e1, e2, _⟩
  · rw [e1, e2]
    exact kvr_append h (.cons ⟨rfl, r⟩ .nil)
  · rw [e1, e2]
    exact kvr_map r h
theorem dLook_get (s : SR K F M H) {p : Addr} {y : D} {v : V} {o : Option D} (r : Rp K F y v) (h : dLook M p y = some o) :
    ∃ o', DGet H p v o' ∧ ((o = none ∧ o' = none) ∨ ∃ d w, o = some d ∧ o' = some w ∧ Rp K F d w) := by
  unfold dLook at h
  split at h
  · rename_i kvs hm
    obtain ⟨k, hk, e⟩ := Option.map_eq_some_iff.mp h
    obtain ⟨u, h1, h2⟩ := s.mu p _ hm
    cases h2 with
    | dK r2 z =>
      refine ⟨_, (keyOf_rp r hk) ▸ DGet.k (k := k) h1, ?_⟩
      rcases kvr_find (k := k) r2 with ⟨e1, e2⟩ | ⟨d1, v1, e1, e2, r3⟩
      · exact .inl ⟨by rw [← e, e1], e2⟩
      · exact .inr ⟨d1, v1, by rw [← e, e1], e2, r3⟩
  · rename_i kvs hm
    split at h
    · rename_i l
      obtain ⟨k, hk, e⟩ := Option.map_eq_some_iff.mp h
      obtain ⟨u, h1, h2⟩ := s.mu p _ hm
      cases r with
      | tup ha rl =>
        have hx := keysOf_rp rl hk
        subst hx
        cases h2 with
        | dT r2 z _ =>
          refine ⟨_, DGet.t (k := k) h1 (s.fz _ _ ha), ?_⟩
          rcases kvr_find (k := k) r2 with ⟨e1, e2⟩ | ⟨d1, v1, e1, e2, r3⟩
          · exact .inl ⟨by rw [← e, e1], e2⟩
          · exact .inr ⟨d1, v1, by rw [← e, e1], e2, r3⟩
    · cases h
  · cases h
/-- a frozen dict, asked for y -/
def dkLook : D → D → Option (Option D)
  | .dk ks l, y => (keyOf y).map fun k => dval (ks.zip l) k
  | .dt ks l, .tup m => (keysOf m).map fun k => dval (ks.zip l) k
  | _, _ => none
theorem kvr_zip {κ : Type} : ∀ {ps : List (κ × V)} {l : List D}, RpL K F l (ps.map (·.2)) → KVR K F ((ps.map (·.1)).zip l) ps
  | [], _, .nil => .nil
  | (k, v) :: ps, d :: l, .cons r t => .cons ⟨rfl, r⟩ (kvr_zip t)
theorem dkLook_get (s : SR K F M H) {x y : D} {u v : V} {o : Option D} (rx : Rp K F x u) (r : Rp K F y v) (h : dkLook x y = some o) :
    ∃ p o', u = .ref p ∧ DGet H p v o' ∧ ((o = none ∧ o' = none) ∨ ∃ d w, o = some d ∧ o' = some w ∧ Rp K F d w) := by
  cases rx with
  | dk a b =>
    rename_i p ps l
    simp only [dkLook] at h
    obtain ⟨k, hk, e⟩ := Option.map_eq_some_iff.mp h
    refine ⟨p, valV ps k, rfl, .inl ⟨ps, k, s.dz _ _ a, keyOf_rp r hk, rfl⟩, ?_⟩
    rcases kvr_find (k := k) (kvr_zip b) with ⟨e1, e2⟩ | ⟨d1, v1, e1, e2, r3⟩
    · exact .inl ⟨by rw [← e, e1], e2⟩
    · exact .inr ⟨d1, v1, by rw [← e, e1], e2, r3⟩
  | dt a b =>
    rename_i p ps l
    cases y with
    | tup m =>
      simp only [dkLook] at h
      obtain ⟨k, hk, e⟩ := Option.map_eq_some_iff.mp h
      cases r with
      | tup ha rl =>
        have hx := keysOf_rp rl hk
        subst hx
        refine ⟨p, valV ps k, rfl, .inr ⟨ps, k, _, s.dz _ _ a, rfl, s.fz _ _ ha, rfl⟩, ?_⟩
        rcases kvr_find (k := k) (kvr_zip b) with ⟨e1, e2⟩ | ⟨d1, v1, e1, e2, r3⟩
        · exact .inl ⟨by rw [← e, e1], e2⟩
        · exact .inr ⟨d1, v1, by rw [← e, e1], e2, r3⟩
    | _ => simp [dkLook] at h
  | _ => simp [dkLook] at h
/-- what M says behind a store -/
def dStore (M : Mp) (p : Addr) (y d : D) : Option Mp := match M p with
  | some (.dK kvs) => (keyOf y).bind fun k => if kvs.length < sizeLine then some (mset M p (.dK (dput kvs k d))) else none
  | some (.dT kvs) => match y with
    | .tup l => (keysOf l).bind fun k => if kvs.length < sizeLine then some (mset M p (.dT (dput kvs k d))) else none
    | _ => none
  | some (.lst l) => match y with
    | .int i => (ixN l.length i).bind fun j => some (mset M p (.lst (l.set j d)))
    | _ => none
  | _ => none
theorem putK_len {κ : Type} [DecidableEq κ] (m : List (κ × V)) (k : κ) (v : V) (h : m.length < sizeLine) : (putK m k v).length ≤ sizeLine := by
  rw [putK_eq]
  split
  · rw [List.length_map]; omega
  · rw [List.length_append]; simp; omega
theorem putK_keys {m : List (List Key × V)} {k : List Key} {v : V} (h : ∀ p ∈ m, p.1.length ≤ sizeLine) (hk : k.length ≤ sizeLine) : ∀ p ∈ putK m k v, p.1.length ≤ sizeLine := by
  rw [putK_eq]
  split
  · intro p hp
    obtain ⟨q, h1, h2⟩ := List.mem_map.mp hp
    subst h2
    have := h q h1
    split <;> exact this
  · intro p hp
    rcases List.mem_append.mp hp with h1 | h1
    · exact h p h1
    · rw [List.mem_singleton] at h1
      subst h1
      exact hk
theorem dStore_put (s : SR K F M H) {p : Addr} {y d : D} {v w : V} {M' : Mp} (r : Rp K F y v) (rd : Rp K F d w) (h : dStore M p y d = some M') :
    (∃ H', DPut H p v w H' ∧ SR K F M' H') ∨ ∃ xs k j, v = .int k ∧ H p = some (.lst xs) ∧ ixN xs.length k = some j ∧ SR K F M' (upd H p (.lst (xs.set j w))) := by
  unfold dStore at h
  split at h
  · rename_i kvs hm
    obtain ⟨k, hk, e⟩ := Option.bind_eq_some_iff.mp h
    split at e
    · rename_i hl
      cases e
      obtain ⟨u, h1, h2⟩ := s.mu p _ hm
      cases h2 with
      | dK r2 z =>
        rename_i ps
        have hl2 : ps.length < sizeLine := kvr_len r2 ▸ hl
        exact .inl ⟨_, (keyOf_rp r hk) ▸ DPut.k (k := k) h1 hl2, s.putM hm (.dK (kvr_put rd r2) (putK_len _ _ _ hl2))⟩
    · cases e
  · rename_i kvs hm
    split at h
    · rename_i l
      obtain ⟨k, hk, e⟩ := Option.bind_eq_some_iff.mp h
      split at e
      · rename_i hl
        cases e
        obtain ⟨u, h1, h2⟩ := s.mu p _ hm
        cases r with
        | tup ha rl =>
          have hx := keysOf_rp rl hk
          subst hx
          cases h2 with
          | dT r2 z zz =>
            rename_i ps
            have hl2 : ps.length < sizeLine := kvr_len r2 ▸ hl
            exact .inl ⟨_, DPut.t (k := k) h1 (s.fz _ _ ha) hl2, s.putM hm (.dT (kvr_put rd r2) (putK_len _ _ _ hl2) (putK_keys zz (by have := s.lenT ha; rw [List.length_map] at this; exact this)))⟩
      · cases e
    · cases h
  · rename_i l hm
    split at h
    · rename_i i
      obtain ⟨j, hj, e⟩ := Option.bind_eq_some_iff.mp h
      cases e
      obtain ⟨u, h1, h2⟩ := s.mu p _ hm
      cases h2 with
      | lst r2 z =>
        cases r
        refine .inr ⟨_, i, j, rfl, h1, r2.length ▸ hj, s.putM hm (.lst (r2.set rd j) (by rw [List.length_set]; exact z))⟩
    · cases h
  · cases h
end

/-! ### x[y] -/
/-- an item by place -/
def dAt (x y : D) : Option D := match x, y with
  | .tup l, .int i => atI l i
  | .lst l, .int i => atI l i
  | .kt l, .int i => atI l i
  | .str z, .int i => if z.length ≤ sizeLine then (atI z.cps.toList i).map fun c => .str ⟨#[c]⟩ else none
  | _, _ => none
def dIxV (M : Mp) (x y : D) : Option D := match x with
  | .ref p => (match M p with
    | some (.lst l) => (match y with
      | .int i => atI l i
      | _ => none)
    | _ => (dLook M p y).bind id)
  | .dk ks l => (dkLook (.dk ks l) y).bind id
  | .dt ks l => (dkLook (.dt ks l) y).bind id
  | x => dAt x y
def dIx : DR2 := fun x y M Q => ∃ d, dIxV M x y = some d ∧ Q d M
section
variable {X : Cx} {K : PySem.W.Frag} {F0 : FZ} {a b e o i value : Expr} {ta tb te : TE} {ta' tb' te' : DTE} {pos : Pos}
theorem atI_rp {F : FZ} {ds : List D} {xs : List V} {i : Int} {d : D} (r : RpL K F ds xs) (h : atI ds i = some d) : ∃ v, atI xs i = some v ∧ Rp K F d v := by
  unfold atI at h ⊢
  rw [← r.length]
  obtain ⟨j, h1, h2⟩ := Option.bind_eq_some_iff.mp h
  obtain ⟨v, e, rv⟩ := r.get h2
  exact ⟨v, by rw [h1]; exact e, rv⟩
def rIxAny (K : PySem.W.Frag) : R2 := fun x y H Q => rIx K x y H Q ∨ ∃ a v, x = .ref a ∧ DGet H a y (some v) ∧ Q v H
theorem ix_dict (hu : X.A.units + 1 < cLine) : IxR X (fun x y H Q => ∃ a v, x = .ref a ∧ DGet H a y (some v) ∧ Q v H) := by
  intro value slice pins s σ H x y v u Q I rx ry h hs
  obtain ⟨a, w, rfl, g, q⟩ := h
  obtain rfl : v = Value.ref a := rx
  have hT := dict_typeIs I g
  have h2 : wpAny (model X.prog X.w) X.A (getItem (.ref a) u) (EP X pins σ Q) X.xe s := d_getItem hu I g ry fun w' s3 I3 rw' => ⟨w, H, I3, rw', q⟩
  unfold subscriptTail
  refine wpAny_bind ?_
  rw [getitemInPython_of_ne hT.not_modules]
  refine wpAny_bind (wpAny_specialOf hT PySem.F.slot_dict_getitem.lookup ?_)
  have fin : wpAny (model X.prog X.w) X.A (subscripted slice false (.ref a) u) (fun r s₃ => wpAny (model X.prog X.w) X.A (letTemporaryGo value (.ref a) r >>= fun _ => pure r) (EP X pins σ Q) X.xe s₃) X.xe s := by
    rw [hs]
    exact wpAny_operating (wpAny_mono h2 (fun r s₃ h₃ => wpAny_bind (wpAny_letTemporaryGo (wpAny_pure h₃))) fun _ _ x => x)
  first
    | exact wpAny_pure (wpAny_bind fin)
    | exact wpAny_bind (wpAny_pure (wpAny_bind fin))
    | exact wpAny_bind fin
theorem ix_any (hu : X.A.units + 1 < cLine) : IxR X (rIxAny X.K) := ix_seq.or (ix_dict hu)
theorem dAt_rp {F : FZ} {M : Mp} {H : Hp} {d e r : D} {x y : V} {Q : VK} (s : SR K F M H) (r1 : Rp K F d x) (r2 : Rp K F e y) (hd : dAt d e = some r) (k : ∀ v, Rp K F r v → Q v H) : rIx K x y H Q := by
  cases r1 with
  | tup a b =>
    cases r2 with
    | int i =>
      obtain ⟨v, h1, h2⟩ := atI_rp b (show atI _ i = some r from hd)
      exact .inr (.inl ⟨_, _, _, v, rfl, rfl, s.sqT a, h1, k v h2⟩)
    | _ => exact nomatch hd
  | kt a b =>
    cases r2 with
    | int i =>
      obtain ⟨v, h1, h2⟩ := atI_rp b (show atI _ i = some r from hd)
      exact .inr (.inl ⟨_, _, _, v, rfl, rfl, (s.sqK a), h1, k v h2⟩)
    | _ => exact nomatch hd
  | lst a b =>
    cases r2 with
    | int i =>
      obtain ⟨v, h1, h2⟩ := atI_rp b (show atI _ i = some r from hd)
      exact .inl ⟨_, _, _, v, rfl, rfl, (SqL.of (s.fz _ _ a)), h1, k v h2⟩
    | _ => exact nomatch hd
  | str z =>
    cases r2 with
    | int i =>
      have hd' : (if z.length ≤ sizeLine then (atI z.cps.toList i).map fun c => D.str ⟨#[c]⟩ else none) = some r := hd
      split at hd'
      · rename_i hz
        obtain ⟨c, h1, h2⟩ := Option.map_eq_some_iff.mp hd'
        subst h2
        exact .inr (.inr ⟨z, i, c, rfl, rfl, hz, h1, k _ (.str _)⟩)
      · cases hd'
    | _ => exact nomatch hd
  | _ => exact nomatch hd
theorem l2_ix : L2r K F0 dIx (rIxAny K) := by
  intro F M H d e x y Q' Q e0 s r1 r2 q k
  obtain ⟨r, hr, q⟩ := q
  have kk : ∀ v, Rp K F r v → Q v H := fun v rv => k F r v M H (FLe.refl F) s rv q
  unfold dIxV at hr
  split at hr
  · rename_i p
    cases r1
    split at hr
    · rename_i l hm
      split at hr
      · rename_i i
        cases r2
        obtain ⟨u, h1, h2⟩ := s.mu p _ hm
        cases h2 with
        | lst rl z =>
          obtain ⟨v, h3, h4⟩ := atI_rp rl hr
          exact .inl (.inl ⟨p, _, i, v, rfl, rfl, SqL.of h1, h3, kk v h4⟩)
      · cases hr
    · obtain ⟨o, h1, h2⟩ := Option.bind_eq_some_iff.mp hr
      have h2 : o = some r := h2
      subst h2
      obtain ⟨o', g, c⟩ := dLook_get s r2 h1
      rcases c with ⟨z, _⟩ | ⟨d1, w, z1, z2, rr⟩
      · cases z
      · cases z1
        subst z2
        exact .inr ⟨p, w, rfl, g, kk w rr⟩
  · obtain ⟨o, h1, h2⟩ := Option.bind_eq_some_iff.mp hr
    have h2 : o = some r := h2
    subst h2
    obtain ⟨p, o', rfl, g, c⟩ := dkLook_get s r1 r2 h1
    rcases c with ⟨z, _⟩ | ⟨d1, w, z1, z2, rr⟩
    · cases z
    · cases z1
      subst z2
      exact .inr ⟨p, w, rfl, g, kk w rr⟩
  · obtain ⟨o, h1, h2⟩ := Option.bind_eq_some_iff.mp hr
    have h2 : o = some r := h2
    subst h2
    obtain ⟨p, o', rfl, g, c⟩ := dkLook_get s r1 r2 h1
    rcases c with ⟨z, _⟩ | ⟨d1, w, z1, z2, rr⟩
    · cases z
    · cases z1
      subst z2
      exact .inr ⟨p, w, rfl, g, kk w rr⟩
  · exact .inl (dAt_rp s r1 r2 hr kk)
theorem de_ix {n : Nat} (hr : Room n X.A) (ha : DE X F0 a ta ta') (hb : DE X F0 b tb tb') (hs : PlainIx b := by exact fun _ _ => rfl) : DE X F0 (.Subscript a b pos) (tOp (rIxAny X.K) ta tb) (dOp dIx ta' tb') :=
  ⟨pe_ix (ix_any (hu_of hr)) ha.pe hb.pe hs, le_op l2_ix ha.le hb.le⟩

/-! ### x[y] = v -/
def dSet : DTSet := fun o i v M Q => match o with
  | .ref p => ∃ M', dStore M p i v = some M' ∧ Q M'
  | _ => False
def rSetAny : TSet := fun o i v H Q => rSetL o i v H Q ∨ ∃ a H', o = .ref a ∧ DPut H a i v H' ∧ Q H'
theorem set_any (hu : X.A.units + 1 < cLine) : PSet X rSetAny := by
  intro pins s σ H o i v ov iv u Q I ro ri rv h
  rcases h with h | ⟨a, H', rfl, g, q⟩
  · exact set_list pins s σ H o i v ov iv u Q I ro ri rv h
  · cases ro
    exact d_setItem hu I g ri rv fun s4 I4 => ⟨H', I4, q⟩
theorem l3_set : L3s K F0 dSet rSetAny := by
  intro F M H o i d x y v Q' Q e0 s ro ri rd q k
  unfold dSet at q
  split at q
  · rename_i p
    cases ro
    obtain ⟨M', h1, q⟩ := q
    rcases dStore_put s ri rd h1 with ⟨H', g, s'⟩ | ⟨xs, kk, j, rfl, h2, h3, s'⟩
    · exact .inr ⟨p, H', rfl, g, k F M' H' (FLe.refl F) s' q⟩
    · exact .inl ⟨p, xs, kk, j, rfl, rfl, h2, h3, k F M' _ (FLe.refl F) s' q⟩
  · exact q.elim
theorem dg_sub' {n : Nat} {to ti : TE} {to' ti' : DTE} (hr : Room n X.A) (ho : DE X F0 o to to') (hi : DE X F0 i ti ti')
    (ha : ∀ v, assign (.Subscript o i pos) X.env v = (do
      let ov ← holding [v] (eval o X.env)
      let iv ← holding [v, ov] (eval i X.env)
      standAt pos; holding [v, ov, iv] (setItem ov iv v); release [v, ov, iv] []) := by intro _; rfl) : DG X F0 (.Subscript o i pos) (gSub to ti rSetAny) (hSub to' ti' dSet) := dg_sub ho hi (set_any (hu_of hr)) l3_set ha
end
end DL

set_option maxRecDepth 100000
set_option maxHeartbeats 2000000
namespace DL
open PySem PySem.Spec PyProof.Rows L2

/-! ### defs -/
/-- an exception: its class, its fields (where it has its own dict) -/
abbrev DXK := Value → Option (List (Str × D)) → Mp → Prop
abbrev DSp := List D → Mp → DK → DXK → Prop
def DXK.no : DXK := fun _ _ _ => False
def XR (K : PySem.W.Frag) (F : FZ) (fs : Option (List (Str × D))) (d : Option Addr) (H : Hp) : Prop := match fs, d with
  | none, none => True
  | some l, some a => ∃ gs, H a = some (.xd gs) ∧ KVR K F l gs
  | _, _ => False
def lX (K : PySem.W.Frag) (F : FZ) (E : DXK) : XK := fun c d H => ∃ F1 M fs, FLe F F1 ∧ SR K F1 M H ∧ XR K F1 fs d H ∧ E c fs M
def liftSp (K : PySem.W.Frag) (sp : DSp) : Sp := fun vs H Q E => ∃ F ds M Q' E', SR K F M H ∧ RpL K F ds vs ∧ sp ds M Q' E' ∧
  (∀ F1 d v M1 H1, FLe F F1 → SR K F1 M1 H1 → Rp K F1 d v → Q' d M1 → Q v H1) ∧ ∀ c d H1, lX K F E' c d H1 → E c d H1
def dCall (sp : DSp) (E : DXK) (t : DTA) : DTE := fun γ M Q => t γ M fun ds M1 => sp ds M1 Q E
theorem pass0' {X : Cx} {E : XK} : Passes CX0 X E := fun _ _ _ _ _ _ _ h => h.elim
/-- a def as it is called -/
structure DCal (P : Program) (w : World) (K : PySem.W.Frag) (mg : Str → Option Value) (base : Heap) (CX : CXT) (k : Nat) (x : Str) (sp : DSp) : Prop where
  ex : ∃ f fd ps, FnOk P w K mg base CX k f fd ps (liftSp K sp) ∧ mg x = some (.ref f) ∧ PySem.W.keepIn K (.ref f) = true ∧ Binds K fd ps []
section
variable {P : Program} {w : World} {K : PySem.W.Frag} {mg : Str → Option Value} {base : Heap} {X : Cx} {F0 : FZ} {e : Expr} {es : List Expr} {t : TA} {t' : DTA} {p pos : Pos} {CX : CXT}
/-- what is raised, wherever -/
def lXa (K : PySem.W.Frag) (E : DXK) : XK := fun c d H => ∃ F, lX K F E c d H
structure GoesA (CX : CXT) (X : Cx) (E : DXK) : Prop where
  p : Passes CX X (lXa X.K E)
theorem goes0A {X : Cx} {E : DXK} : GoesA CX0 X E := ⟨pass0'⟩
theorem le_callA {sp : DSp} {E : DXK} (ha : LA K F0 t' t) : LE K F0 (dCall sp E t') (tCall (liftSp K sp) [] (lXa K E) t) := by
  intro F γ M σ H Q' Q e0 s g q k
  refine ha F γ M σ H _ _ e0 s g q fun F1 ds vs M1 H1 e1 s1 r1 q1 => ?_
  rw [List.append_nil]
  exact ⟨F1, ds, M1, Q', E, s1, r1, q1, fun F2 d v M2 H2 e2 s2 r2 q2 => k F2 d v M2 H2 (e1.trans e2) s2 r2 q2, fun c d H1 h => ⟨F1, h⟩⟩
theorem de_call {k j : Nat} {x : Str} {sp : DSp} {E : DXK} (c : DCal X.prog X.w X.K X.mg X.base CX k x sp) (hr : Room j X.A) (hx : GoesA CX X E) (ha : DA X F0 (e :: es) t t') (hk : k ≤ j := by decide) (hg : Gl X x := by rfl)
    (hdb : (x == ("__debug__" : Str)) = false := by decide) (he : starEach (e :: es) X.env = (false, eval e X.env) :: starEach es X.env := by rfl) (hpl : (backTo pos (starEach es X.env)).any (·.1) = false := by rfl) :
    DE X F0 (.Call (.Name x p) (e :: es) [] pos) (tCall (liftSp X.K sp) [] (lXa X.K E) t) (dCall sp E t') := by
  obtain ⟨f, fd, ps, G, hm, hkp, hb⟩ := c.ex
  exact ⟨pe_call G (hr.mono hk) hg hm hkp hb .nil hx.p ha.pa hdb he hpl, le_callA ha.le⟩
def fin (Q : DK) (d : D) (M1 : Mp) : Prop := ∃ M2, MLe M2 M1 ∧ Q d M2
def dstart (N : List Str) (ds : List D) : G := ds.map some ++ List.replicate (N.length - ds.length) none
theorem gr_start {F : FZ} {N : List Str} {ds : List D} {vs : List V} (r : RpL K F ds vs) : GR K F (dstart N ds) (L2.start N vs) := by
  have hl := r.length
  refine ⟨by simp [dstart, L2.start, hl], fun i d h => ?_⟩
  unfold dstart at h
  unfold L2.start
  by_cases hi : i < ds.length
  · rw [List.getElem?_append_left (by simpa using hi), List.getElem?_map] at h
    obtain ⟨d', h1, h2⟩ := Option.map_eq_some_iff.mp h
    cases h2
    obtain ⟨v, h3, h4⟩ := r.get h1
    exact ⟨v, by rw [List.getElem?_append_left (by simpa [← hl] using hi), List.getElem?_map, h3]; rfl, h4⟩
  · rw [List.getElem?_append_right (by simpa using hi)] at h
    rw [List.getElem?_replicate] at h
    split at h <;> cases h
/-- a def of the text as it stands behind the top -/
structure DFun (K : PySem.W.Frag) (mg : Str → Option Value) (x : Str) (st : Stmt) (ps : List Str) : Prop where
  ex : ∃ f fd, Fun K x x st f fd ∧ mg x = some (.ref f) ∧ Binds K fd ps []
theorem dok {x : Str} {st : Stmt} {N ps : List Str} {k : Nat} {sp : DSp} (F : DFun K mg x st ps) (S : FnScope N ps (defScope st)) (len : ∀ ds M Q E, sp ds M Q E → ds.length = ps.length)
    (hbody : ∀ (f : Addr) (cdv : Value) (A : Around) (outer : List Env) (s : Shared) (H : Hp) (E : XK) (F0 : FZ), Room k (A.deeper (envOfC x (defScope st) s.heap.objs.size f cdv)) →
      ∃ t t', DB (cxOf CX0 P w K mg base N x (defScope st) f cdv A outer s H E).nox F0 (defBody st) t t' ∧ ∀ ds M Q' E', sp ds M Q' E' → t' { nx := fun _ M1 => fin Q' .non M1, rt := fin Q' } (dstart N ds) M) : DCal P w K mg base CX0 (k + 1) x sp := by
  obtain ⟨f, fd, G, hm, hb⟩ := F.ex
  refine ⟨f, fd, ps, ?_, hm, G.kp, hb⟩
  refine G.ok S (fun vs H Q E h => ?_) (fun cdv A outer s H vs Q E hr h => ?_)
  · obtain ⟨F, ds, M, Q', E', _, r, q, _⟩ := h
    rw [← r.length]; exact len _ _ _ _ q
  · obtain ⟨F, ds, M, Q', E', s1, r, q, kq, _⟩ := h
    obtain ⟨t, t', d, h⟩ := hbody f cdv A outer s H E F hr
    refine ⟨t, d.ps, d.le F (dstart N ds) M (L2.start N vs) H { nx := fun _ M1 => fin Q' .non M1, rt := fin Q' } { nx := fun _ H' => Q .non H', rt := Q } (Bs.refl _) s1 (gr_start r) (h ds M Q' E' q) ⟨?_, ?_, fun _ _ _ _ _ _ _ _ z => z.elim, fun _ _ _ _ _ _ _ _ z => z.elim⟩⟩
    · rintro F1 γ1 M1 σ1 H1 e1 s1 g1 ⟨M2, l, q⟩
      exact kq F1 .non .non M2 H1 e1 (s1.less l) .non q
    · rintro F1 d1 v1 M1 H1 e1 s1 r1 ⟨M2, l, q⟩
      exact kq F1 d1 v1 M2 H1 e1 (s1.less l) r1 q
end

/-! ### list comprehensions -/
def dwipe (γ : G) : List Nat → G
  | [] => γ
  | v :: vs => (dwipe γ vs).set v none
/-- a target whose names are among those -/
def GW (vs : List Nat) (g : TG) : Prop := ∀ x σ H (Q : L2.St → Hp → Prop), g x σ H Q → g x σ H fun σ2 H2 => wipe σ2 vs = wipe σ vs ∧ Q σ2 H2
def GWs (vs : List Nat) (g : TGs) : Prop := ∀ xs σ H (Q : L2.St → Hp → Prop), g xs σ H Q → g xs σ H fun σ2 H2 => wipe σ2 vs = wipe σ vs ∧ Q σ2 H2
theorem wipe_set {i : Nat} {v : Option V} : ∀ {vs : List Nat} {σ : L2.St}, i ∈ vs → wipe (σ.set i v) vs = wipe σ vs
  | w :: vs, σ, h => by
    show (wipe (σ.set i v) vs).set w none = (wipe σ vs).set w none
    by_cases hi : i ∈ vs
    · rw [wipe_set hi]
    · have e : i = w := by
        rcases List.mem_cons.mp h with e | h
        · exact e
        · exact absurd h hi
      subst e
      have out : ∀ {us : List Nat} {σ : L2.St}, ¬ i ∈ us → wipe (σ.set i v) us = (wipe σ us).set i v := by
        intro us
        induction us with
        | nil => intro σ _; rfl
        | cons u us ih =>
          intro σ hu
          show (wipe (σ.set i v) us).set u none = ((wipe σ us).set u none).set i v
          rw [ih (fun z => hu (List.mem_cons_of_mem _ z)), List.set_comm _ _ (fun z => hu (by rw [z]; exact List.mem_cons_self))]
      rw [out hi, List.set_set]
theorem gw_name {vs : List Nat} {i : Nat} (h : i ∈ vs) : GW vs (gName i) := fun x σ H Q q => ⟨wipe_set h, q⟩
theorem gws_nil {vs : List Nat} : GWs vs gNil := fun xs σ H Q q => ⟨q.1, rfl, q.2⟩
theorem gws_cons {vs : List Nat} {t : TG} {u : TGs} (mt : ∀ x σ H (Q Q' : L2.St → Hp → Prop), (∀ σ H, Q σ H → Q' σ H) → t x σ H Q → t x σ H Q') (mu : ∀ x σ H (Q Q' : L2.St → Hp → Prop), (∀ σ H, Q σ H → Q' σ H) → u x σ H Q → u x σ H Q') (h1 : GW vs t) (h2 : GWs vs u) : GWs vs (gCons t u) := fun xs σ H Q q => by
  obtain ⟨v, r, e, q⟩ := q
  refine ⟨v, r, e, mt _ _ _ _ _ (fun σ2 H2 q2 => ?_) (h1 _ _ _ _ q)⟩
  exact mu _ _ _ _ _ (fun σ3 H3 q3 => ⟨q3.1.trans q2.1, q3.2⟩) (h2 _ _ _ _ q2.2)
theorem gm_name {i : Nat} : ∀ x σ H (Q Q' : L2.St → Hp → Prop), (∀ σ H, Q σ H → Q' σ H) → gName i x σ H Q → gName i x σ H Q' := fun x σ H Q Q' f q => f _ _ q
theorem gm_nil : ∀ x σ H (Q Q' : L2.St → Hp → Prop), (∀ σ H, Q σ H → Q' σ H) → gNil x σ H Q → gNil x σ H Q' := fun x σ H Q Q' f q => ⟨q.1, f _ _ q.2⟩
theorem gm_cons {t : TG} {u : TGs} (mt : ∀ x σ H (Q Q' : L2.St → Hp → Prop), (∀ σ H, Q σ H → Q' σ H) → t x σ H Q → t x σ H Q') (mu : ∀ x σ H (Q Q' : L2.St → Hp → Prop), (∀ σ H, Q σ H → Q' σ H) → u x σ H Q → u x σ H Q') :
    ∀ x σ H (Q Q' : L2.St → Hp → Prop), (∀ σ H, Q σ H → Q' σ H) → gCons t u x σ H Q → gCons t u x σ H Q' := fun x σ H Q Q' f ⟨v, r, e, q⟩ => ⟨v, r, e, mt _ _ _ _ _ (fun σ2 H2 q2 => mu _ _ _ _ _ f q2) q⟩
theorem gw_tup {K : PySem.W.Frag} {vs : List Nat} {n : Nat} {u : TGs} (h : GWs vs u) : GW vs (gTup K n u) := fun x σ H Q ⟨a, xs, e, ha, hl, q⟩ => ⟨a, xs, e, ha, hl, h _ _ _ _ q⟩
theorem gr_wipe {K : PySem.W.Frag} {F : FZ} {γ : G} {σ : L2.St} (h : GR K F γ σ) : ∀ vs : List Nat, GR K F (dwipe γ vs) (wipe σ vs)
  | [] => h
  | v :: vs => by
    have ih := gr_wipe h vs
    refine ⟨by simp [dwipe, wipe, ih.len], fun i d q => ?_⟩
    have q' : ((dwipe γ vs).set v none)[i]? = some (some d) := q
    show ∃ w, ((wipe σ vs).set v none)[i]? = some (some w) ∧ Rp K F d w
    by_cases hj : v = i
    · subst hj
      by_cases hl : v < (dwipe γ vs).length
      · rw [List.getElem?_set_self hl] at q'; cases q'
      · rw [List.getElem?_eq_none (by simpa using hl)] at q'; cases q'
    · rw [List.getElem?_set_ne hj] at q' ⊢
      exact ih.at' i d q'
structure DTs (X : Cx) (F0 : FZ) (ifs : List Expr) (t : TT) (t' : DTT) : Prop where
  pt : PTs X ifs t
  le : LT X.K F0 t' t
def dYes : DTT := fun _ M Q => Q true M
section
variable {X : Cx} {K : PySem.W.Frag} {F0 : FZ}
theorem dts_nil : DTs X F0 [] tYes dYes := ⟨pts_nil, fun F γ M σ H Q' Q e0 s g q k => k F true M H (FLe.refl F) s q⟩
theorem dts_one {c : Expr} {t : TT} {t' : DTT} (h : DT X F0 c t t') : DTs X F0 [c] t t' := ⟨pts_one h.pt, h.le⟩
def dLcI (g : DTG) (tt : DTT) (te : DTE) (vs : List Nat) (γ : G) (items : List D) (M1 : Mp) (Q : DK) : Prop := ∃ I : Nat → List D → Mp → Prop, I 0 [] M1 ∧
  (∀ i d acc M, items[i]? = some d → I i acc M → g d (dwipe γ vs) M fun γ2 M2 => tt γ2 M2 fun b M3 => if b = true then te γ2 M3 fun y M4 => I (i + 1) (acc ++ [y]) M4 else I (i + 1) acc M3) ∧
  ∀ acc M, I items.length acc M → Q (.lst acc) M
def dLc (wi : DTI) (g : DTG) (tt : DTT) (te : DTE) (vs : List Nat) : DTE := fun γ M Q => wi γ M fun items M1 => items.length ≤ sizeLine ∧ dLcI g tt te vs γ items M1 Q
theorem wipe_wipe (σ : L2.St) (vs : List Nat) : wipe (wipe σ vs) vs = wipe σ vs := by
  have key : ∀ us : List Nat, (∀ i ∈ us, i ∈ vs) → wipe (wipe σ us) vs = wipe σ vs := by
    intro us
    induction us with
    | nil => intro _; rfl
    | cons u us ih =>
      intro h
      show wipe ((wipe σ us).set u none) vs = wipe σ vs
      rw [wipe_set (h u List.mem_cons_self), ih fun i hi => h i (List.mem_cons_of_mem _ hi)]
  exact key vs fun _ h => h
def LcW (K : PySem.W.Frag) (F1 : FZ) (L : Addr) (I : Nat → List D → Mp → Prop) (i : Nat) (H : Hp) : Prop := ∃ F2 M2 acc xs, FLe F1 F2 ∧ SR K F2 M2 H ∧ F2.f L = none ∧ M2 L = none ∧ H L = some (.lst xs) ∧ RpL K F2 acc xs ∧ acc.length ≤ i ∧ I i acc M2
theorem le_lc {wi : TI} {wi' : DTI} {g : TG} {g' : DTG} {tt : TT} {tt' : DTT} {te : TE} {te' : DTE} {vs : List Nat} (hi : LI K F0 wi' wi) (hg : LG K F0 g' g) (hw : GW vs g) (ht : LT K F0 tt' tt) (he : LE K F0 te' te) :
    LE K F0 (dLc wi' g' tt' te' vs) (tLc wi g tt te vs) := by
  intro F γ M σ H Q' Q e0 s gr q k
  refine hi F γ M σ H _ _ e0 s gr q fun F1 items J M1 H1 e1 s1 j1 q1 => ?_
  obtain ⟨hlen, I, h0, step, done⟩ := q1
  intro D hD
  have hDF := s1.freeF hD
  have hDM := s1.freeM hD
  have hDP := s1.freeP hD
  refine ⟨fun i m H => m = items.length - i ∧ i ≤ items.length ∧ LcW K F1 D I i H, ⟨items.length, by simp, Nat.zero_le _, ?_⟩, ?_⟩
  · refine ⟨F1, M1, [], [], FLe.refl _, s1.other hD, hDF, hDM, upd_same, .nil, Nat.le_refl _, h0⟩
  · rintro i m H2 ⟨rfl, hi2, F2, M2, acc, xs, e2, s2, dF, dM, hl, rl, al, i2⟩
    have dP : F2.p D = none := by rw [e2.e]; exact hDP
    by_cases hlt : i < items.length
    · have hd : items[i]? = some items[i] := List.getElem?_eq_getElem hlt
      have sh := s2.hide dF dM hl (fun _ z => by cases z) (s2.noL hl)
      obtain ⟨go, y⟩ := (j1 i (F2.hide D (.lst xs)) M2 H2 (bj_hide e2 hDP) sh).2 _ hd
      refine .inr ⟨go, LcW K F1 D I (i + 1), fun H' h => ⟨items.length - (i + 1), by omega, rfl, hlt, h⟩, fun x H3 yy => ?_⟩
      obtain ⟨F3, e3, s3, r3⟩ := y x H3 yy
      have b3 : Sm F2 F3 := e3.s
      have a3 : Bs F0 F3 := ⟨((e0.tr e1).tr e2).f.trans' b3, ((e0.tr e1).tr e2).p.trans (fun b o h => by rw [e3.e]; exact (upd_ne (ne_of_none h dP)).trans h)⟩
      have back : ∀ {F5 : FZ} {M5 : Mp} {H5 : Hp} (o : HO), FLe F3 F5 → SR K F5 M5 H5 → SR K ⟨F5.f, F2.p, F5.d⟩ M5 (upd H5 D o) ∧ H5 D = some (.lst xs) ∧ F5.f D = none ∧ M5 D = none := fun o e5 s5 =>
        s5.unhide (o := .lst xs) (by rw [e5.e, e3.e]; rfl) dP
      have step' := step i _ acc M2 hd i2
      have r0 : RpL K F3 acc xs := rl.monoS b3
      have lt1 : xs.length < sizeLine := by rw [← r0.length]; omega
      have main := hw x (wipe σ vs) H3 _ (hg F3 (dwipe γ vs) M2 (wipe σ vs) H3 _ x _ (fun σ2 H2 => tt σ2 H2 fun b H3 => if b = true then te σ2 H3 fun y H4 => ∃ acc, H4 D = some (.lst acc) ∧ acc.length < sizeLine ∧ LcW K F1 D I (i + 1) (upd H4 D (.lst (acc ++ [y]))) else LcW K F1 D I (i + 1) H3)
        a3 s3 (gr_wipe (gr.monoS ((e1.s.trans' e2.s).trans' b3)) vs) r3 step' fun F4 γ4 M4 σ4 H4 e4 s4 g4 q4 =>
        ht F4 γ4 M4 σ4 H4 _ _ (a3.tr e4) s4 g4 q4 fun F5 b M5 H5 e5 s5 q5 => by
          cases b with
          | false =>
            obtain ⟨z1, z2, z3, z4⟩ := back (.lst xs) (e4.trans e5) s5
            have eq : upd H5 D (.lst xs) = H5 := by
              funext b
              by_cases hb : b = D
              · subst hb; rw [upd_same, z2]
              · rw [upd_ne hb]
            rw [eq] at z1
            exact ⟨⟨F5.f, F2.p, F5.d⟩, M5, acc, xs, ⟨(e2.s.trans' b3).trans' (e4.trans e5).s, e2.e⟩, z1, z3, z4, z2, RpL.monoS (F := F3) (F' := ⟨F5.f, F2.p, F5.d⟩) (e4.trans e5).s r0, Nat.le_succ_of_le al, q5⟩
          | true =>
            refine he F5 γ4 M5 σ4 H5 _ _ ((a3.tr e4).tr e5) s5 (g4.mono e5) q5 fun F6 d v M6 H6 e6 s6 r6 q6 => ?_
            obtain ⟨z1, z2, z3, z4⟩ := back (.lst (xs ++ [v])) ((e4.trans e5).trans e6) s6
            refine ⟨xs, z2, lt1, ⟨F6.f, F2.p, F6.d⟩, M6, acc ++ [d], xs ++ [v], ⟨(e2.s.trans' b3).trans' ((e4.trans e5).trans e6).s, e2.e⟩, z1, z3, z4, upd_same, RpL.append (RpL.monoS (F := F3) (F' := ⟨F6.f, F2.p, F6.d⟩) ((e4.trans e5).trans e6).s r0) (.cons (Rp.monoS (F := F6) (F' := ⟨F6.f, F2.p, F6.d⟩) Sm.rfl' r6) .nil), ?_, q6⟩
            rw [List.length_append]
            simp
            omega)
      rw [wipe_wipe] at main
      exact main
    · have e : i = items.length := by omega
      subst e
      refine .inl ⟨((j1 items.length F2 M2 H2 e2.bj s2).1 (Nat.le_refl _)), ?_⟩
      have hz : xs.length ≤ sizeLine := by rw [← rl.length]; omega
      have e3 := same_upd (o := .lst xs) dF
      exact k (F2.put D (.lst xs)) (.lst acc) (.ref D) M2 H2 ((e1.trans e2).trans e3) (s2.adopt dF dP dM hl hz) (.lst upd_same (rl.mono e3)) (done acc M2 i2)
end
end DL

set_option maxRecDepth 100000
set_option maxHeartbeats 2000000
namespace DL
open PySem PySem.Spec PyProof.Rows L2

section
variable {X : Cx} {K : PySem.W.Frag} {F0 : FZ} {tg e e2 : Expr} {te : TE} {te' : DTE} {pos p : Pos}
theorem jr_of {F : FZ} {items : List D} {J : It} {G : Hp → Prop} {Y : Nat → Hp → V → Hp → Prop} (w : Walk J items.length G Y) (hg : ∀ F1 M1 H1, Bj F F1 → SR K F1 M1 H1 → G H1)
    (hst : ∀ i H, items.length ≤ i → G H → J.stop i H)
    (hy : ∀ i d F1 M1 H1 x H2, Bj F F1 → SR K F1 M1 H1 → items[i]? = some d → Y i H1 x H2 → ∃ F2, FLe F1 F2 ∧ SR K F2 M1 H2 ∧ Rp K F2 d x) : JR K F items J := fun i F1 M1 H1 e s =>
  ⟨fun h => hst i H1 h (hg F1 M1 H1 e s), fun d hd =>
    have hlt : i < items.length := (List.getElem?_eq_some_iff.mp hd).1
    ⟨w.goes i H1 hlt (hg F1 M1 H1 e s), fun x H2 y => hy i d F1 M1 H1 x H2 e s hd (w.yields i H1 x H2 hlt (hg F1 M1 H1 e s) y)⟩⟩
theorem jr_list {F : FZ} {a : Addr} {xs : List V} {ds : List D} (h : SqL K F.f a xs) (r : RpL K F ds xs) : JR K F ds (Itl K a) := by
  have hl := r.length
  refine jr_of (G := fun H => SqL K H a xs) (Y := YAt xs) (by rw [hl]; exact walk_list) (fun F1 M1 H1 e s => s.fz.seq (e.f.1.seq h)) (fun i H hi q => ⟨xs, q, by omega⟩) fun i d F1 M1 H1 x H2 e s hd y => ?_
  obtain ⟨e2, hx⟩ := y
  subst e2
  obtain ⟨v, h1, h2⟩ := r.get hd
  rw [hx] at h1; cases h1
  exact ⟨F1, FLe.refl _, s, Rp.monoS e.f h2⟩
theorem jr_tup {F : FZ} {a : Addr} {xs : List V} {ds : List D} (h : ∀ H, Same F.f H → SqT K H a xs) (r : RpL K F ds xs) : JR K F ds (Itt K a) := by
  have hl := r.length
  refine jr_of (G := fun H => SqT K H a xs) (Y := YAt xs) (by rw [hl]; exact walk_tup) (fun F1 M1 H1 e s => h _ (e.f.1.trans s.fz)) (fun i H hi q => ⟨xs, q, by omega⟩) fun i d F1 M1 H1 x H2 e s hd y => ?_
  obtain ⟨e2, hx⟩ := y
  subst e2
  obtain ⟨v, h1, h2⟩ := r.get hd
  rw [hx] at h1; cases h1
  exact ⟨F1, FLe.refl _, s, Rp.monoS e.f h2⟩
/-- a frozen list, a tuple, a text -/
def iSeq (K : PySem.W.Frag) (tl : TE) : TI := fun σ H R => tl σ H fun x H1 => (∃ a, x = .ref a ∧ (∃ xs, SqL K H1 a xs) ∧ R (Itl K a) H1) ∨ (∃ a, x = .ref a ∧ (∃ xs, SqT K H1 a xs) ∧ R (Itt K a) H1)
theorem pi_seq {l : Expr} {tl : TE} (hl : PE X l tl) : PI X tg l (iSeq X.K tl) := by
  refine ⟨fun pins s σ H R I h => ?_⟩
  refine thn (hl.run pins s σ H _ I h) fun v s1 ⟨x, H1, I1, r1, q1⟩ => ?_
  rcases q1 with ⟨a, e, ⟨xs, hq⟩, q⟩ | ⟨a, e, ⟨xs, hq⟩, q⟩
  · subst e
    cases r1
    obtain ⟨its, rv, p, hz⟩ := I1.list hq
    refine wpAny_pyIter_list p.isList ?_
    refine ⟨s1.heap.objs.size, [s1.heap.objs.size], _, _, H1, rfl, I1.kept (t' := s1.toks) fun b o e => Heap.get?_push_of_some _ e, turn_list a _, ⟨_, Heap.get?_push_size _ rfl, rfl, rfl⟩, fun b hb => ?_, q⟩
    have e : b = s1.heap.objs.size := by simpa using hb
    subst e
    exact I1.fpOk (Nat.le_refl _) (I1.hok.fresh (Nat.le_refl _))
  · subst e
    cases r1
    obtain ⟨its, rv, p, hz⟩ := I1.tuple hq
    refine wpAny_pyIter_tuple (show s1.heap.IsTuple a its.toArray from p) ?_
    refine ⟨s1.heap.objs.size, [s1.heap.objs.size], _, _, H1, rfl, I1.kept (t' := s1.toks) fun b o e => Heap.get?_push_of_some _ e, turn_tuple a _, ⟨_, Heap.get?_push_size _ rfl, rfl, rfl⟩, fun b hb => ?_, q⟩
    have e : b = s1.heap.objs.size := by simpa using hb
    subst e
    exact I1.fpOk (Nat.le_refl _) (I1.hok.fresh (Nat.le_refl _))
def jSeq (te : DTE) : DTI := fun γ M R => te γ M fun d M1 => match d with
  | .lst l => R l M1
  | .tup l => R l M1
  | .kt l => R l M1
  | _ => False
theorem di_seq (h : DE X F0 e te te') : DI X F0 tg e (iSeq X.K te) (jSeq te') := ⟨pi_seq h.pe, fun F γ M σ H R' R e0 s g q k => by
  refine h.le F γ M σ H _ _ e0 s g q fun F1 d v M1 H1 e1 s1 r1 q1 => ?_
  cases r1 with
  | lst a b => exact .inl ⟨_, rfl, ⟨_, (SqL.of (s1.fz _ _ a))⟩, k F1 _ _ M1 H1 e1 s1 (jr_list (SqL.of a) b) q1⟩
  | tup a b => exact .inr ⟨_, rfl, ⟨_, s1.sqT a⟩, k F1 _ _ M1 H1 e1 s1 (jr_tup (fun H e => .inl (.inl (e _ _ a))) b) q1⟩
  | kt a b => exact .inr ⟨_, rfl, ⟨_, s1.sqK a⟩, k F1 _ _ M1 H1 e1 s1 (jr_tup (fun H e => a.sq e) b) q1⟩
  | _ => exact False.elim q1⟩
/-- lo, lo + 1, .. -/
def rgD (lo : Int) (n : Nat) : List D := (List.range n).map fun i => .int (lo + (i : Nat))
theorem rgD_len {lo : Int} {n : Nat} : (rgD lo n).length = n := by simp [rgD]
theorem rgD_get {lo : Int} {n i : Nat} {d : D} (h : (rgD lo n)[i]? = some d) : i < n ∧ d = .int (lo + (i : Nat)) := by
  unfold rgD at h
  rw [List.getElem?_map] at h
  obtain ⟨j, h1, h2⟩ := Option.map_eq_some_iff.mp h
  have h3 := List.getElem?_eq_some_iff.mp h1
  obtain ⟨h4, h5⟩ := h3
  simp at h4 h5
  subst h5
  exact ⟨h4, h2.symm⟩
theorem jr_range {F : FZ} {lo : Int} {n : Nat} : JR K F (rgD lo n) (Itr lo n) := by
  refine jr_of (G := fun _ => True) (Y := YFn fun i => .int (lo + i)) (by rw [rgD_len]; exact walk_range) (fun _ _ _ _ _ => trivial) (fun i H hi _ => by rw [rgD_len] at hi; exact hi) fun i d F1 M1 H1 x H2 e s hd y => ?_
  obtain ⟨e2, hx⟩ := y
  subst e2 hx
  obtain ⟨_, e3⟩ := rgD_get hd
  subst e3
  exact ⟨F1, FLe.refl _, s, .int _⟩
def jRng1 (ta : DTA) : DTI := fun γ M R => ta γ M fun ds M1 => match ds with
  | [.int j] => (-(2 ^ 62) ≤ j ∧ j < 2 ^ 62) ∧ R (rgD 0 j.toNat) M1
  | _ => False
def jRng2 (ta : DTA) : DTI := fun γ M R => ta γ M fun ds M1 => match ds with
  | [.int i, .int j] => (-(2 ^ 62) ≤ i ∧ i < 2 ^ 62 ∧ -(2 ^ 62) ≤ j ∧ j < 2 ^ 62) ∧ R (rgD i (j - i).toNat) M1
  | _ => False
theorem di_range1 {a : Expr} {ta : TA} {ta' : DTA} (hm : X.mg "range" = none) (ha : DA X F0 [a] ta ta') (hg : Gl X "range" := by rfl) (hs : starEach [a] X.env = [(false, eval a X.env)] := by rfl) : DI X F0 tg (.Call (.Name "range" p) [a] [] pos) (iRng1 ta) (jRng1 ta') := ⟨pi_range1 hg hm ha.pa hs, fun F γ M σ H R' R e0 s g q k => by
  refine ha.le F γ M σ H _ _ e0 s g q fun F1 ds vs M1 H1 e1 s1 r1 q1 => ?_
  split at q1
  · cases r1 with
    | cons r1 r2 =>
      cases r2
      cases r1
      exact ⟨_, rfl, q1.1.1, q1.1.2, k F1 _ _ M1 H1 e1 s1 jr_range q1.2⟩
  · exact q1.elim⟩
theorem di_range2 {a b : Expr} {ta : TA} {ta' : DTA} (hm : X.mg "range" = none) (ha : DA X F0 [a, b] ta ta') (hg : Gl X "range" := by rfl) (hs : starEach [a, b] X.env = [(false, eval a X.env), (false, eval b X.env)] := by rfl) (hs2 : starEach [b] X.env = [(false, eval b X.env)] := by rfl) :
    DI X F0 tg (.Call (.Name "range" p) [a, b] [] pos) (iRng2 ta) (jRng2 ta') := ⟨pi_range2 hg hm ha.pa hs hs2, fun F γ M σ H R' R e0 s g q k => by
  refine ha.le F γ M σ H _ _ e0 s g q fun F1 ds vs M1 H1 e1 s1 r1 q1 => ?_
  split at q1
  · cases r1 with
    | cons r1 r2 =>
      cases r2 with
      | cons r2 r3 =>
        cases r3
        cases r1
        cases r2
        exact ⟨_, _, rfl, q1.1, k F1 _ _ M1 H1 e1 s1 jr_range q1.2⟩
  · exact q1.elim⟩
/-- zip of two -/
def zipD (l m : List D) : List D := (l.zip m).map fun q => .tup [q.1, q.2]
def seqOf : D → Option (Bool × List D)
  | .lst l => some (false, l)
  | .tup l => some (true, l)
  | .kt l => some (true, l)
  | _ => none
theorem zip_new {F1 : FZ} {M1 : Mp} {H1 H2 : Hp} {x : V} {l m : List D} {xs ys : List V} {i : Nat} {d : D} (s : SR K F1 M1 H1) (rl : RpL K F1 l xs) (rm : RpL K F1 m ys) (hd : (zipD l m)[i]? = some d) (y : YPair (fun i => xs[i]?) (fun i => ys[i]?) i H1 x H2) : ∃ F2, FLe F1 F2 ∧ SR K F2 M1 H2 ∧ Rp K F2 d x := by
  obtain ⟨T, u, w, rfl, hT, rfl, h1, h2⟩ := y
  unfold zipD at hd
  rw [List.getElem?_map] at hd
  obtain ⟨q, hq, e⟩ := Option.map_eq_some_iff.mp hd
  subst e
  obtain ⟨hq1, hq2⟩ := List.getElem?_zip_eq_some.mp hq
  obtain ⟨u', a1, a2⟩ := rl.get hq1
  obtain ⟨w', b1, b2⟩ := rm.get hq2
  simp only at h1 h2
  rw [h1] at a1; cases a1
  rw [h2] at b1; cases b1
  have e := same_upd (o := .tup [u, w]) (s.freeF hT)
  exact ⟨_, e, s.newF hT (show 2 ≤ sizeLine by decide), .tup upd_same (.cons (a2.mono e) (.cons (b2.mono e) .nil))⟩
theorem zipD_len {l m : List D} : (zipD l m).length = min l.length m.length := by simp [zipD]
theorem seqOf_l {F : FZ} {d : D} {v : V} {l : List D} (r : Rp K F d v) (h : seqOf d = some (false, l)) : ∃ a xs, v = .ref a ∧ SqL K F.f a xs ∧ RpL K F l xs := by
  cases r <;> simp [seqOf] at h
  subst h
  exact ⟨_, _, rfl, SqL.of (by assumption), by assumption⟩
theorem seqOf_t {F : FZ} {d : D} {v : V} {l : List D} (r : Rp K F d v) (h : seqOf d = some (true, l)) : ∃ a xs, v = .ref a ∧ (∀ H, Same F.f H → SqT K H a xs) ∧ RpL K F l xs := by
  cases r with
  | tup a b => simp [seqOf] at h; subst h; exact ⟨_, _, rfl, fun H e => .inl (.inl (e _ _ a)), b⟩
  | kt a b => simp [seqOf] at h; subst h; exact ⟨_, _, rfl, fun H e => a.sq e, b⟩
  | _ => simp [seqOf] at h
end
end DL

set_option maxRecDepth 100000
set_option maxHeartbeats 2000000
namespace DL
open PySem PySem.Spec PyProof.Rows L2

/-! ### built-in functions -/
abbrev DRC := List D → Mp → DK → Prop
def LC (K : PySem.W.Frag) (F0 : FZ) (r' : DRC) (r : List V → Hp → VK → Prop) : Prop := ∀ (F : FZ) (M : Mp) (H : Hp) (ds : List D) (vs : List V) (Q' : DK) (Q : VK), Bs F0 F → SR K F M H → RpL K F ds vs → r' ds M Q' →
  (∀ F1 d v M1 H1, FLe F F1 → SR K F1 M1 H1 → Rp K F1 d v → Q' d M1 → Q v H1) → r vs H Q
def dCB (r : DRC) (t : DTA) : DTE := fun γ M Q => t γ M fun ds M1 => r ds M1 Q
section
variable {X : Cx} {K : PySem.W.Frag} {F0 : FZ} {e : Expr} {es : List Expr} {t : TA} {t' : DTA} {p pos : Pos} {r : List V → Hp → VK → Prop} {r' : DRC}
theorem le_cb (hl : LC K F0 r' r) (ha : LA K F0 t' t) : LE K F0 (dCB r' t') (tCB r t) := fun F γ M σ H Q' Q e0 s g q k =>
  ha F γ M σ H _ _ e0 s g q fun F1 ds vs M1 H1 e1 s1 r1 q1 => hl F1 M1 H1 ds vs _ _ (e0.tr e1) s1 r1 q1 fun F2 d v M2 H2 e2 s2 r2 q2 => k F2 d v M2 H2 (e1.trans e2) s2 r2 q2
theorem de_blt {x : Str} {id : String} (hc : CallR X (.builtin id) r) (hl : LC X.K F0 r' r) (hm : X.mg x = none) (ha : DA X F0 (e :: es) t t') (hv : bootBuiltins x = some (.builtin id) := by decide +kernel) (hg : Gl X x := by rfl) (hn : x ≠ "__name__" := by decide) (hdb : (x == ("__debug__" : Str)) = false := by decide)
    (he : starEach (e :: es) X.env = (false, eval e X.env) :: starEach es X.env := by rfl) (hpl : (backTo pos (starEach es X.env)).any (·.1) = false := by rfl) : DE X F0 (.Call (.Name x p) (e :: es) [] pos) (tCB r t) (dCB r' t') :=
  ⟨pe_callB hc hg hm hv ha.pa hn hdb he hpl, le_cb hl ha.le⟩
theorem de_bty {x : Str} {T : String} (hc : CallR X (.type T) r) (hl : LC X.K F0 r' r) (hm : X.mg x = none) (ha : DA X F0 (e :: es) t t') (hv : bootBuiltins x = some (.type T) := by decide +kernel) (hg : Gl X x := by rfl) (hn : x ≠ "__name__" := by decide) (hdb : (x == ("__debug__" : Str)) = false := by decide)
    (he : starEach (e :: es) X.env = (false, eval e X.env) :: starEach es X.env := by rfl) (hpl : (backTo pos (starEach es X.env)).any (·.1) = false := by rfl) : DE X F0 (.Call (.Name x p) (e :: es) [] pos) (tCB r t) (dCB r' t') :=
  ⟨pe_callTy hc hg hm hv ha.pa hn hdb he hpl, le_cb hl ha.le⟩
end

def keyD : Key → D
  | .inl i => .int i
  | .inr x => .str x
theorem keyD_rp {K : PySem.W.Frag} {F : FZ} : ∀ k : Key, Rp K F (keyD k) (kV k)
  | .inl i => .int i
  | .inr x => .str x
theorem keysD_rp {K : PySem.W.Frag} {F : FZ} : ∀ ks : List Key, RpL K F (ks.map keyD) (ks.map kV)
  | [] => .nil
  | k :: ks => .cons (keyD_rp k) (keysD_rp ks)
/-- how long a thing is -/
def lenV (M : Mp) : D → Option Nat
  | .lst l => some l.length
  | .tup l => some l.length
  | .kt l => some l.length
  | .str z => if z.length ≤ sizeLine then some z.length else none
  | .ref p => (match M p with
    | some (.lst l) => some l.length
    | some (.dK l) => some l.length
    | some (.dT l) => some l.length
    | _ => none)
  | .dk ks _ => some ks.length
  | _ => none
def dLen : DRC := fun ds M Q => match ds with
  | [d] => ∃ n : Nat, lenV M d = some n ∧ Q (.int n) M
  | _ => False
/-- the items of a list, a tuple, a dict -/
def itemsV (M : Mp) : D → Option (List D)
  | .lst l => some l
  | .tup l => some l
  | .kt l => some l
  | .ref p => (match M p with
    | some (.lst l) => some l
    | some (.dK l) => some (l.map fun kv => keyD kv.1)
    | some (.dT l) => some (l.map fun kv => .tup (kv.1.map keyD))
    | _ => none)
  | .dk ks _ => some (ks.map keyD)
  | .dt ks _ => some (ks.map fun k => .tup (k.map keyD))
  | _ => none
def dListM : DRC := fun ds M Q => match ds with
  | [d] => ∃ l, itemsV M d = some l ∧ ∀ p, M p = none → Q (.ref p) (mset M p (.lst l))
  | _ => False
def dTuple : DRC := fun ds M Q => match ds with
  | [.lst l] => Q (.tup l) M
  | [.tup l] => Q (.tup l) M
  | [.kt l] => Q (.kt l) M
  | [.ref p] => (match M p with
    | some (.lst l) => Q (.tup l) M
    | _ => False)
  | _ => False
section
variable {X : Cx} {K : PySem.W.Frag} {F0 : FZ}
def rLenA (K : PySem.W.Frag) : List V → Hp → VK → Prop := fun xs H Q => (∃ p ys, xs = [.ref p] ∧ (SqL K H p ys ∨ SqT K H p ys) ∧ Q (.int ys.length) H) ∨ (∃ z, xs = [.str z] ∧ z.length ≤ sizeLine ∧ Q (.int z.length) H) ∨ (∃ a kvs, xs = [V.ref a] ∧ Rd H a (.dK kvs) ∧ Q (.int kvs.length) H) ∨ rLenT xs H Q
theorem call_lenA : CallR X (.builtin "len") (rLenA X.K) := by
  intro pins s σ H xs us Q I r h
  rcases h with h | h | h | h
  · exact call_len_seq pins s σ H xs us Q I r h
  · exact call_len_str pins s σ H xs us Q I r h
  · obtain ⟨a, kvs, rfl, ha, q⟩ := h
    obtain ⟨u, rfl, ru⟩ := vals1 r
    cases ru
    exact d_len I ha fun t s' I' => ⟨.int kvs.length, H, I', ⟨t, rfl⟩, q⟩
  · exact call_len_dT pins s σ H xs us Q I r h
theorem lc_len : LC K F0 dLen (rLenA K) := by
  intro F M H ds vs Q' Q e0 s r q k
  unfold dLen at q
  split at q
  · rename_i d
    obtain ⟨n, hn, q⟩ := q
    cases r with
    | cons r1 r2 =>
      cases r2
      have kk := k F (.int n) (.int n) M H (FLe.refl F) s (.int _) q
      cases r1 with
      | lst a b =>
        simp only [lenV, Option.some.injEq] at hn
        subst hn
        exact .inl ⟨_, _, rfl, .inl (SqL.of (s.fz _ _ a)), by rw [← b.length]; exact kk⟩
      | tup a b =>
        simp only [lenV, Option.some.injEq] at hn
        subst hn
        exact .inl ⟨_, _, rfl, .inr (s.sqT a), by rw [← b.length]; exact kk⟩
      | kt a b =>
        simp only [lenV, Option.some.injEq] at hn
        subst hn
        exact .inl ⟨_, _, rfl, .inr (s.sqK a), by rw [← b.length]; exact kk⟩
      | str z =>
        simp only [lenV] at hn
        split at hn
        · rename_i hz
          cases hn
          exact .inr (.inl ⟨z, rfl, hz, kk⟩)
        · cases hn
      | ref p =>
        simp only [lenV] at hn
        split at hn
        · rename_i l hm
          cases hn
          obtain ⟨u, h1, h2⟩ := s.mu p _ hm
          cases h2 with
          | lst b z => exact .inl ⟨_, _, rfl, .inl (SqL.of h1), by rw [← b.length]; exact kk⟩
        · rename_i l hm
          cases hn
          obtain ⟨u, h1, h2⟩ := s.mu p _ hm
          cases h2 with
          | dK b z => exact .inr (.inr (.inl ⟨_, _, rfl, .inl h1, by rw [← kvr_len b]; exact kk⟩))
        · rename_i l hm
          cases hn
          obtain ⟨u, h1, h2⟩ := s.mu p _ hm
          cases h2 with
          | dT b z _ => exact .inr (.inr (.inr ⟨_, _, rfl, h1, by rw [← kvr_len b]; exact kk⟩))
        · cases hn
      | dk a b =>
        simp only [lenV, Option.some.injEq] at hn
        subst hn
        rw [List.length_map] at kk
        exact .inr (.inr (.inl ⟨_, _, rfl, s.dz _ _ a, kk⟩))
      | _ => simp [lenV] at hn
  · exact q.elim
theorem de_len {e : Expr} {ta : TA} {ta' : DTA} {p pos : Pos} (hm : X.mg "len" = none) (ha : DA X F0 [e] ta ta') (hg : Gl X "len" := by rfl) (he : starEach (e :: []) X.env = (false, eval e X.env) :: starEach [] X.env := by rfl) : DE X F0 (.Call (.Name "len" p) [e] [] pos) (tCB (rLenA X.K) ta) (dCB dLen ta') :=
  de_blt call_lenA lc_len hm ha PySem.boot_len hg (by decide) (by decide) he

/-- list(d), locked or not -/
def rListR : List V → Hp → VK → Prop := fun xs H Q => ∃ p kvs, xs = [.ref p] ∧ Rd H p (.dK kvs) ∧ ∀ q, H q = none → Q (.ref q) (upd H q (.lst (kvs.map fun kv => kV kv.1)))
theorem call_listR {X : Cx} (hc : X.calm = true) : CallR X (.type "list") rListR := by
  intro pins s σ H xs us Q I r h
  obtain ⟨p, kvs, e, hk, q⟩ := h
  subst e
  obtain ⟨u, eu, rx⟩ := vals1 r
  subst eu
  obtain rfl : u = Value.ref p := rx
  obtain ⟨z, lo, vs, rk, hd⟩ := (show ObjOk X.prog X.w H s.heap p (.dK kvs) from hk.ok I.hok)
  obtain ⟨ep, hat⟩ := hd.dictAt
  have hl : kvs.length = vs.length := Paired.length rk
  refine PySem.W.kdl_call (PySem.W.kdl_dict (knd := mixKind X.prog X.w) (kvs := vs) (ep := ep) lo) (I.ok.hd hc) hat (by rw [← hl]; exact z) fun h' tk acc' c' hkeep hS hacc => ?_
  have ks : (kvs.map fun kv => kV kv.1) = (kvs.map (·.1)).map kV := by rw [List.map_map]; rfl
  refine ⟨.ref s.heap.objs.size, upd H s.heap.objs.size (.lst (kvs.map fun kv => kV kv.1)), I.laid hkeep (Nat.le_refl _) (show ObjOk X.prog X.w _ _ _ (.lst (kvs.map fun kv => kV kv.1)) from ⟨by rw [List.length_map]; exact z, acc'.toList, c', ?_, by rw [Array.toArray_toList]; exact hS⟩), rfl, q _ (I.hok.fresh (Nat.le_refl _))⟩
  have el : acc'.toList.length = acc'.size := by simp
  refine vals_of_at (by rw [List.length_map, el, hacc.1, hl]) fun j x w h1 h2 => ?_
  obtain ⟨k, y, hky, hi⟩ := hacc.2 j w (by rw [← Array.getElem?_toList]; exact h2)
  have e1 : (kvs.map (·.1))[j]? = some k := by rw [KV.keys rk, List.getElem?_map, hky]; rfl
  rw [ks, List.getElem?_map, e1] at h1
  cases h1
  exact keyIs_rel hi
def rListA (K : PySem.W.Frag) : List V → Hp → VK → Prop := fun xs H Q => (∃ p ys, xs = [.ref p] ∧ (SqL K H p ys ∨ SqT K H p ys) ∧ ∀ l, H l = none → Q (.ref l) (upd H l (.lst ys))) ∨ rListR xs H Q ∨ (∃ d kvs, xs = [V.ref d] ∧ Rd H d (.dT kvs) ∧ ∀ p bs, H p = none → IsKeys H kvs bs → Q (.ref p) (upd H p (.lst (bs.map V.ref))))
theorem call_listA (hc : X.calm = true) : CallR X (.type "list") (rListA X.K) := by
  intro pins s σ H xs us Q I r h
  rcases h with h | h | h
  · exact call_list_of pins s σ H xs us Q I r h
  · exact call_listR hc pins s σ H xs us Q I r h
  · exact call_list_dT hc pins s σ H xs us Q I r h
theorem adoptKeys {F : FZ} {M : Mp} {H : Hp} : ∀ {kvs : List (List Key × V)} {bs : List Addr}, SR K F M H → IsKeys H kvs bs → (∀ p ∈ kvs, p.1.length ≤ sizeLine) → ∃ F1, FLe F F1 ∧ SR K F1 M H ∧ RpL K F1 (kvs.map fun kv => .tup (kv.1.map keyD)) (bs.map V.ref)
  | _, _, s, .nil, _ => ⟨F, FLe.refl F, s, .nil⟩
  | kv :: kvs, b :: bs, s, .cons r t, h => by
    obtain ⟨F1, e1, s1, r1⟩ := adoptKeys s t fun p hp => h p (List.mem_cons_of_mem _ hp)
    obtain ⟨F2, e2, s2, r2⟩ := s1.adoptT r (by rw [List.length_map]; exact h kv List.mem_cons_self)
    exact ⟨F2, e1.trans e2, s2, .cons (.tup r2 (keysD_rp _)) (r1.mono e2)⟩
theorem items_rp {F : FZ} {M : Mp} {H : Hp} {d : D} {v : V} {l : List D} {Q : VK} (s : SR K F M H) (r : Rp K F d v) (h : itemsV M d = some l)
    (k : ∀ F1 ys p, FLe F F1 → SR K F1 M H → RpL K F1 l ys → ys.length ≤ sizeLine → H p = none → Q (.ref p) (upd H p (.lst ys))) : rListA K [v] H Q := by
  cases r with
  | lst a b =>
    simp only [itemsV, Option.some.injEq] at h
    subst h
    exact .inl ⟨_, _, rfl, .inl (SqL.of (s.fz _ _ a)), fun p hp => k F _ p (FLe.refl F) s b (s.lenL (SqL.of a)) hp⟩
  | tup a b =>
    simp only [itemsV, Option.some.injEq] at h
    subst h
    exact .inl ⟨_, _, rfl, .inr (s.sqT a), fun p hp => k F _ p (FLe.refl F) s b (s.lenT a) hp⟩
  | kt a b =>
    simp only [itemsV, Option.some.injEq] at h
    subst h
    exact .inl ⟨_, _, rfl, .inr (s.sqK a), fun p hp => k F _ p (FLe.refl F) s b (s.lenK a) hp⟩
  | ref p =>
    simp only [itemsV] at h
    split at h
    · rename_i hm
      cases h
      obtain ⟨u, h1, h2⟩ := s.mu p _ hm
      cases h2 with
      | lst b z => exact .inl ⟨_, _, rfl, .inl (SqL.of h1), fun p hp => k F _ p (FLe.refl F) s b z hp⟩
    · rename_i hm
      cases h
      obtain ⟨u, h1, h2⟩ := s.mu p _ hm
      cases h2 with
      | dK b z =>
        refine .inr (.inl ⟨_, _, rfl, .inl h1, fun p hp => k F _ p (FLe.refl F) s ?_ (by rw [List.length_map]; exact z) hp⟩)
        have key : ∀ {m : List (Key × D)} {n : List (Key × V)}, KVR K F m n → RpL K F (m.map fun kv => keyD kv.1) (n.map fun kv => kV kv.1) := by
          intro m n r
          induction r with
          | nil => exact .nil
          | cons h t ih =>
            rename_i a b _ _
            rw [List.map_cons, List.map_cons, ← h.1]
            exact .cons (keyD_rp _) ih
        exact key b
    · rename_i hm
      cases h
      obtain ⟨u, h1, h2⟩ := s.mu p _ hm
      cases h2 with
      | dT b z zz =>
        rename_i kvs ps
        refine .inr (.inr ⟨_, _, rfl, .inl h1, fun p bs hp hk => ?_⟩)
        obtain ⟨F1, e1, s1, r1⟩ := adoptKeys s hk zz
        have hb : ps.length = bs.length := Paired.length hk
        have em : (kvs.map fun kv => D.tup (kv.1.map keyD)) = ps.map fun kv => D.tup (kv.1.map keyD) := by
          have key : ∀ {m : List (List Key × D)} {n : List (List Key × V)}, KVR K F m n → (m.map fun kv => D.tup (kv.1.map keyD)) = n.map fun kv => D.tup (kv.1.map keyD) := by
            intro m n r
            induction r with
            | nil => rfl
            | cons h t ih => rw [List.map_cons, List.map_cons, ih, h.1]
          exact key b
        exact k F1 _ p e1 s1 (by rw [em]; exact r1) (by rw [List.length_map]; omega) hp
    · cases h
  | dk a b =>
    rename_i q ps l
    simp only [itemsV, Option.some.injEq] at h
    subst h
    have z : ps.length ≤ sizeLine := (s.df _ _ a).2.2
    refine .inr (.inl ⟨_, _, rfl, s.dz _ _ a, fun p hp => k F _ p (FLe.refl F) s ?_ (by rw [List.length_map]; exact z) hp⟩)
    have e1 : (ps.map fun kv => kV kv.1) = (ps.map (·.1)).map kV := by rw [List.map_map]; rfl
    rw [e1]
    exact keysD_rp _
  | dt a b =>
    rename_i q ps l
    simp only [itemsV, Option.some.injEq] at h
    subst h
    obtain ⟨z, zz⟩ := (show DcO (.dT ps) from (s.df _ _ a).2.2)
    refine .inr (.inr ⟨_, _, rfl, s.dz _ _ a, fun p bs hp hk => ?_⟩)
    obtain ⟨F1, e1, s1, r1⟩ := adoptKeys s hk zz
    have hb : ps.length = bs.length := Paired.length hk
    exact k F1 _ p e1 s1 (by rw [List.map_map]; exact r1) (by rw [List.length_map]; omega) hp
  | _ => simp [itemsV] at h
theorem lc_listM : LC K F0 dListM (rListA K) := by
  intro F M H ds vs Q' Q e0 s r q k
  unfold dListM at q
  split at q
  · obtain ⟨l, hl, q⟩ := q
    cases r with
    | cons r1 r2 =>
      cases r2
      refine items_rp s r1 hl fun F1 ys p e1 s1 ry hz hp => ?_
      exact k F1 _ _ _ _ e1 (s1.putN hp (.lst ry hz)) (.ref p) (q p (s1.freeM hp))
  · exact q.elim
theorem lc_tuple : LC K F0 dTuple (fun xs H Q => ∃ p ys, xs = [.ref p] ∧ ((SqL K H p ys ∧ ∀ l, H l = none → Q (.ref l) (upd H l (.tup ys))) ∨ (SqT K H p ys ∧ Q (.ref p) H))) := by
  intro F M H ds vs Q' Q e0 s r q k
  have mk : ∀ {l : List D} {ys : List V}, RpL K F l ys → ys.length ≤ sizeLine → Q' (.tup l) M → ∀ p, H p = none → Q (.ref p) (upd H p (.tup ys)) := fun {l ys} ry hz q p hp => by
    have e2 := same_upd (o := .tup ys) (s.freeF hp)
    exact k _ _ _ _ _ e2 (s.newF hp hz) (.tup upd_same (ry.mono e2)) q
  unfold dTuple at q
  split at q
  · cases r with
    | cons r1 r2 =>
      cases r2
      cases r1 with
      | lst a b => exact ⟨_, _, rfl, .inl ⟨(SqL.of (s.fz _ _ a)), mk b (s.lenL (SqL.of a)) q⟩⟩
  · cases r with
    | cons r1 r2 =>
      cases r2
      cases r1 with
      | tup a b => exact ⟨_, _, rfl, .inr ⟨s.sqT a, k F _ _ M H (FLe.refl F) s (.tup a b) q⟩⟩
  · cases r with
    | cons r1 r2 =>
      cases r2
      cases r1 with
      | kt a b => exact ⟨_, _, rfl, .inr ⟨s.sqK a, k F _ _ M H (FLe.refl F) s (.kt a b) q⟩⟩
  · cases r with
    | cons r1 r2 =>
      cases r2
      cases r1
      split at q
      · rename_i hm
        obtain ⟨u, h1, h2⟩ := s.mu _ _ hm
        cases h2 with
        | lst b z => exact ⟨_, _, rfl, .inl ⟨SqL.of h1, mk b z q⟩⟩
      · exact q.elim
  · exact q.elim
/-- min, max of two; abs, int -/
def dII2 (g : Int → Int → Int) : DRC := fun ds M Q => match ds with
  | [.int i, .int j] => Q (.int (g i j)) M
  | _ => False
theorem lc_min2 : LC K F0 (dII2 fun i j => if j < i then j else i) (fun xs H Q => ∃ i j, xs = [.int i, .int j] ∧ Q (.int (if j < i then j else i)) H) := by
  intro F M H ds vs Q' Q e0 s r q k
  unfold dII2 at q
  split at q
  · cases r with
    | cons r1 r2 =>
      cases r2 with
      | cons r2 r3 =>
        cases r3; cases r1; cases r2
        exact ⟨_, _, rfl, k F _ _ M H (FLe.refl F) s (.int _) q⟩
  · exact q.elim
theorem lc_max2 : LC K F0 (dII2 fun i j => if j > i then j else i) (fun xs H Q => ∃ i j, xs = [.int i, .int j] ∧ Q (.int (if j > i then j else i)) H) := by
  intro F M H ds vs Q' Q e0 s r q k
  unfold dII2 at q
  split at q
  · cases r with
    | cons r1 r2 =>
      cases r2 with
      | cons r2 r3 =>
        cases r3; cases r1; cases r2
        exact ⟨_, _, rfl, k F _ _ M H (FLe.refl F) s (.int _) q⟩
  · exact q.elim
def dAbs : DRC := fun ds M Q => match ds with
  | [.int i] => Q (.int (if i < 0 then -i else i)) M
  | _ => False
theorem lc_abs : LC K F0 dAbs (fun xs H Q => ∃ i, xs = [.int i] ∧ Q (.int (if i < 0 then -i else i)) H) := by
  intro F M H ds vs Q' Q e0 s r q k
  unfold dAbs at q
  split at q
  · cases r with
    | cons r1 r2 =>
      cases r2; cases r1
      exact ⟨_, rfl, k F _ _ M H (FLe.refl F) s (.int _) q⟩
  · exact q.elim
def dInt : DRC := fun ds M Q => match ds with
  | [.int i] => Q (.int i) M
  | [.bl b] => Q (.int (if b then 1 else 0)) M
  | _ => False
theorem lc_int : LC K F0 dInt (fun xs H Q => (∃ i, xs = [.int i] ∧ Q (.int i) H) ∨ ∃ k, xs = [.bl k] ∧ Q (.int (if k then 1 else 0)) H) := by
  intro F M H ds vs Q' Q e0 s r q k
  unfold dInt at q
  split at q
  · cases r with
    | cons r1 r2 =>
      cases r2; cases r1
      exact .inl ⟨_, rfl, k F _ _ M H (FLe.refl F) s (.int _) q⟩
  · cases r with
    | cons r1 r2 =>
      cases r2; cases r1
      exact .inr ⟨_, rfl, k F _ _ M H (FLe.refl F) s (.int _) q⟩
  · exact q.elim
/-- all, any of a list of flags -/
def dFlags (g : List Bool → Bool) : DRC := fun ds M Q => match ds with
  | [.lst l] => ∃ bs : List Bool, l = bs.map .bl ∧ Q (.bl (g bs)) M
  | _ => False
theorem lc_flags {g : List Bool → Bool} : LC K F0 (dFlags g) (fun vs H Q => ∃ (a : Addr) (bs : List Bool), vs = [V.ref a] ∧ SqL K H a (bs.map V.bl) ∧ Q (.bl (g bs)) H) := by
  intro F M H ds vs Q' Q e0 s r q k
  unfold dFlags at q
  split at q
  · obtain ⟨bs, hb, q⟩ := q
    subst hb
    cases r with
    | cons r1 r2 =>
      cases r2
      cases r1 with
      | lst a b =>
        have e := RpL.bl bs b
        subst e
        exact ⟨_, bs, rfl, (SqL.of (s.fz _ _ a)), k F _ _ M H (FLe.refl F) s (.bl _) q⟩
  · exact q.elim
/-- sorted, of ints -/
def dSortI : DRC := fun ds M Q => match ds with
  | [d] => ∃ ns : List Int, (d = .lst (ns.map .int) ∨ ∃ p, d = .ref p ∧ M p = some (.lst (ns.map .int))) ∧ ∀ ns' : List Int, ns'.Perm ns → ns'.Pairwise (· ≤ ·) → Q (.lst (ns'.map .int)) M
  | _ => False
theorem lc_sortI : LC K F0 dSortI (rSortedI K) := by
  intro F M H ds vs Q' Q e0 s r q k
  unfold dSortI at q
  split at q
  · obtain ⟨ns, hd, q⟩ := q
    have mk : ∀ (a : Addr), SqL K H a (ns.map V.int) → ns.length ≤ sizeLine → rSortedI K [.ref a] H Q := fun a ha hz => by
      refine ⟨a, ns, rfl, ha, fun ns' p h1 h2 hp => ?_⟩
      have e2 := same_upd (o := .lst (ns'.map V.int)) (s.freeF hp)
      exact k _ _ _ _ _ e2 (s.newF hp (by show (ns'.map V.int).length ≤ sizeLine; rw [List.length_map, h1.length_eq]; exact hz)) (.lst upd_same (RpL.ofInt ns')) (q ns' h1 h2)
    cases r with
    | cons r1 r2 =>
      cases r2
      rcases hd with rfl | ⟨p, rfl, hm⟩
      · cases r1 with
        | lst a b =>
          have e := RpL.int ns b
          subst e
          exact mk _ (SqL.of (s.fz _ _ a)) (by have := s.lenL (SqL.of a); rw [List.length_map] at this; exact this)
      · cases r1
        obtain ⟨u, h1, h2⟩ := s.mu p _ hm
        cases h2 with
        | lst b z =>
          have e := RpL.int ns b
          subst e
          exact mk p (SqL.of h1) (by rw [List.length_map] at z; exact z)
  · exact q.elim
end
end DL

set_option maxRecDepth 100000
set_option maxHeartbeats 2000000
namespace DL
open PySem PySem.Spec PyProof.Rows L2

/-! ### sorted, of pairs of ints -/
def prD (p : Int × Int) : D := .tup [.int p.1, .int p.2]
def dSortP : DRC := fun ds M Q => match ds with
  | [d] => ∃ ps : List (Int × Int), (d = .lst (ps.map prD) ∨ ∃ p, d = .ref p ∧ M p = some (.lst (ps.map prD))) ∧ ∀ qs : List (Int × Int), qs.Perm ps → SrtO.Srtd SrtO.lexB qs → Q (.lst (qs.map prD)) M
  | _ => False
/-- the two ints of a frozen pair -/
def prOf (F : Hp) (v : V) : Int × Int := match v with
  | .ref t => (match F t with
    | some (.tup [.int i, .int j]) => (i, j)
    | _ => (0, 0))
  | _ => (0, 0)
section
variable {X : Cx} {K : PySem.W.Frag} {F0 : FZ}
theorem prs_rp {F : FZ} : ∀ {ps : List (Int × Int)} {xs : List V}, RpL K F (ps.map prD) xs → ps = xs.map (prOf F.f) ∧ ∀ x ∈ xs, ∃ t, x = V.ref t ∧ F.f t = some (.tup [.int (prOf F.f x).1, .int (prOf F.f x).2])
  | [], _, .nil => ⟨rfl, fun x h => by cases h⟩
  | p :: ps, _, .cons r t => by
    obtain ⟨h1, h2⟩ := prs_rp t
    cases r with
    | tup a b =>
      rename_i t' ys
      cases b with
      | cons b1 b2 =>
        cases b2 with
        | cons b2 b3 =>
          cases b3
          cases b1
          cases b2
          have e : prOf F.f (.ref t') = (p.1, p.2) := by simp only [prOf, a]
          refine ⟨by rw [List.map_cons, e, ← h1], fun x hx => ?_⟩
          rcases List.mem_cons.mp hx with rfl | hx
          · exact ⟨t', rfl, by rw [e]; exact a⟩
          · exact h2 x hx
theorem rp_prs {F : FZ} : ∀ {xs : List V}, (∀ x ∈ xs, ∃ t, x = V.ref t ∧ F.f t = some (.tup [.int (prOf F.f x).1, .int (prOf F.f x).2])) → RpL K F ((xs.map (prOf F.f)).map prD) xs
  | [], _ => .nil
  | x :: xs, h => by
    obtain ⟨t, rfl, ht⟩ := h x List.mem_cons_self
    exact .cons (.tup ht (.cons (.int _) (.cons (.int _) .nil))) (rp_prs fun y hy => h y (List.mem_cons_of_mem _ hy))
theorem lc_sortP : LC K F0 dSortP (rSortedPO K) := by
  intro F M H ds vs Q' Q e0 s r q k
  unfold dSortP at q
  split at q
  · obtain ⟨ps, hd, q⟩ := q
    have mk : ∀ (a : Addr) (xs : List V), SqL K H a xs → xs.length ≤ sizeLine → RpL K F (ps.map prD) xs → rSortedPO K [.ref a] H Q := fun a xs ha hz rl => by
      obtain ⟨h1, h2⟩ := prs_rp rl
      refine ⟨a, xs, prOf F.f, rfl, ha, fun x hx => ?_, fun ys p hs hp hn => ?_⟩
      · obtain ⟨t, e1, e2⟩ := h2 x hx
        exact ⟨t, e1, s.fz _ _ e2⟩
      · have e2 := same_upd (o := .lst ys) (s.freeF hn)
        have hy : RpL K F ((ys.map (prOf F.f)).map prD) ys := rp_prs fun y hy => h2 y (hp.perm.mem_iff.mp hy)
        refine k _ _ _ _ _ e2 (s.newF hn (by show ys.length ≤ sizeLine; rw [hp.perm.length_eq]; exact hz)) (.lst upd_same (hy.mono e2)) (q _ (by rw [h1]; exact hp.perm.map _) (SrtO.srtd_map hs))
    cases r with
    | cons r1 r2 =>
      cases r2
      rcases hd with rfl | ⟨p, rfl, hm⟩
      · cases r1 with
        | lst a b => exact mk _ _ (SqL.of (s.fz _ _ a)) (s.lenL (SqL.of a)) b
      · cases r1
        obtain ⟨u, h1, h2⟩ := s.mu p _ hm
        cases h2 with
        | lst b z => exact mk p _ (SqL.of h1) z b
  · exact q.elim

/-! ### isinstance, built-in types -/
def tyN (M : Mp) : D → Option String
  | .non => some "NoneType"
  | .bl _ => some "bool"
  | .int _ => some "int"
  | .str _ => some "str"
  | .lst _ => some "list"
  | .tup _ => some "tuple"
  | .kt _ => some "tuple"
  | .ref p => (match M p with
    | some (.lst _) => some "list"
    | some (.dK _) => some "dict"
    | some (.dT _) => some "dict"
    | _ => none)
  | .ty _ => none
  | .ls _ => none
  | .dk _ _ => some "dict"
  | .dt _ _ => none
def isiT (T n : String) : Bool := T == n || (T == "bool" && n == "int")
theorem kitB_tab : ∀ T ∈ (["NoneType", "bool", "int", "str", "list", "tuple", "dict"] : List String), ∀ n ∈ (["NoneType", "bool", "int", "str", "list", "tuple", "dict"] : List String), kitB T n = some (isiT T n) := by decide +kernel
def isTab (n : String) : Bool := ["NoneType", "bool", "int", "str", "list", "tuple", "dict"].contains n
theorem isTab_mem {n : String} (h : isTab n = true) : n ∈ (["NoneType", "bool", "int", "str", "list", "tuple", "dict"] : List String) := by simpa [isTab] using h
theorem tyN_tab {M : Mp} {d : D} {T : String} (h : tyN M d = some T) : T ∈ (["NoneType", "bool", "int", "str", "list", "tuple", "dict"] : List String) := by
  unfold tyN at h
  split at h <;> (try (simp at h; done)) <;> first
    | (cases h; simp; done)
    | (split at h <;> first | (cases h; simp; done) | cases h)
theorem tyN_rp {F : FZ} {M : Mp} {H : Hp} {d : D} {v : V} {T : String} (s : SR K F M H) (r : Rp K F d v) (h : tyN M d = some T) : TyX K H v (.type T) := by
  cases r with
  | non => cases h; exact .base .non
  | bl b => cases h; exact .base (.bl b)
  | int i => cases h; exact .base (.int i)
  | str x => cases h; exact .base (.str x)
  | lst a b =>
    cases h
    exact .base (.lst (s.fz _ _ a))
  | tup a b => cases h; exact .base (.tup (s.fz _ _ a))
  | kt a b =>
    cases h
    rcases a with ⟨o, its, n, z, c, _⟩ | ⟨o, z, _⟩
    · exact .kTuple z c
    · exact .fTuple (s.fz _ _ z)
  | ref p =>
    simp only [tyN] at h
    split at h
    · rename_i hm
      cases h
      obtain ⟨u, h1, h2⟩ := s.mu p _ hm
      cases h2
      exact .base (.lst h1)
    · rename_i hm
      cases h
      obtain ⟨u, h1, h2⟩ := s.mu p _ hm
      cases h2
      exact .base (.dK h1)
    · rename_i hm
      cases h
      obtain ⟨u, h1, h2⟩ := s.mu p _ hm
      cases h2
      exact .base (.dT h1)
    · cases h
  | ty n => cases h
  | ls a b => cases h
  | dk a b =>
    cases h
    rcases s.dz _ _ a with z | ⟨o, z⟩
    · exact .base (.dK z)
    · exact .fDict z
  | dt a b => cases h
def dIsi : DRC := fun ds M Q => match ds with
  | [x, .ty n] => isTab n = true ∧ ∃ T, tyN M x = some T ∧ Q (.bl (isiT T n)) M
  | _ => False
theorem lc_isi : LC K F0 dIsi (rIsi K) := by
  intro F M H ds vs Q' Q e0 s r q k
  unfold dIsi at q
  split at q
  · obtain ⟨hn, T, hT, q⟩ := q
    cases r with
    | cons r1 r2 =>
      cases r2 with
      | cons r2 r3 =>
        cases r3
        cases r2
        exact ⟨_, _, _, _, _, rfl, .ty _, tyN_rp s r1 hT, kit_ty (kitB_tab _ (tyN_tab hT) _ (isTab_mem hn)), k F _ _ M H (FLe.refl F) s (.bl _) q⟩
  · exact q.elim
theorem de_ty {x : Str} {n : String} {pos : Pos} (hm : X.mg x = none) (hv : bootBuiltins x = some (.type n) := by decide +kernel) (hg : Gl X x := by rfl) (hn : x ≠ "__name__" := by decide) (hd : (x == ("__debug__" : Str)) = false := by decide) : DE X F0 (.Name x pos) (tC (.ty n)) (dC (.ty n)) :=
  ⟨pe_bltn hg hm hv rfl hn hd, le_c fun _ => .ty n⟩
theorem de_isi {e e2 : Expr} {ta : TA} {ta' : DTA} {p pos : Pos} (hm : X.mg "isinstance" = none) (ha : DA X F0 [e, e2] ta ta') (hg : Gl X "isinstance" := by rfl) (he : starEach [e, e2] X.env = (false, eval e X.env) :: starEach [e2] X.env := by rfl) (hpl : (backTo pos (starEach [e2] X.env)).any (·.1) = false := by rfl) :
    DE X F0 (.Call (.Name "isinstance" p) [e, e2] [] pos) (tCB (rIsi X.K) ta) (dCB dIsi ta') := de_blt call_isi lc_isi hm ha (by decide +kernel) hg (by decide) (by decide) he hpl
end

/-! ### methods of built-in types -/
abbrev DRM := D → List D → Mp → DK → Prop
def LM (K : PySem.W.Frag) (F0 : FZ) (r' : DRM) (r : V → List V → Hp → VK → Prop) : Prop := ∀ (F : FZ) (M : Mp) (H : Hp) (o : D) (x : V) (ds : List D) (vs : List V) (Q' : DK) (Q : VK), Bs F0 F → SR K F M H → Rp K F o x → RpL K F ds vs → r' o ds M Q' →
  (∀ F1 d v M1 H1, FLe F F1 → SR K F1 M1 H1 → Rp K F1 d v → Q' d M1 → Q v H1) → r x vs H Q
def tyD (T : String) (M : Mp) : D → Prop
  | .lst _ => T = "list"
  | .str _ => T = "str"
  | .kt _ => T = "tuple"
  | .ref p => (match M p with
    | some (.lst _) => T = "list"
    | some (.dK _) => T = "dict"
    | some (.dT _) => T = "dict"
    | _ => False)
  | _ => False
def dBM0 (T : String) (r : DRM) (to : DTE) : DTE := fun γ M Q => to γ M fun x M1 => tyD T M1 x ∧ r x [] M1 Q
def dBM (T : String) (r : DRM) (to : DTE) (t : DTA) : DTE := fun γ M Q => to γ M fun x M1 => tyD T M1 x ∧ t γ M1 fun xs M2 => r x xs M2 Q
section
variable {X : Cx} {K : PySem.W.Frag} {F0 : FZ} {o e : Expr} {es : List Expr} {to : TE} {to' : DTE} {t : TA} {t' : DTA} {name : Str} {apos cpos : Pos} {T id : String} {r : V → List V → Hp → VK → Prop} {r' : DRM}
theorem tyD_rp {F : FZ} {M : Mp} {H : Hp} {d : D} {v : V} (s : SR K F M H) (r : Rp K F d v) (hk : T ≠ "tuple") (h : tyD T M d) : tyV K T v H := by
  cases r with
  | lst a b => exact .inl ⟨h, _, SqL.of (s.fz _ _ a)⟩
  | str z => exact h
  | kt a b => exact absurd h hk
  | ref p =>
    simp only [tyD] at h
    split at h
    · rename_i hm
      obtain ⟨u, h1, h2⟩ := s.mu p _ hm
      cases h2
      exact .inl ⟨h, _, SqL.of h1⟩
    · rename_i hm
      obtain ⟨u, h1, h2⟩ := s.mu p _ hm
      cases h2
      exact .inr (.inr (.inl ⟨h, .inl ⟨_, h1⟩⟩))
    · rename_i hm
      obtain ⟨u, h1, h2⟩ := s.mu p _ hm
      cases h2
      exact .inr (.inr (.inl ⟨h, .inr ⟨_, h1⟩⟩))
    · exact h.elim
  | _ => exact False.elim h
theorem de_bm0 (pa : PlainAttrs T) (slot : Slot T name id) (hty : typeOf (.builtin id) = pure (.type "method_descriptor")) (hm : MtR X id r) (hl : LM X.K F0 r' r) (ho : DE X F0 o to to') (hk : T ≠ "tuple" := by decide)
    (hbase : attributeBase o name X.env (eval o X.env) = eval o X.env := by rfl) (hline : (apos.endLine == cpos.line) = true := by rfl) : DE X F0 (.Call (.Attribute o name apos) [] [] cpos) (tBM0 X.K T r to) (dBM0 T r' to') :=
  ⟨pe_bm0 pa slot hty hm ho.pe hbase hline, fun F γ M σ H Q' Q e0 s g q k => ho.le F γ M σ H _ _ e0 s g q fun F1 d v M1 H1 e1 s1 r1 q1 =>
    ⟨tyD_rp s1 r1 hk q1.1, hl F1 M1 H1 d v [] [] _ _ (e0.tr e1) s1 r1 .nil q1.2 fun F2 d2 v2 M2 H2 e2 s2 r2 q2 => k F2 d2 v2 M2 H2 (e1.trans e2) s2 r2 q2⟩⟩
theorem de_bm (pa : PlainAttrs T) (slot : Slot T name id) (hty : typeOf (.builtin id) = pure (.type "method_descriptor")) (hm : MtR X id r) (hl : LM X.K F0 r' r) (ho : DE X F0 o to to') (ha : DA X F0 (e :: es) t t') (hk : T ≠ "tuple" := by decide)
    (hbase : attributeBase o name X.env (eval o X.env) = eval o X.env := by rfl)
    (hfew : ((backTo cpos (starEach (e :: es) X.env)).all (fun x => !x.1) && (backToKw cpos (keywordEach [] X.env)).all (fun x => x.1.isSome) && decide ((e :: es).length + ([] : List Keyword).length + (if ([] : List Keyword).isEmpty then 0 else 1) < 30)) = true := by rfl)
    (hline : (apos.endLine == cpos.line) = true := by rfl) (hs : starEach (e :: es) X.env = (false, eval e X.env) :: starEach es X.env := by rfl) (hplain : (backTo cpos (starEach es X.env)).any (·.1) = false := by rfl) :
    DE X F0 (.Call (.Attribute o name apos) (e :: es) [] cpos) (tBM X.K T r to t) (dBM T r' to' t') :=
  ⟨pe_bm pa slot hty hm ho.pe ha.pa hbase hfew hline hs hplain, fun F γ M σ H Q' Q e0 s g q k => ho.le F γ M σ H _ _ e0 s g q fun F1 d v M1 H1 e1 s1 r1 q1 =>
    ⟨tyD_rp s1 r1 hk q1.1, ha.le F1 γ M1 σ H1 _ _ (e0.tr e1) s1 (g.mono e1) q1.2 fun F2 ds vs M2 H2 e2 s2 r2 q2 => hl F2 M2 H2 d v ds vs _ _ ((e0.tr e1).tr e2) s2 (r1.mono e2) r2 q2 fun F3 d3 v3 M3 H3 e3 s3 r3 q3 => k F3 d3 v3 M3 H3 ((e1.trans e2).trans e3) s3 r3 q3⟩⟩
def dAppend : DRM := fun x ds M Q => match x, ds with
  | .ref p, [d] => (match M p with
    | some (.lst l) => l.length < sizeLine ∧ Q .non (mset M p (.lst (l ++ [d])))
    | _ => False)
  | _, _ => False
theorem lm_append : LM K F0 dAppend rAppend := by
  intro F M H o x ds vs Q' Q e0 s r rs q k
  unfold dAppend at q
  split at q
  · rename_i p d
    split at q
    · rename_i l hm
      obtain ⟨hl, q⟩ := q
      obtain ⟨u, h1, h2⟩ := s.mu p _ hm
      cases h2 with
      | lst b z =>
        cases r
        cases rs with
        | cons r1 r2 =>
          cases r2
          have hl2 := b.length ▸ hl
          exact ⟨p, _, _, rfl, rfl, h1, hl2, k F _ _ _ _ (FLe.refl F) (s.putM hm (.lst (b.append (.cons r1 .nil)) (by rw [List.length_append]; simp; omega))) .non q⟩
    · exact q.elim
  · exact q.elim
def dPop : DRM := fun x ds M Q => match x, ds with
  | .ref p, [] => (match M p with
    | some (.lst l) => ∃ d, l.getLast? = some d ∧ Q d (mset M p (.lst l.dropLast))
    | _ => False)
  | _, _ => False
theorem lm_pop : LM K F0 dPop rPop := by
  intro F M H o x ds vs Q' Q e0 s r rs q k
  unfold dPop at q
  split at q
  · rename_i p
    split at q
    · rename_i l hm
      obtain ⟨d, hd, q⟩ := q
      obtain ⟨u, h1, h2⟩ := s.mu p _ hm
      cases h2 with
      | lst b z =>
        rename_i xs
        cases r
        cases rs
        rw [List.getLast?_eq_getElem?] at hd
        obtain ⟨v, e1, e2⟩ := b.get hd
        rw [b.length] at e1
        exact ⟨p, _, v, rfl, rfl, h1, e1, k F _ _ _ _ (FLe.refl F) (s.putM hm (.lst b.dropLast (by rw [List.length_dropLast]; omega))) e2 q⟩
    · exact q.elim
  · exact q.elim
def dPopAt : DRM := fun x ds M Q => match x, ds with
  | .ref p, [.int i] => (match M p with
    | some (.lst l) => ∃ (j : Nat) (d : D), ixN l.length i = some j ∧ l[j]? = some d ∧ Q d (mset M p (.lst (l.eraseIdx j)))
    | _ => False)
  | _, _ => False
theorem lm_popAt : LM K F0 dPopAt rPopAt := by
  intro F M H o x ds vs Q' Q e0 s r rs q k
  unfold dPopAt at q
  split at q
  · rename_i p i
    split at q
    · rename_i l hm
      obtain ⟨j, d, hj, hd, q⟩ := q
      obtain ⟨u, h1, h2⟩ := s.mu p _ hm
      cases h2 with
      | lst b z =>
        rename_i xs
        cases r
        cases rs with
        | cons r1 r2 =>
          cases r2
          cases r1
          rw [b.length] at hj
          obtain ⟨g1, g2, g3, g4⟩ := ixN_seq hj
          obtain ⟨v, e1, e2⟩ := b.get hd
          have hn := line63
          have hz := sizeLine_eq
          refine ⟨p, xs, i, j, v, rfl, rfl, h1, by omega, by omega, g1, e1, k F _ _ _ _ (FLe.refl F) (s.putM hm (.lst (b.eraseIdx j) ?_)) e2 q⟩
          have := List.length_eraseIdx_le xs j
          omega
    · exact q.elim
  · exact q.elim
theorem de_append {ta : TA} {ta' : DTA} (ho : DE X F0 o to to') (ha : DA X F0 [e] ta ta') (hbase : attributeBase o "append" X.env (eval o X.env) = eval o X.env := by rfl)
    (hfew : ((backTo cpos (starEach [e] X.env)).all (fun x => !x.1) && (backToKw cpos (keywordEach [] X.env)).all (fun x => x.1.isSome) && decide ([e].length + ([] : List Keyword).length + (if ([] : List Keyword).isEmpty then 0 else 1) < 30)) = true := by rfl)
    (hline : (apos.endLine == cpos.line) = true := by rfl) (hs : starEach [e] X.env = (false, eval e X.env) :: starEach [] X.env := by rfl) : DE X F0 (.Call (.Attribute o "append" apos) [e] [] cpos) (tBM X.K "list" rAppend to ta) (dBM "list" dAppend to' ta') :=
  de_bm PySem.F.plainAttrs_list PySem.F.slot_list_append PySem.F.type_list_append mt_append lm_append ho ha (by decide) hbase hfew hline hs rfl
theorem de_pop (ho : DE X F0 o to to') (hbase : attributeBase o "pop" X.env (eval o X.env) = eval o X.env := by rfl) (hline : (apos.endLine == cpos.line) = true := by rfl) : DE X F0 (.Call (.Attribute o "pop" apos) [] [] cpos) (tBM0 X.K "list" rPop to) (dBM0 "list" dPop to') :=
  de_bm0 PySem.F.plainAttrs_list PySem.F.slot_list_pop PySem.F.type_list_pop mt_pop lm_pop ho (by decide) hbase hline
theorem de_popAt {ta : TA} {ta' : DTA} (ho : DE X F0 o to to') (ha : DA X F0 [e] ta ta') (hbase : attributeBase o "pop" X.env (eval o X.env) = eval o X.env := by rfl)
    (hfew : ((backTo cpos (starEach [e] X.env)).all (fun x => !x.1) && (backToKw cpos (keywordEach [] X.env)).all (fun x => x.1.isSome) && decide ([e].length + ([] : List Keyword).length + (if ([] : List Keyword).isEmpty then 0 else 1) < 30)) = true := by rfl)
    (hline : (apos.endLine == cpos.line) = true := by rfl) (hs : starEach [e] X.env = (false, eval e X.env) :: starEach [] X.env := by rfl) : DE X F0 (.Call (.Attribute o "pop" apos) [e] [] cpos) (tBM X.K "list" rPopAt to ta) (dBM "list" dPopAt to' ta') :=
  de_bm PySem.F.plainAttrs_list PySem.F.slot_list_pop PySem.F.type_list_pop mt_popAt lm_popAt ho ha (by decide) hbase hfew hline hs rfl
end
end DL

set_option maxRecDepth 100000
set_option maxHeartbeats 2000000
namespace DL
open PySem PySem.Spec PyProof.Rows L2

section
variable {X : Cx} {K : PySem.W.Frag} {F0 : FZ} {a b c e o : Expr} {es rest : List Expr} {ta tb tc te to : TE} {ta' tb' tc' te' to' : DTE} {pos : Pos}
/-! ### chains, and | or | not as values, truth -/
theorem le_chain {r r' : R2} {d d' : DR2} (hr : L2r K F0 d r) (hr' : L2r K F0 d' r') (ha : LE K F0 ta' ta) (hb : LE K F0 tb' tb) (hc : LE K F0 tc' tc) : LE K F0 (dChain d d' ta' tb' tc') (tChain r r' ta tb tc) := by
  intro F γ M σ H Q' Q e0 s g h k
  refine ha F γ M σ H _ _ e0 s g h fun F1 d1 v1 M1 H1 e1 s1 r1 q1 => ?_
  refine hb F1 γ M1 σ H1 _ _ (e0.tr e1) s1 (g.mono e1) q1 fun F2 d2 v2 M2 H2 e2 s2 r2 q2 => ?_
  refine hr F2 M2 H2 d1 d2 v1 v2 _ _ ((e0.tr e1).tr e2) s2 (r1.mono e2) r2 q2 fun F3 d3 v3 M3 H3 e3 s3 r3 q3 => ?_
  split at q3
  · cases r3
    refine ⟨true, rfl, ?_⟩
    refine hc F3 γ M3 σ H3 _ _ (((e0.tr e1).tr e2).tr e3) s3 (g.mono ((e1.trans e2).trans e3)) q3 fun F4 d4 v4 M4 H4 e4 s4 r4 q4 => ?_
    exact hr' F4 M4 H4 d2 d4 v2 v4 _ _ ((((e0.tr e1).tr e2).tr e3).tr e4) s4 (r2.mono (e3.trans e4)) r4 q4 fun F5 d5 v5 M5 H5 e5 s5 r5 q5 => k F5 d5 v5 M5 H5 ((((e1.trans e2).trans e3).trans e4).trans e5) s5 r5 q5
  · cases r3
    exact ⟨false, rfl, k F3 _ _ M3 H3 ((e1.trans e2).trans e3) s3 (.bl _) q3⟩
  · exact q3.elim
theorem de_chain {op op' : CmpOp} {r r' : R2} {d d' : DR2} (ho : OpR X (compareOp op) r) (hr : L2r X.K F0 d r) (ho' : OpR X (compareOp op') r') (hr' : L2r X.K F0 d' r') (ha : DE X F0 a ta ta') (hb : DE X F0 b tb tb') (hc : DE X F0 c tc tc')
    (hm : lastMarks [op, op'] [b, c] = false := by with_unfolding_all rfl) : DE X F0 (.Compare a [op, op'] [b, c] pos) (tChain r r' ta tb tc) (dChain d d' ta' tb' tc') :=
  ⟨pe_chain ho ho' ha.pe hb.pe hc.pe hm, le_chain hr hr' ha.le hb.le hc.le⟩
def dAndV (ta tb : DTE) : DTE := fun γ M Q => ta γ M fun x M1 => match x with
  | .bl c => if c = true then tb γ M1 Q else Q (.bl false) M1
  | _ => False
def dNotV (ta : DTE) : DTE := fun γ M Q => ta γ M fun x M1 => match x with
  | .bl c => Q (.bl (!c)) M1
  | _ => False
theorem de_one {op : BoolOp} (h : DE X F0 a ta ta') : DE X F0 (.BoolOp op [a] pos) ta ta' := ⟨pe_one h.pe, h.le⟩
theorem de_and (ha : DE X F0 a ta ta') (hb : DE X F0 (.BoolOp .And (b :: rest) pos) tb tb') : DE X F0 (.BoolOp .And (a :: b :: rest) pos) (tAndV ta tb) (dAndV ta' tb') := ⟨pe_and ha.pe hb.pe, fun F γ M σ H Q' Q e0 s g h k => by
  refine ha.le F γ M σ H _ _ e0 s g h fun F1 d1 v1 M1 H1 e1 s1 r1 q1 => ?_
  split at q1
  · rename_i c
    cases r1
    refine ⟨c, rfl, ?_⟩
    cases c with
    | true => exact hb.le F1 γ M1 σ H1 _ _ (e0.tr e1) s1 (g.mono e1) q1 fun F2 d2 v2 M2 H2 e2 s2 r2 q2 => k F2 d2 v2 M2 H2 (e1.trans e2) s2 r2 q2
    | false => exact k F1 _ _ M1 H1 e1 s1 (.bl _) q1
  · exact q1.elim⟩
theorem de_not (ha : DE X F0 a ta ta') : DE X F0 (.UnaryOp .Not a pos) (tNotV ta) (dNotV ta') := ⟨pe_not ha.pe, fun F γ M σ H Q' Q e0 s g h k => by
  refine ha.le F γ M σ H _ _ e0 s g h fun F1 d1 v1 M1 H1 e1 s1 r1 q1 => ?_
  split at q1
  · cases r1
    exact ⟨_, rfl, k F1 _ _ M1 H1 e1 s1 (.bl _) q1⟩
  · exact q1.elim⟩
/-- unary minus -/
def dNeg (ta : DTE) : DTE := fun γ M Q => ta γ M fun x M1 => match x with
  | .int i => Q (.int (-i)) M1
  | _ => False
theorem de_neg (ha : DE X F0 a ta ta') : DE X F0 (.UnaryOp .USub a pos) (tUn (rU fun i => .int (-i)) ta) (dNeg ta') := ⟨pe_un un_neg ha.pe, fun F γ M σ H Q' Q e0 s g h k => by
  refine ha.le F γ M σ H _ _ e0 s g h fun F1 d1 v1 M1 H1 e1 s1 r1 q1 => ?_
  split at q1
  · cases r1
    exact ⟨_, rfl, k F1 _ _ M1 H1 e1 s1 (.int _) q1⟩
  · exact q1.elim⟩
/-! ### in -/
/-- y in x -/
def inV' (M : Mp) (y : D) : D → Option Bool
  | .lst l => if y.ok 60 = true ∧ D.ok (.lst l) 60 = true then some (l.any fun z => D.eq z y) else none
  | .tup l => if y.ok 60 = true ∧ D.ok (.tup l) 60 = true then some (l.any fun z => D.eq z y) else none
  | .kt l => if y.ok 60 = true ∧ D.ok (.kt l) 60 = true then some (l.any fun z => D.eq z y) else none
  | .str z => (match y with
    | .str x => some (!(Builtin.Str.occurrences z x 0 z.length 1).isEmpty)
    | _ => none)
  | .ref p => (match M p with
    | some (.lst l) => if y.ok 60 = true ∧ D.ok (.lst l) 60 = true then some (l.any fun z => D.eq z y) else none
    | _ => (dLook M p y).map (·.isSome))
  | .dk ks l => (dkLook (.dk ks l) y).map (·.isSome)
  | .dt ks l => (dkLook (.dt ks l) y).map (·.isSome)
  | _ => none
def dIn (neg : Bool) : DR2 := fun y x M Q => ∃ k, inV' M y x = some k ∧ Q (.bl (if neg then !k else k)) M
def rInTD (K : PySem.W.Frag) : R2 := fun x y H Q => ∃ d ds, Dp K H x d ∧ Dp K H y (.tuple ds) ∧ SeqAt.shaped d = true ∧ SeqAt.shaped (.tuple ds) = true ∧ Q (.bl (ds.any fun z => PyData.eqv z d)) H
def rNotInTD (K : PySem.W.Frag) : R2 := fun x y H Q => ∃ d ds, Dp K H x d ∧ Dp K H y (.tuple ds) ∧ SeqAt.shaped d = true ∧ SeqAt.shaped (.tuple ds) = true ∧ Q (.bl (!ds.any fun z => PyData.eqv z d)) H
theorem op_inTD (hu : X.A.units + 65 < cLine) : OpR X (compareOp .In) (rInTD X.K) := by
  intro pins s σ H x y v u Q I rx ry h
  obtain ⟨d, ds, hd, he, sd, se, q⟩ := h
  obtain ⟨as, r1⟩ := Dp.reads I d x v hd rx
  obtain ⟨bs, r2⟩ := Dp.reads I (.tuple ds) y u he ry
  exact SeqAt.in_tuple_reads r2 r1 (by have := SeqAt.canLay_of_shaped se; simpa [PyData.canLay0] using this) (SeqAt.canLay_of_shaped sd) (room_in_shaped sd hu) ⟨.bl _, H, I, rfl, q⟩
theorem op_notInTD (hu : X.A.units + 65 < cLine) : OpR X (compareOp .NotIn) (rNotInTD X.K) := by
  intro pins s σ H x y v u Q I rx ry h
  obtain ⟨d, ds, hd, he, sd, se, q⟩ := h
  obtain ⟨as, r1⟩ := Dp.reads I d x v hd rx
  obtain ⟨bs, r2⟩ := Dp.reads I (.tuple ds) y u he ry
  exact SeqAt.notIn_tuple_reads r2 r1 (by have := SeqAt.canLay_of_shaped se; simpa [PyData.canLay0] using this) (SeqAt.canLay_of_shaped sd) (room_in_shaped sd hu) ⟨.bl _, H, I, rfl, q⟩
def rDIn (neg : Bool) : R2 := fun y x H Q => ∃ a o, x = .ref a ∧ DGet H a y o ∧ Q (.bl (if neg then !o.isSome else o.isSome)) H
theorem op_inDict (hu : X.A.units + 1 < cLine) : OpR X (compareOp .In) (rDIn false) := by
  intro pins s σ H y x iv u Q I ry rx h
  obtain ⟨a, ov, rfl, g, q⟩ := h
  obtain rfl : u = Value.ref a := rx
  exact d_in hu I g ry fun s3 I3 => ⟨.bl ov.isSome, H, I3, rfl, q⟩
theorem op_notInDict (hu : X.A.units + 1 < cLine) : OpR X (compareOp .NotIn) (rDIn true) := by
  intro pins s σ H y x iv u Q I ry rx h
  obtain ⟨a, ov, rfl, g, q⟩ := h
  obtain rfl : u = Value.ref a := rx
  exact d_notIn hu I g ry fun s3 I3 => ⟨.bl (!ov.isSome), H, I3, rfl, q⟩
def rInA (K : PySem.W.Frag) : R2 := fun x y H Q => rInD K x y H Q ∨ rInTD K x y H Q ∨ (∃ i j, x = .str i ∧ y = .str j ∧ Q (.bl (!(Builtin.Str.occurrences j i 0 j.length 1).isEmpty)) H) ∨ rDIn false x y H Q
def rNotInA (K : PySem.W.Frag) : R2 := fun x y H Q => rNotInD K x y H Q ∨ rNotInTD K x y H Q ∨ (∃ i j, x = .str i ∧ y = .str j ∧ Q (.bl (!(!(Builtin.Str.occurrences j i 0 j.length 1).isEmpty))) H) ∨ rDIn true x y H Q
theorem op_inA {n : Nat} (hr : Room n X.A) : OpR X (compareOp .In) (rInA X.K) := (op_inD (by have := hr.un; omega)).or ((op_inTD (by have := hr.un; omega)).or (op_in_str.or (op_inDict (hu_of hr))))
theorem op_notInA {n : Nat} (hr : Room n X.A) : OpR X (compareOp .NotIn) (rNotInA X.K) := (op_notInD (by have := hr.un; omega)).or ((op_notInTD (by have := hr.un; omega)).or (op_notin_str.or (op_notInDict (hu_of hr))))
theorem any_py (y : D) : ∀ l : List D, ((D.pyL l).any fun z => PyData.eqv z y.py) = l.any fun z => D.eq z y
  | [] => rfl
  | d :: l => by simp only [D.pyL, List.any_cons, any_py y l, D.eq]
theorem inV_cases {F : FZ} {M : Mp} {H : Hp} {y x : D} {v u : V} {k : Bool} (s : SR K F M H) (r1 : Rp K F y v) (r2 : Rp K F x u) (h : inV' M y x = some k) :
    (∃ d ds, Dp K H v d ∧ Dp K H u (.list ds) ∧ SeqAt.shaped d = true ∧ SeqAt.shaped (.list ds) = true ∧ k = ds.any fun z => PyData.eqv z d) ∨ (∃ d ds, Dp K H v d ∧ Dp K H u (.tuple ds) ∧ SeqAt.shaped d = true ∧ SeqAt.shaped (.tuple ds) = true ∧ k = ds.any fun z => PyData.eqv z d) ∨
      (∃ i j, v = .str i ∧ u = .str j ∧ k = (!(Builtin.Str.occurrences j i 0 j.length 1).isEmpty)) ∨ ∃ a o, u = .ref a ∧ DGet H a v o ∧ k = o.isSome := by
  cases r2 with
  | lst a b =>
    simp only [inV'] at h
    split at h
    · rename_i hok
      cases h
      have hp := Rp.dp (K := K) s.fz (.lst a b) hok.2
      simp only [D.py] at hp
      have sh := D.ok_shaped hok.2
      simp only [D.py] at sh
      exact .inl ⟨_, _, r1.dp s.fz hok.1, hp, D.ok_shaped hok.1, sh, by rw [any_py]⟩
    · cases h
  | tup a b =>
    simp only [inV'] at h
    split at h
    · rename_i hok
      cases h
      have hp := Rp.dp (K := K) s.fz (.tup a b) hok.2
      simp only [D.py] at hp
      have sh := D.ok_shaped hok.2
      simp only [D.py] at sh
      exact .inr (.inl ⟨_, _, r1.dp s.fz hok.1, hp, D.ok_shaped hok.1, sh, by rw [any_py]⟩)
    · cases h
  | kt a b =>
    simp only [inV'] at h
    split at h
    · rename_i hok
      cases h
      have hp := Rp.dp (K := K) s.fz (.kt a b) hok.2
      simp only [D.py] at hp
      have sh := D.ok_shaped hok.2
      simp only [D.py] at sh
      exact .inr (.inl ⟨_, _, r1.dp s.fz hok.1, hp, D.ok_shaped hok.1, sh, by rw [any_py]⟩)
    · cases h
  | str z =>
    simp only [inV'] at h
    split at h
    · cases r1
      cases h
      exact .inr (.inr (.inl ⟨_, _, rfl, rfl, rfl⟩))
    · cases h
  | ref p =>
    simp only [inV'] at h
    split at h
    · rename_i l hm
      split at h
      · rename_i hok
        cases h
        obtain ⟨w, h1, h2⟩ := s.mu p _ hm
        cases h2 with
        | lst b z =>
          have hp : Dp K H (.ref p) (D.lst l).py := by
            have hl : D.okL l 59 = true := by have := hok.2; simpa [D.ok] using this
            simp only [D.py]
            exact .lst (SqL.of h1) (RpL.dp s.fz b hl)
          simp only [D.py] at hp
          have sh := D.ok_shaped hok.2
          simp only [D.py] at sh
          exact .inl ⟨_, _, r1.dp s.fz hok.1, hp, D.ok_shaped hok.1, sh, by rw [any_py]⟩
      · cases h
    · obtain ⟨o, h1, h2⟩ := Option.map_eq_some_iff.mp h
      obtain ⟨o', g, c⟩ := dLook_get s r1 h1
      refine .inr (.inr (.inr ⟨p, o', rfl, g, ?_⟩))
      rcases c with ⟨z1, z2⟩ | ⟨d1, w, z1, z2, _⟩ <;> subst z1 z2 <;> exact h2.symm
  | dk a b =>
    simp only [inV'] at h
    obtain ⟨o, h1, h2⟩ := Option.map_eq_some_iff.mp h
    obtain ⟨p, o', ep, g, c⟩ := dkLook_get s (.dk a b) r1 h1
    refine .inr (.inr (.inr ⟨p, o', ep, g, ?_⟩))
    rcases c with ⟨z1, z2⟩ | ⟨d1, w, z1, z2, _⟩ <;> subst z1 z2 <;> exact h2.symm
  | dt a b =>
    simp only [inV'] at h
    obtain ⟨o, h1, h2⟩ := Option.map_eq_some_iff.mp h
    obtain ⟨p, o', ep, g, c⟩ := dkLook_get s (.dt a b) r1 h1
    refine .inr (.inr (.inr ⟨p, o', ep, g, ?_⟩))
    rcases c with ⟨z1, z2⟩ | ⟨d1, w, z1, z2, _⟩ <;> subst z1 z2 <;> exact h2.symm
  | _ => simp [inV'] at h
theorem l2_in : L2r K F0 (dIn false) (rInA K) := by
  intro F M H d e x y Q' Q e0 s r1 r2 q k
  obtain ⟨b, hb, q⟩ := q
  have kk := k F _ _ M H (FLe.refl F) s (.bl _) q
  rcases inV_cases s r1 r2 hb with ⟨d1, ds, h1, h2, h3, h4, h5⟩ | ⟨d1, ds, h1, h2, h3, h4, h5⟩ | ⟨i, j, h1, h2, h3⟩ | ⟨p, o, h1, h2, h3⟩
  · subst h5; exact .inl ⟨d1, ds, h1, h2, h3, h4, kk⟩
  · subst h5; exact .inr (.inl ⟨d1, ds, h1, h2, h3, h4, kk⟩)
  · subst h3; exact .inr (.inr (.inl ⟨i, j, h1, h2, kk⟩))
  · subst h3; exact .inr (.inr (.inr ⟨p, o, h1, h2, kk⟩))
theorem l2_notIn : L2r K F0 (dIn true) (rNotInA K) := by
  intro F M H d e x y Q' Q e0 s r1 r2 q k
  obtain ⟨b, hb, q⟩ := q
  have kk := k F _ _ M H (FLe.refl F) s (.bl _) q
  rcases inV_cases s r1 r2 hb with ⟨d1, ds, h1, h2, h3, h4, h5⟩ | ⟨d1, ds, h1, h2, h3, h4, h5⟩ | ⟨i, j, h1, h2, h3⟩ | ⟨p, o, h1, h2, h3⟩
  · subst h5; exact .inl ⟨d1, ds, h1, h2, h3, h4, kk⟩
  · subst h5; exact .inr (.inl ⟨d1, ds, h1, h2, h3, h4, kk⟩)
  · subst h3; exact .inr (.inr (.inl ⟨i, j, h1, h2, kk⟩))
  · subst h3; exact .inr (.inr (.inr ⟨p, o, h1, h2, kk⟩))
theorem de_in {n : Nat} (hr : Room n X.A) (ha : DE X F0 a ta ta') (hb : DE X F0 b tb tb') (hm : behindInMarks .In b = false := by rfl) : DE X F0 (.Compare a [.In] [b] pos) (tOp (rInA X.K) ta tb) (dOp (dIn false) ta' tb') := de_cmp (op_inA hr) l2_in ha hb hm
/-! ### + of lists, tuples, texts; slices -/
def dCat : DR2 := fun x y M Q => match x, y with
  | .int i, .int j => Q (.int (i + j)) M
  | .str i, .str j => i.length + j.length ≤ sizeLine ∧ Q (.str (i ++ j)) M
  | .tup l, .tup m => l.length + m.length ≤ sizeLine ∧ Q (.tup (l ++ m)) M
  | _, _ => False
def rCatX (K : PySem.W.Frag) : R2 := fun x y H Q => rI0 (fun i j => .int (i + j)) x y H Q ∨ (∃ i j, x = .str i ∧ y = .str j ∧ i.length + j.length ≤ sizeLine ∧ Q (.str (i ++ j)) H) ∨ rCatA K x y H Q
theorem op_catX : OpR X (binaryOp .Add) (rCatX X.K) := op_add.or (op_add_str.or op_catA)
theorem l2_cat : L2r K F0 dCat (rCatX K) := by
  intro F M H d e x y Q' Q e0 s r1 r2 q k
  unfold dCat at q
  split at q
  · cases r1; cases r2
    exact .inl ⟨_, _, rfl, rfl, k F _ _ M H (FLe.refl F) s (.int _) q⟩
  · cases r1; cases r2
    exact .inr (.inl ⟨_, _, rfl, rfl, q.1, k F _ _ M H (FLe.refl F) s (.str _) q.2⟩)
  · obtain ⟨hz, q⟩ := q
    cases r1 with
    | tup a1 b1 =>
      cases r2 with
      | tup a2 b2 =>
        rename_i xs _ ys
        have hz2 := hz
        rw [b1.length, b2.length] at hz2
        refine .inr (.inr ⟨_, _, _, _, rfl, rfl, s.sqT a1, s.sqT a2, hz2, fun e => ?_, fun h1 e => ?_, fun h1 h2 p hp => ?_⟩)
        · subst e
          cases b1
          exact k F _ _ M H (FLe.refl F) s (.tup a2 b2) q
        · subst e
          cases b2
          rw [List.append_nil] at q
          exact k F _ _ M H (FLe.refl F) s (.tup a1 b1) q
        · have e2 := same_upd (o := .tup (xs ++ ys)) (s.freeF hp)
          exact k _ _ _ _ _ e2 (s.newF hp (by show (xs ++ ys).length ≤ sizeLine; rw [List.length_append]; exact hz2)) (.tup upd_same ((b1.append b2).mono e2)) q
  · exact q.elim
theorem de_cat (ha : DE X F0 a ta ta') (hb : DE X F0 b tb tb') : DE X F0 (.BinOp a .Add b pos) (tOp (rCatX X.K) ta tb) (dOp dCat ta' tb') := de_op op_catX l2_cat ha hb
/-- the items of xs[lo:hi] -/
def cutD {α : Type} (xs : List α) (lo hi : Option Int) : List α := (xs.drop (HT.sIx xs.length 0 lo)).take (HT.sIx xs.length xs.length hi - HT.sIx xs.length 0 lo)
abbrev DTO := G → Mp → (Option Int → Mp → Prop) → Prop
def LO (K : PySem.W.Frag) (F0 : FZ) (t' : DTO) (t : TO) : Prop := ∀ (F : FZ) (γ : G) (M : Mp) (σ : L2.St) (H : Hp) (Q' : Option Int → Mp → Prop) (Q : Option Int → Hp → Prop), Bs F0 F → SR K F M H → GR K F γ σ → t' γ M Q' →
  (∀ F1 o M1 H1, FLe F F1 → SR K F1 M1 H1 → Q' o M1 → Q o H1) → t σ H Q
structure DO (X : Cx) (F0 : FZ) (e : Option Expr) (t : TO) (t' : DTO) : Prop where
  po : PO X e t
  le : LO X.K F0 t' t
def dNoPart : DTO := fun _ M Q => Q none M
def dPart (t : DTE) : DTO := fun γ M Q => t γ M fun x M1 => match x with
  | .int i => Q (some i) M1
  | _ => False
theorem do_none : DO X F0 none tNoPart dNoPart := ⟨po_none, fun F γ M σ H Q' Q e0 s g q k => k F none M H (FLe.refl F) s q⟩
theorem do_some (h : DE X F0 e te te') : DO X F0 (some e) (tPart te) (dPart te') := ⟨po_some h.pe, fun F γ M σ H Q' Q e0 s g q k => by
  refine h.le F γ M σ H _ _ e0 s g q fun F1 d1 v1 M1 H1 e1 s1 r1 q1 => ?_
  split at q1
  · cases r1
    exact ⟨_, rfl, k F1 _ M1 H1 e1 s1 q1⟩
  · exact q1.elim⟩
def dSl (te : DTE) (tl th : DTO) : DTE := fun γ M Q => te γ M fun x M1 => tl γ M1 fun l M2 => th γ M2 fun u M3 => match x with
  | .tup xs => Q (.tup (cutD xs l u)) M3
  | .lst xs => Q (.lst (cutD xs l u)) M3
  | .ls xs => Q (.lst (cutD xs l u)) M3
  | .ref p => (match M3 p with
    | some (.lst xs) => Q (.lst (cutD xs l u)) M3
    | _ => False)
  | _ => False
theorem cut_rp {F : FZ} {l : List D} {xs : List V} (r : RpL K F l xs) (lo hi : Option Int) : RpL K F (cutD l lo hi) (cutV xs lo hi) := by
  unfold cutD cutV
  rw [r.length]
  exact (r.drop _).take _
def rSlX' (K : PySem.W.Frag) : V → Option Int → Option Int → Hp → VK → Prop := fun x lo hi H Q => rSlA K x lo hi H Q ∨ rSlL K x lo hi H Q
theorem sl_X : SlR X (rSlX' X.K) := sl_tupA.or sl_list
theorem cutV_whole {xs : List V} {lo hi : Option Int} (h : HT.sIx xs.length 0 lo = 0 ∧ HT.sIx xs.length xs.length hi = xs.length) : cutV xs lo hi = xs := by
  unfold cutV
  rw [h.1, h.2]
  simp
theorem de_slice {lo hi : Option Expr} {tl th : TO} {tl' th' : DTO} {p2 : Pos} (he : DE X F0 e te te') (hl : DO X F0 lo tl tl') (hu : DO X F0 hi th th') : DE X F0 (.Subscript e (.Slice lo hi none p2) pos) (tSl (rSlX' X.K) te tl th) (dSl te' tl' th') := ⟨pe_slice sl_X he.pe hl.po hu.po, fun F γ M σ H Q' Q e0 s g q k => by
  refine he.le F γ M σ H _ _ e0 s g q fun F1 d1 v1 M1 H1 e1 s1 r1 q1 => ?_
  refine hl.le F1 γ M1 σ H1 _ _ (e0.tr e1) s1 (g.mono e1) q1 fun F2 l M2 H2 e2 s2 q2 => ?_
  refine hu.le F2 γ M2 σ H2 _ _ ((e0.tr e1).tr e2) s2 (g.mono (e1.trans e2)) q2 fun F3 u M3 H3 e3 s3 q3 => ?_
  have r3 := r1.mono (e2.trans e3)
  have ee := (e1.trans e2).trans e3
  split at q3
  · cases r3 with
    | tup a b =>
      rename_i xs
      refine .inl ⟨_, xs, rfl, s3.sqT a, fun w => ?_, fun w p hp => ?_⟩
      · have hc := cut_rp b l u
        rw [cutV_whole w] at hc
        exact k F3 _ _ M3 H3 ee s3 (.tup a hc) q3
      · have e4 := same_upd (o := .tup (cutV xs l u)) (s3.freeF hp)
        exact k _ _ _ _ _ (ee.trans e4) (s3.newF hp (Nat.le_trans (cutV_length xs l u) (s3.lenT a))) (.tup upd_same ((cut_rp b l u).mono e4)) q3
  · cases r3 with
    | lst a b =>
      rename_i xs
      refine .inr ⟨_, xs, rfl, (SqL.of (s3.fz _ _ a)), fun p hp => ?_⟩
      have e4 := same_upd (o := .lst (cutV xs l u)) (s3.freeF hp)
      exact k _ _ _ _ _ (ee.trans e4) (s3.newF hp (Nat.le_trans (cutV_length xs l u) (s3.lenL (SqL.of a)))) (.lst upd_same ((cut_rp b l u).mono e4)) q3
  · cases r3 with
    | ls a b =>
      rename_i xs
      refine .inr ⟨_, xs, rfl, s3.fz.seq a, fun p hp => ?_⟩
      have e4 := same_upd (o := .lst (cutV xs l u)) (s3.freeF hp)
      exact k _ _ _ _ _ (ee.trans e4) (s3.newF hp (Nat.le_trans (cutV_length xs l u) (s3.lenL a))) (.lst upd_same ((cut_rp b l u).mono e4)) q3
  · cases r3
    split at q3
    · rename_i hm
      obtain ⟨w, h1, h2⟩ := s3.mu _ _ hm
      cases h2 with
      | lst b z =>
        rename_i xs
        refine .inr ⟨_, xs, rfl, SqL.of h1, fun p hp => ?_⟩
        have e4 := same_upd (o := .lst (cutV xs l u)) (s3.freeF hp)
        exact k _ _ _ _ _ (ee.trans e4) (s3.newF hp (Nat.le_trans (cutV_length xs l u) z)) (.lst upd_same ((cut_rp b l u).mono e4)) q3
    · exact q3.elim
  · exact q3.elim⟩
/-! ### new dicts -/
def dNewT : DTE := fun _ M Q => ∀ p, M p = none → Q (.ref p) (mset M p (.dT []))
theorem de_newT : DE X F0 (.Dict [] [] pos) tDNewT dNewT := ⟨pe_dnewT, fun F γ M σ H Q' Q e0 s g q k p hp => k F _ _ _ _ (FLe.refl F) (s.putN hp (.dT .nil (by simp) (fun _ h => by cases h))) (.ref p) (q p (s.freeM hp))⟩
end
end DL

set_option maxRecDepth 100000
set_option maxHeartbeats 2000000
namespace DL
open PySem PySem.Spec PyProof.Rows L2

/-! ### instances -/
def putD (f : Str) (v : D) : List (Str × D) → List (Str × D)
  | [] => [(f, v)]
  | (g, u) :: fs => if g = f then (g, v) :: fs else (g, u) :: putD f v fs
section
variable {K : PySem.W.Frag} {F : FZ} {M : Mp} {H : Hp}
theorem kvr_lookup {f : Str} {d : D} : ∀ {l : List (Str × D)} {m : List (Str × V)}, KVR K F l m → l.lookup f = some d → ∃ v, m.lookup f = some v ∧ Rp K F d v
  | _, _, .nil, h => by cases h
  | (g, e) :: l, (g2, v) :: m, .cons r t, h => by
    obtain ⟨e1, r⟩ := r
    simp only at e1 r
    subst e1
    rw [List.lookup_cons] at h ⊢
    cases hb : f == g with
    | true => rw [hb] at h; cases h; exact ⟨v, rfl, r⟩
    | false => rw [hb] at h; exact kvr_lookup t h
theorem kvr_putD {f : Str} {d : D} {v : V} (r : Rp K F d v) : ∀ {l : List (Str × D)} {m : List (Str × V)}, KVR K F l m → KVR K F (putD f d l) (putF f v m)
  | _, _, .nil => .cons ⟨rfl, r⟩ .nil
  | (g, e) :: l, (g2, u) :: m, .cons q t => by
    obtain ⟨e1, q⟩ := q
    simp only at e1 q
    subst e1
    show KVR K F (if g = f then (g, d) :: l else (g, e) :: putD f d l) (if g = f then (g, v) :: m else (g, u) :: putF f v m)
    by_cases h : g = f
    · rw [if_pos h, if_pos h]
      exact .cons ⟨rfl, r⟩ t
    · rw [if_neg h, if_neg h]
      exact .cons ⟨rfl, q⟩ (kvr_putD r t)
theorem SR.ins (s : SR K F M H) {p C : Addr} {fs : List (Str × D)} (h : M p = some (.ins C fs)) : ∃ dx gs, H p = some (.ins C dx gs) ∧ KVR K F fs gs := by
  obtain ⟨u, h1, h2⟩ := s.mu p _ h
  cases h2 with
  | ins r => exact ⟨_, _, h1, r⟩
end
section
variable {X : Cx} {K : PySem.W.Frag} {F0 : FZ} {e o value : Expr} {es : List Expr} {te to tv : TE} {te' to' tv' : DTE} {t : TA} {t' : DTA} {f : Str} {p pos pos' : Pos} {C : Addr}
def dFld (C : Addr) (ta : DTE) (f : Str) : DTE := fun γ M Q => ta γ M fun x M1 => match x with
  | .ref p => (match M1 p with
    | some (.ins C' fs) => C' = C ∧ ∃ d, fs.lookup f = some d ∧ Q d M1
    | _ => False)
  | _ => False
theorem de_fld (T : Cls X.K C) (n : NoAttr X.K C f) (he : DE X F0 e te te') (hb : attributeBase e f X.env (eval e X.env) = eval e X.env := by rfl) : DE X F0 (.Attribute e f pos) (tFld X.K te f) (dFld C te' f) := ⟨pe_fld he.pe hb, fun F γ M σ H Q' Q e0 s g q k => by
  refine he.le F γ M σ H _ _ e0 s g q fun F1 d1 v1 M1 H1 e1 s1 r1 q1 => ?_
  split at q1
  · rename_i p
    split at q1
    · rename_i C' fs hm
      obtain ⟨rfl, d, hl, q1⟩ := q1
      obtain ⟨dx, gs, h1, h2⟩ := s1.ins hm
      obtain ⟨v, hv, rv⟩ := kvr_lookup h2 hl
      cases r1
      exact ⟨p, C', dx, gs, v, rfl, h1, T, n, hv, k F1 d v M1 H1 e1 s1 rv q1⟩
    · exact q1.elim
  · exact q1.elim⟩
def dFldS (C : Addr) (ta tv : DTE) (f : Str) : DTS := fun D0 γ M => tv γ M fun y M1 => ta γ M1 fun x M2 => match x with
  | .ref p => (match M2 p with
    | some (.ins C' fs) => C' = C ∧ fs.length < 1000 ∧ D0.nx γ (mset M2 p (.ins C (putD f y fs)))
    | _ => False)
  | _ => False
theorem ds_fld (T : Cls X.K C) (n : NoAttr X.K C f) (ho : DE X F0 o to to') (hv : DE X F0 value tv tv') (hs : swapsWith value (some (.Attribute o f pos')) pos.line X.env = pure false := by rfl) : DS X F0 (.Assign [.Attribute o f pos'] value pos) (sFld X.K to tv f) (dFldS C to' tv' f) := ⟨ps_fld ho.pe hv.pe hs, fun F γ M σ H D' D0 e0 s g q er => by
  refine hv.le F γ M σ H _ _ e0 s g q fun F1 d1 v1 M1 H1 e1 s1 r1 q1 => ?_
  refine ho.le F1 γ M1 σ H1 _ _ (e0.tr e1) s1 (g.mono e1) q1 fun F2 d2 v2 M2 H2 e2 s2 r2 q2 => ?_
  split at q2
  · rename_i p
    split at q2
    · rename_i C' fs hm
      obtain ⟨rfl, hl, q2⟩ := q2
      obtain ⟨dx, gs, h1, h2⟩ := s2.ins hm
      cases r2
      exact ⟨p, C', dx, gs, rfl, h1, T, n, by rw [← kvr_len h2]; exact hl, er.nx F2 γ _ σ _ (e1.trans e2) (s2.putM hm (.ins (kvr_putD (r1.mono e2) h2))) (g.mono (e1.trans e2)) q2⟩
    · exact q2.elim
  · exact q2.elim⟩
def dMake (C : Addr) (sp : DSp) (E : DXK) (t : DTA) : DTE := fun γ M Q => t γ M fun ds M1 => ∀ p, M1 p = none → sp (.ref p :: ds) (mset M1 p (.ins C [])) (fun v M2 => v = .non ∧ Q (.ref p) M2) E
/-- a class as it is called -/
structure DMk (P : Program) (w : World) (K : PySem.W.Frag) (mg : Str → Option Value) (base : Heap) (CX : CXT) (k : Nat) (x : Str) (C : Addr) (sp : DSp) : Prop where
  ex : ∃ f fd ps, FnOk P w K mg base CX k f fd ps (liftSp K sp) ∧ mg x = some (.ref C) ∧ Mk K C f ∧ Binds K fd ps []
theorem le_make {sp : DSp} {E : DXK} (ha : LA K F0 t' t) : LE K F0 (dMake C sp E t') (tMake C (liftSp K sp) [] (lXa K E) t) := by
  intro F γ M σ H Q' Q e0 s g q k
  refine ha F γ M σ H _ _ e0 s g q fun F1 ds vs M1 H1 e1 s1 r1 q1 => ?_
  intro x dx hx hdx hne
  have s2 := s1.other (o := .own x) hdx
  have hx2 : (upd H1 dx (.own x)) x = none := by rw [upd_ne (Ne.symm hne)]; exact hx
  have s3 := s2.putN (o := .ins C []) (u := .ins C dx []) hx2 (.ins .nil)
  rw [List.append_nil]
  refine ⟨F1, .ref x :: ds, _, _, E, s3, .cons (.ref x) r1, q1 x (s1.freeM hx), fun F2 d v M2 H2 e2 s2 r2 q2 => ?_, fun c d H1 h => ⟨F1, h⟩⟩
  obtain ⟨rfl, q2⟩ := q2
  cases r2
  exact ⟨rfl, k F2 _ _ M2 H2 (e1.trans e2) s2 (.ref x) q2⟩
theorem de_make {CX : CXT} {k j : Nat} {x : Str} {sp : DSp} {E : DXK} (c : DMk X.prog X.w X.K X.mg X.base CX k x C sp) (hr : Room j X.A) (hx : GoesA CX X E) (ha : DA X F0 (e :: es) t t') (hk : k + 1 ≤ j := by decide) (hg : Gl X x := by rfl)
    (hdb : (x == ("__debug__" : Str)) = false := by decide) (he : starEach (e :: es) X.env = (false, eval e X.env) :: starEach es X.env := by rfl) (hpl : (backTo pos (starEach es X.env)).any (·.1) = false := by rfl) :
    DE X F0 (.Call (.Name x p) (e :: es) [] pos) (tMake C (liftSp X.K sp) [] (lXa X.K E) t) (dMake C sp E t') := by
  obtain ⟨f, fd, ps, G, hm, mk, hb⟩ := c.ex
  exact ⟨pe_make mk G (hr.mono hk) hg hm hb .nil hx.p ha.pa hdb he hpl, le_make ha.le⟩
/-- a property of a class -/
structure DPr (P : Program) (w : World) (K : PySem.W.Frag) (mg : Str → Option Value) (base : Heap) (k : Nat) (C : Addr) (f : Str) (sp : DSp) : Prop where
  ex : ∃ pa g fd ps, FnOk P w K mg base CX0 k g fd ps (liftSp K sp) ∧ PropOf K C f pa g ∧ Binds K fd ps []
end
section
variable {P : Program} {w : World} {K : PySem.W.Frag} {mg : Str → Option Value} {base : Heap}
/-- a method of the text -/
structure DMet (K : PySem.W.Frag) (x qual : Str) (st : Stmt) (f : Addr) (ps : List Str) : Prop where
  ex : ∃ fd, Fun K x qual st f fd ∧ Binds K fd ps []
theorem dokM {x qual : Str} {st : Stmt} {f : Addr} {N ps : List Str} {k : Nat} {sp : DSp} (F : DMet K x qual st f ps) (S : FnScope N ps (defScope st)) (len : ∀ ds M Q E, sp ds M Q E → ds.length = ps.length)
    (hbody : ∀ (cdv : Value) (A : Around) (outer : List Env) (s : Shared) (H : Hp) (E : XK) (F0 : FZ), Room k (A.deeper (envOfC qual (defScope st) s.heap.objs.size f cdv)) →
      ∃ t t', DB (cxOf CX0 P w K mg base N qual (defScope st) f cdv A outer s H E).nox F0 (defBody st) t t' ∧ ∀ ds M Q' E', sp ds M Q' E' → t' { nx := fun _ M1 => fin Q' .non M1, rt := fin Q' } (dstart N ds) M) :
    ∃ fd, FnOk P w K mg base CX0 (k + 1) f fd ps (liftSp K sp) ∧ Binds K fd ps [] := by
  obtain ⟨fd, G, hb⟩ := F.ex
  refine ⟨fd, ?_, hb⟩
  refine G.ok S (fun vs H Q E h => ?_) (fun cdv A outer s H vs Q E hr h => ?_)
  · obtain ⟨F, ds, M, Q', E', _, r, q, _⟩ := h
    rw [← r.length]; exact len _ _ _ _ q
  · obtain ⟨F, ds, M, Q', E', s1, r, q, kq, _⟩ := h
    obtain ⟨t, t', d, h⟩ := hbody cdv A outer s H E F hr
    refine ⟨t, d.ps, d.le F (dstart N ds) M (L2.start N vs) H { nx := fun _ M1 => fin Q' .non M1, rt := fin Q' } { nx := fun _ H' => Q .non H', rt := Q } (Bs.refl _) s1 (gr_start r) (h ds M Q' E' q) ⟨?_, ?_, fun _ _ _ _ _ _ _ _ z => z.elim, fun _ _ _ _ _ _ _ _ z => z.elim⟩⟩
    · rintro F1 γ1 M1 σ1 H1 e1 s1 g1 ⟨M2, l, q⟩
      exact kq F1 .non .non M2 H1 e1 (s1.less l) .non q
    · rintro F1 d1 v1 M1 H1 e1 s1 r1 ⟨M2, l, q⟩
      exact kq F1 d1 v1 M2 H1 e1 (s1.less l) r1 q
end

/-! ### the law's own promise -/
def spLaw : DSp := fun ds M Q _ => ∃ ns : List Int, ds = [.ls (ns.map .int)] ∧ ns.length ≤ 63 ∧ (∀ a, M a = none) ∧ ∀ M', Q (.bl true) M'
theorem law_sp {K : PySem.W.Frag} {H : Hp} {a : Addr} {ns : List Int} (hl : ns.length ≤ 63) (h : SqL K H a (ns.map V.int)) : liftSp K spLaw [.ref a] H (fun v _ => v = .bl true) fun _ _ _ => False := by
  have hz : (ns.map V.int).length ≤ sizeLine := by rw [List.length_map, sizeLine_eq]; omega
  have none_ok : ∀ (f : Hp), Same f H → (∀ b o, f b = some o → FzO o) → SR K ⟨f, fun _ => none, fun _ => none⟩ (fun _ => none) H := fun f e ok => ⟨e, ok, fun _ _ z => (by cases z), fun _ _ z => (by cases z), fun _ _ z => (by cases z), fun _ _ z => (by cases z), fun _ _ z => (by cases z), fun _ _ z => (by cases z)⟩
  have fin : ∀ f : Hp, SR K ⟨f, fun _ => none, fun _ => none⟩ (fun _ => none) H → SqL K f a (ns.map V.int) → liftSp K spLaw [.ref a] H (fun v _ => v = .bl true) fun _ _ _ => False := fun f s hq =>
    ⟨⟨f, fun _ => none, fun _ => none⟩, [.ls (ns.map .int)], fun _ => none, fun d _ => d = .bl true, DXK.no, s, .cons (.ls hq (RpL.ofInt ns)) .nil, ⟨ns, rfl, hl, fun _ => rfl, fun _ => rfl⟩, fun F1 d v M1 H1 e s r q => by subst q; cases r; rfl, fun c d H1 ⟨_, _, _, _, _, _, z⟩ => z⟩
  have one : ∀ o, H a = some o → FzO o → SqL K (fun b => if b = a then some o else none) a (ns.map V.int) → liftSp K spLaw [.ref a] H (fun v _ => v = .bl true) fun _ _ _ => False := fun o ho ok hq =>
    fin _ (none_ok _ (fun b u z => by
      by_cases hb : b = a
      · rw [if_pos hb] at z; cases z; rw [hb]; exact ho
      · rw [if_neg hb] at z; cases z) fun b u z => by
      by_cases hb : b = a
      · rw [if_pos hb] at z; cases z; exact ok
      · rw [if_neg hb] at z; cases z) hq
  rcases h with (h | ⟨o, h⟩) | h
  · exact one _ h hz (.inl (.inl (if_pos rfl)))
  · exact one _ h hz (.inl (.inr ⟨o, if_pos rfl⟩))
  · exact fin (fun _ => none) (none_ok _ (fun _ _ z => (by cases z)) fun _ _ z => (by cases z)) (.inr h)
end DL

set_option maxRecDepth 100000
set_option maxHeartbeats 2000000
namespace DL
open PySem PySem.Spec PyProof.Rows L2

section
variable {X : Cx} {K : PySem.W.Frag} {F0 : FZ} {a b e o i value : Expr} {ta tb te : TE} {ta' tb' te' : DTE} {pos : Pos} {n : Nat}
/-! ### comparisons as tests -/
theorem dt_lt (ha : DE X F0 a ta ta') (hb : DE X F0 b tb tb') : DT X F0 (.Compare a [.Lt] [b] pos) (tTest (tOp (rI0 fun i j => .bl (decide (i < j))) ta tb)) (dTest (dOp (dII fun i j => .bl (decide (i < j))) ta' tb')) := dt_cmp op_lt (l2_II fun _ _ _ => .bl _) ha hb (nomark _)
theorem dt_gt (ha : DE X F0 a ta ta') (hb : DE X F0 b tb tb') : DT X F0 (.Compare a [.Gt] [b] pos) (tTest (tOp (rI0 fun i j => .bl (decide (j < i))) ta tb)) (dTest (dOp (dII fun i j => .bl (decide (j < i))) ta' tb')) := dt_cmp op_gt (l2_II fun _ _ _ => .bl _) ha hb (nomark _)
theorem dt_ge (ha : DE X F0 a ta ta') (hb : DE X F0 b tb tb') : DT X F0 (.Compare a [.GtE] [b] pos) (tTest (tOp (rI0 fun i j => .bl (decide (j ≤ i))) ta tb)) (dTest (dOp (dII fun i j => .bl (decide (j ≤ i))) ta' tb')) := dt_cmp op_ge (l2_II fun _ _ _ => .bl _) ha hb (nomark _)
theorem dt_eq (hr : Room n X.A) (ha : DE X F0 a ta ta') (hb : DE X F0 b tb tb') : DT X F0 (.Compare a [.Eq] [b] pos) (tTest (tOp (rEqD X.K) ta tb)) (dTest (dOp (dEq false) ta' tb')) := dt_cmp (op_eqD hr.units) l2_eq ha hb (nomark _)
theorem dt_ne (hr : Room n X.A) (ha : DE X F0 a ta ta') (hb : DE X F0 b tb tb') : DT X F0 (.Compare a [.NotEq] [b] pos) (tTest (tOp (rNeD X.K) ta tb)) (dTest (dOp (dEq true) ta' tb')) := dt_cmp (op_neD hr.units) l2_ne ha hb (nomark _)
theorem dt_in (hr : Room n X.A) (ha : DE X F0 a ta ta') (hb : DE X F0 b tb tb') (hm : behindInMarks .In b = false := by rfl) : DT X F0 (.Compare a [.In] [b] pos) (tTest (tOp (rInA X.K) ta tb)) (dTest (dOp (dIn false) ta' tb')) := dt_cmp (op_inA hr) l2_in ha hb hm
theorem dt_notIn (hr : Room n X.A) (ha : DE X F0 a ta ta') (hb : DE X F0 b tb tb') (hm : behindInMarks .NotIn b = false := by rfl) : DT X F0 (.Compare a [.NotIn] [b] pos) (tTest (tOp (rNotInA X.K) ta tb)) (dTest (dOp (dIn true) ta' tb')) := dt_cmp (op_notInA hr) l2_notIn ha hb hm

/-! ### o[i] = e, o[i] op= e -/
theorem ds_put {to ti : TE} {to' ti' : DTE} {pos' : Pos} (hr : Room n X.A) (ho : DE X F0 o to to') (hi : DE X F0 i ti ti') (he : DE X F0 e te te') (hs : swapsWithSole [.Subscript o i pos'] e pos.line X.env = pure false := by rfl) (hw : swappedStores [.Subscript o i pos'] e X.env = pure none := by rfl)
    (h1 : (assignEach [.Subscript o i pos'] X.env).map (·.2) = [assign (.Subscript o i pos') X.env] := by rfl)
    (ha : ∀ v, assign (.Subscript o i pos') X.env v = (do
      let ov ← holding [v] (eval o X.env); let iv ← holding [v, ov] (eval i X.env)
      standAt pos'; holding [v, ov, iv] (setItem ov iv v); release [v, ov, iv] []) := by intro _; rfl) : DS X F0 (.Assign [.Subscript o i pos'] e pos) (tAsg te (gSub to ti rSetAny)) (dAsg te' (hSub to' ti' dSet)) := ds_asg he (dg_sub' hr ho hi ha) hs hw h1
end

/-! ### comprehensions to be changed -/
theorem SR.own {K : PySem.W.Frag} {F : FZ} {M : Mp} {H : Hp} (s : SR K F M H) {p : Addr} {o : MO} {u : HO} (hf : F.f p = none) (hp : F.p p = none) (hd : F.d p = none) (h : H p = some u) (r : MR K F o u) : SR K F (mset M p o) H := by
  have e : upd H p u = H := by
    funext b
    by_cases hb : b = p
    · subst hb; rw [upd_same, h]
    · rw [upd_ne hb]
  have := s.put hf hp hd r
  rwa [e] at this
section
variable {X : Cx} {K : PySem.W.Frag} {F0 : FZ}
end

/-! ### dict displays -/
abbrev DPP := G → Mp → (List (Key × D) → Mp → Prop) → Prop
def LPP (K : PySem.W.Frag) (F0 : FZ) (t' : DPP) (trs : List (TE × TE)) : Prop := ∀ (F : FZ) (γ : G) (M : Mp) (σ : L2.St) (H : Hp) (Q' : List (Key × D) → Mp → Prop) (Q : List (V × V) → Hp → Prop), Bs F0 F → SR K F M H → GR K F γ σ → t' γ M Q' →
  (∀ F1 l m M1 H1, FLe F F1 → SR K F1 M1 H1 → KVR K F1 l m → Q' l M1 → Q (m.map fun kv => (kV kv.1, kv.2)) H1) → tPairs trs σ H Q
structure DPPs (X : Cx) (F0 : FZ) (pos : Pos) (keys : List (Option Expr)) (values : List Expr) (trs : List (TE × TE)) (t' : DPP) : Prop where
  pp : PPs X pos keys values trs
  le : LPP X.K F0 t' trs
def dppNil : DPP := fun _ M Q => Q [] M
def dppCons (tk tv : DTE) (r : DPP) : DPP := fun γ M Q => tk γ M fun x M1 => ∃ k, keyOf x = some k ∧ tv γ M1 fun y M2 => r γ M2 fun l M3 => Q ((k, y) :: l) M3
section
variable {X : Cx} {K : PySem.W.Frag} {F0 : FZ} {pos : Pos}
theorem dpp_nil : DPPs X F0 pos [] [] [] dppNil := ⟨pps_nil, fun F γ M σ H Q' Q e0 s g q k => k F [] [] M H (FLe.refl F) s .nil q⟩
theorem dpp_cons {k v : Expr} {ks : List (Option Expr)} {vs : List Expr} {tk tv : TE} {tk' tv' : DTE} {trs : List (TE × TE)} {r' : DPP} (hk : DE X F0 k tk tk') (hv : DE X F0 v tv tv') (hr : DPPs X F0 pos ks vs trs r') : DPPs X F0 pos (some k :: ks) (v :: vs) ((tk, tv) :: trs) (dppCons tk' tv' r') := ⟨pps_cons hk.pe hv.pe hr.pp, fun F γ M σ H Q' Q e0 s g q kk => by
  refine hk.le F γ M σ H _ _ e0 s g q fun F1 d1 v1 M1 H1 e1 s1 r1 q1 => ?_
  obtain ⟨k, hk, q1⟩ := q1
  refine hv.le F1 γ M1 σ H1 _ _ (e0.tr e1) s1 (g.mono e1) q1 fun F2 d2 v2 M2 H2 e2 s2 r2 q2 => ?_
  refine hr.le F2 γ M2 σ H2 _ _ ((e0.tr e1).tr e2) s2 (g.mono (e1.trans e2)) q2 fun F3 l m M3 H3 e3 s3 r3 q3 => ?_
  have hx := keyOf_rp r1 hk
  subst hx
  exact kk F3 ((k, d2) :: l) ((k, v2) :: m) M3 H3 ((e1.trans e2).trans e3) s3 (.cons ⟨rfl, r2.mono e3⟩ r3) q3⟩
def dMerge : List (Key × D) → List (Key × D) → List (Key × D)
  | l, [] => l
  | l, (k, d) :: r => dMerge (dput l k d) r
theorem kvr_merge {F : FZ} : ∀ {l' : List (Key × D)} {m' : List (Key × V)} {l : List (Key × D)} {m : List (Key × V)}, KVR K F l m → KVR K F l' m' → KVR K F (dMerge l l') (mergeK m m')
  | _, _, _, _, h, .nil => h
  | (k, d) :: l', (k2, v) :: m', l, m, h, .cons q t => by
    obtain ⟨e, q⟩ := q
    simp only at e q
    subst e
    show KVR K F (dMerge (dput l k d) l') (mergeK (putK m k v) m')
    exact kvr_merge (kvr_put q h) t
def dDisp (t : DPP) : DTE := fun γ M Q => ∀ p, M p = none → t γ M fun l M2 => M2 p = none → l.length ≤ 15 ∧ Q (.ref p) (mset M2 p (.dK (dMerge [] l)))
theorem de_disp {keys : List (Option Expr)} {values : List Expr} {trs : List (TE × TE)} {t' : DPP} (h : DPPs X F0 pos keys values trs t') (hall : keys.all (·.isSome) = true := by rfl) (hl : keys.length = values.length := by rfl) (h0 : keys ≠ [] := by exact fun h => nomatch h)
    (h15 : keys.length ≤ 15 := by decide) : DE X F0 (.Dict keys values pos) (tDisp trs) (dDisp t') := ⟨pe_disp h.pp hall hl h0 h15, fun F γ M σ H Q' Q e0 s g q k => by
  intro p hp
  have hF := s.freeF hp
  have hM := s.freeM hp
  have hP := s.freeP hp
  have s1 := (s.other (o := .dK []) hp)
  have sh := s1.hide hF hM upd_same (fun _ z => by cases z) (fun u e => by rw [s.freeD hp] at e; cases e)
  refine h.le (F.hide p (.dK [])) γ M σ _ _ _ ⟨e0.f, e0.p.trans fun b o h => (upd_ne (ne_of_none h hP)).trans h⟩ sh (GR.monoS (F := F) (F' := F.hide p (.dK [])) (Sm.rfl' (F := F)) g) (q p hM) fun F1 l m M1 H1 e1 s2 r2 q2 => ?_
  have hdn : F1.d p = none := s2.hidD (o := .dK []) (by rw [e1.e]; exact upd_same) (fun _ _ z => nomatch z)
  obtain ⟨z1, z2, z3, z4⟩ := s2.unhide (u := .dK (mergeK [] m)) (o := .dK []) (q := F.p) (by rw [e1.e]; rfl) hP
  obtain ⟨h15, q2⟩ := q2 z4
  refine ⟨z2, m, rfl, by rw [← kvr_len r2]; exact h15, ?_⟩
  have hz : (mergeK [] m).length ≤ sizeLine := by
    have := length_mergeK m []
    rw [List.length_nil, ← kvr_len r2] at this
    rw [sizeLine_eq]; omega
  have r3 : KVR X.K ⟨F1.f, F.p, F1.d⟩ (dMerge [] l) (mergeK [] m) := kvr_merge .nil (r2.monoS (F := F1) (F' := ⟨F1.f, F.p, F1.d⟩) Sm.rfl')
  exact k ⟨F1.f, F.p, F1.d⟩ (.ref p) (.ref p) _ _ ⟨e1.s, rfl⟩ (z1.own (o := .dK (dMerge [] l)) z3 hP hdn upd_same (.dK r3 hz)) (.ref p) q2⟩
end

/-! ### lists: +, *, clear, extend -/
def lstOf (M : Mp) : D → Option (List D)
  | .lst l => some l
  | .ref p => (match M p with
    | some (.lst l) => some l
    | _ => none)
  | _ => none
section
variable {X : Cx} {K : PySem.W.Frag} {F0 : FZ} {a b e o : Expr} {ta tb te to : TE} {ta' tb' te' to' : DTE} {pos apos cpos : Pos}
theorem lst_of {F : FZ} {M : Mp} {H : Hp} {d : D} {v : V} {l : List D} (s : SR K F M H) (r : Rp K F d v) (h : lstOf M d = some l) : ∃ p xs, v = .ref p ∧ H p = some (.lst xs) ∧ RpL K F l xs ∧ xs.length ≤ sizeLine := by
  cases r with
  | lst a b => simp only [lstOf, Option.some.injEq] at h; subst h; exact ⟨_, _, rfl, s.fz _ _ a, b, s.ok _ _ a⟩
  | ref p =>
    simp only [lstOf] at h
    split at h
    · rename_i hm
      cases h
      obtain ⟨u, h1, h2⟩ := s.mu p _ hm
      cases h2 with
      | lst b z => exact ⟨_, _, rfl, h1, b, z⟩
    · cases h
  | _ => simp [lstOf] at h
def dCatL : DR2 := fun x y M Q => ∃ l m, lstOf M x = some l ∧ lstOf M y = some m ∧ l.length + m.length ≤ sizeLine ∧ Q (.lst (l ++ m)) M
theorem l2_catL : L2r K F0 dCatL rCat := by
  intro F M H d e x y Q' Q e0 s r1 r2 q k
  obtain ⟨l, m, h1, h2, hz, q⟩ := q
  obtain ⟨p1, xs, rfl, a1, b1, _⟩ := lst_of s r1 h1
  obtain ⟨p2, ys, rfl, a2, b2, _⟩ := lst_of s r2 h2
  rw [b1.length, b2.length] at hz
  refine ⟨p1, p2, xs, ys, rfl, rfl, a1, a2, hz, fun p hp => ?_⟩
  have e2 := same_upd (o := .lst (xs ++ ys)) (s.freeF hp)
  exact k _ _ _ _ _ e2 (s.newF hp (by show (xs ++ ys).length ≤ sizeLine; rw [List.length_append]; exact hz)) (.lst upd_same ((b1.append b2).mono e2)) q
theorem de_catL (ha : DE X F0 a ta ta') (hb : DE X F0 b tb tb') : DE X F0 (.BinOp a .Add b pos) (tOp rCat ta tb) (dOp dCatL ta' tb') := de_op op_cat l2_catL ha hb
/-! ### sorted, list(range(..)) -/
theorem de_sortI {t : TA} {t' : DTA} {p : Pos} (hm : X.mg "sorted" = none) (ha : DA X F0 [e] t t') (hc : X.calm = true := by rfl) (hg : Gl X "sorted" := by rfl) (he : starEach [e] X.env = (false, eval e X.env) :: starEach [] X.env := by rfl) : DE X F0 (.Call (.Name "sorted" p) [e] [] pos) (tCB (rSortedI X.K) t) (dCB dSortI t') :=
  de_blt cr_sortedI lc_sortI hm ha (by decide +kernel) hg (by decide) (by decide) he rfl
theorem de_sortP {t : TA} {t' : DTA} {p : Pos} (hm : X.mg "sorted" = none) (ha : DA X F0 [e] t t') (hc : X.calm = true := by rfl) (hg : Gl X "sorted" := by rfl) (he : starEach [e] X.env = (false, eval e X.env) :: starEach [] X.env := by rfl) : DE X F0 (.Call (.Name "sorted" p) [e] [] pos) (tCB (rSortedPO X.K) t) (dCB dSortP t') :=
  de_blt cr_sortedPO lc_sortP hm ha (by decide +kernel) hg (by decide) (by decide) he rfl
abbrev DRg := G → Mp → (Int → Int → Mp → Prop) → Prop
structure DR (X : Cx) (F0 : FZ) (e : Expr) (t : L2.St → Hp → (Int → Int → Hp → Prop) → Prop) (t' : DRg) : Prop where
  pr : PRg X e t
  le : ∀ (F : FZ) (γ : G) (M : Mp) (σ : L2.St) (H : Hp) (Q' : Int → Int → Mp → Prop) (Q : Int → Int → Hp → Prop), Bs F0 F → SR X.K F M H → GR X.K F γ σ → t' γ M Q' → (∀ F1 i j M1 H1, FLe F F1 → SR X.K F1 M1 H1 → Q' i j M1 → Q i j H1) → t σ H Q
def dRg1 (ta : DTE) : DRg := fun γ M Q => ta γ M fun x M1 => match x with
  | .int n => Q 0 n M1
  | _ => False
theorem drg_1 {p : Pos} (hm : X.mg "range" = none) (ha : DE X F0 a ta ta') (hg : Gl X "range" := by rfl) (na : starEach [a] X.env = (false, eval a X.env) :: starEach [] X.env := by rfl) : DR X F0 (.Call (.Name "range" p) [a] [] pos) (tRg1 ta) (dRg1 ta') := ⟨prg_1 hg hm ha.pe na, fun F γ M σ H Q' Q e0 s g q k => by
  refine ha.le F γ M σ H _ _ e0 s g q fun F1 d1 v1 M1 H1 e1 s1 r1 q1 => ?_
  split at q1
  · cases r1
    exact ⟨_, rfl, k F1 _ _ M1 H1 e1 s1 q1⟩
  · exact q1.elim⟩
def rgL (i j : Int) : List D := ((List.range (j - i).toNat).map fun (k : Nat) => i + (k : Int)).map D.int
theorem rg_rp {F : FZ} (i j : Int) : RpL K F (rgL i j) (rgV i j) := by
  have e : rgV i j = ((List.range (j - i).toNat).map fun (k : Nat) => i + (k : Int)).map V.int := by rw [rgV, List.map_map]; rfl
  rw [e]
  exact RpL.ofInt _
theorem rg_len {i j : Int} (h : RgOk i j) : (rgV i j).length ≤ sizeLine := by
  rw [rgV_length, sizeLine_eq]
  have := h.2.2.2.2
  omega
def dLstRg (t : DRg) : DTE := fun γ M Q => t γ M fun i j M1 => RgOk i j ∧ Q (.lst (rgL i j)) M1
variable {tr : L2.St → Hp → (Int → Int → Hp → Prop) → Prop} {tr' : DRg}
theorem de_listRg {p : Pos} (hm : X.mg "list" = none) (he : DR X F0 e tr tr') (hc : X.calm = true := by rfl) (hg : Gl X "list" := by rfl) (na : starEach [e] X.env = (false, eval e X.env) :: starEach [] X.env := by rfl) : DE X F0 (.Call (.Name "list" p) [e] [] pos) (tLstRg tr) (dLstRg tr') := ⟨pe_listRg hc hg hm he.pr na, fun F γ M σ H Q' Q e0 s g q k => by
  refine he.le F γ M σ H _ _ e0 s g q fun F1 i j M1 H1 e1 s1 q1 => ⟨q1.1, fun p hp => ?_⟩
  have e2 := same_upd (o := .lst (rgV i j)) (s1.freeF hp)
  exact k _ _ _ _ _ (e1.trans e2) (s1.newF hp (rg_len q1.1)) (.lst upd_same (rg_rp i j)) q1.2⟩
end

/-! ### comprehensions that only tell -/
theorem dLcI_map {g : DTG} {te : DTE} {vs : List Nat} {γ : G} {items : List D} {M : Mp} {Q : DK} (f : D → D) (h : ∀ (i : Nat) (d : D), items[i]? = some d → ∀ Q2 : DK, Q2 (f d) M → g d (dwipe γ vs) M fun γ2 M2 => te γ2 M2 Q2) (q : Q (.lst (items.map f)) M) : dLcI g dYes te vs γ items M Q := by
  refine ⟨fun i acc M' => M' = M ∧ acc = (items.take i).map f, ⟨rfl, by simp⟩, ?_, ?_⟩
  · rintro i d acc M' hd ⟨rfl, rfl⟩
    refine h i d hd _ ⟨rfl, ?_⟩
    have hlt := (List.getElem?_eq_some_iff.mp hd).1
    rw [List.take_add_one, hd]
    simp
  · rintro acc M' ⟨rfl, rfl⟩
    rw [List.take_length]
    exact q
end DL

set_option maxRecDepth 100000
set_option maxHeartbeats 2000000
namespace DL
open PySem PySem.Spec PyProof.Rows L2

theorem fin_self {Q : DK} {d : D} {M : Mp} (q : Q d M) : fin Q d M := ⟨M, fun _ _ h => h, q⟩
theorem fin_less {Q : DK} {d : D} {M M2 : Mp} (l : MLe M2 M) (q : Q d M2) : fin Q d M := ⟨M2, l, q⟩

/-! ### the type of a thing -/
def D.isInt : D → Bool
  | .int _ => true
  | _ => false
def D.isBl : D → Bool
  | .bl _ => true
  | _ => false
theorem isiT_tab : ∀ T ∈ (["NoneType", "str", "list", "tuple", "dict"] : List String), isiT T "int" = false ∧ isiT T "bool" = false := by decide +kernel
theorem ty_int {M : Mp} {d : D} {T : String} (h : tyN M d = some T) : isiT T "int" = (d.isInt || d.isBl) ∧ isiT T "bool" = d.isBl := by
  have key : T ∈ (["NoneType", "str", "list", "tuple", "dict"] : List String) → isiT T "int" = false ∧ isiT T "bool" = false := isiT_tab T
  cases d with
  | int i => cases h; exact (by decide +kernel : isiT "int" "int" = true ∧ isiT "int" "bool" = false)
  | bl i => cases h; exact (by decide +kernel : isiT "bool" "int" = true ∧ isiT "bool" "bool" = true)
  | ref p =>
    simp only [D.isInt, D.isBl, Bool.or_self]
    apply key
    simp only [tyN] at h
    split at h <;> first
      | (cases h; done)
      | (cases h; decide +kernel)
  | ty n => cases h
  | ls n => cases h
  | dt a b => cases h
  | _ => cases h; exact key (by decide +kernel)
def D.within : D → Int → Int → Bool
  | .int i, a, b => decide (a ≤ i) && decide (i ≤ b)
  | _, _, _ => false

/-! ### ints in order -/
def srt (l : List Int) : List Int := l.mergeSort fun a b => decide (a ≤ b)
theorem srt_perm (l : List Int) : (srt l).Perm l := List.mergeSort_perm _ _
theorem srt_pw (l : List Int) : (srt l).Pairwise (· ≤ ·) := by
  have h := List.pairwise_mergeSort (le := fun a b : Int => decide (a ≤ b)) (fun a b c h1 h2 => by simp only [decide_eq_true_eq] at *; omega) (fun a b => by simp only [Bool.or_eq_true, decide_eq_true_eq]; omega) l
  exact h.imp fun h => by simpa using h
theorem pw_uniq : ∀ {l m : List Int}, l.Perm m → l.Pairwise (· ≤ ·) → m.Pairwise (· ≤ ·) → l = m
  | [], m, h, _, _ => (List.Perm.eq_nil h.symm).symm
  | x :: l, [], h, _, _ => absurd (List.Perm.eq_nil h) (by simp)
  | x :: l, y :: m, h, h1, h2 => by
    rw [List.pairwise_cons] at h1 h2
    have a : x ≤ y := by
      have : y ∈ x :: l := h.mem_iff.mpr List.mem_cons_self
      rcases List.mem_cons.mp this with e | e
      · omega
      · exact h1.1 y e
    have b : y ≤ x := by
      have : x ∈ y :: m := h.mem_iff.mp List.mem_cons_self
      rcases List.mem_cons.mp this with e | e
      · omega
      · exact h2.1 x e
    have e : x = y := by omega
    subst e
    rw [pw_uniq (List.Perm.cons_inv h) h1.2 h2.2]
theorem srt_uniq {l m : List Int} (h : l.Perm m) (hp : l.Pairwise (· ≤ ·)) : l = srt m := pw_uniq (h.trans (srt_perm m).symm) hp (srt_pw m)
theorem srt_length (l : List Int) : (srt l).length = l.length := (srt_perm l).length_eq
theorem srt_mem {l : List Int} {x : Int} : x ∈ srt l ↔ x ∈ l := (srt_perm l).mem_iff
theorem dSortI_srt {d : D} {M : Mp} {Q : DK} (ns : List Int) (hd : d = .lst (ns.map .int) ∨ ∃ p, d = .ref p ∧ M p = some (.lst (ns.map .int))) (q : Q (.lst ((srt ns).map .int)) M) : dSortI [d] M Q :=
  ⟨ns, hd, fun ns' h1 h2 => by rw [srt_uniq h1 h2]; exact q⟩

/-! ### plain data -/
theorem ok_int (i : Int) (n : Nat) : D.ok (.int i) n = true := by cases n <;> rfl
theorem okL_int (ns : List Int) (n : Nat) : D.okL (ns.map .int) n = true := okL_iff.mpr fun d h => by
  obtain ⟨i, _, rfl⟩ := List.mem_map.mp h
  exact ok_int i n
theorem eqL_int : ∀ (l m : List Int), D.eqL (l.map .int) (m.map .int) = decide (l = m)
  | [], [] => by simp
  | [], _ :: _ => by simp
  | _ :: _, [] => by simp
  | x :: l, y :: m => by
    rw [List.map_cons, List.map_cons, D.eqL_cons, D.eq_int, eqL_int l m]
    by_cases e : x = y
    · subst e; simp
    · simp [e]
/-! ### >= of tuples of ints -/
def intsOf : List D → Option (List Int)
  | [] => some []
  | .int i :: r => (intsOf r).map fun l => i :: l
  | _ => none
theorem ints_rp {K : PySem.W.Frag} {F : FZ} : ∀ {l : List D} {xs : List V} {ns : List Int}, RpL K F l xs → intsOf l = some ns → xs = ns.map V.int
  | _, _, ns, .nil, h => by simp [intsOf] at h; subst h; rfl
  | _, _, ns, .cons r t, h => by
    cases r with
    | int i =>
      simp only [intsOf] at h
      obtain ⟨m, h1, h2⟩ := Option.map_eq_some_iff.mp h
      subst h2
      rw [ints_rp t h1]; rfl
    | _ => simp [intsOf] at h
def geL (ns ms : List Int) : Bool := Ob.lexAt (fun j => decide (ns.getD j 0 = ms.getD j 0)) (fun j => decide (ms.getD j 0 ≤ ns.getD j 0)) (decide (ns.length ≥ ms.length)) 0 (min ns.length ms.length)
theorem geL_two (a b c d : Int) : geL [a, b] [c, d] = decide (c < a ∨ (a = c ∧ d ≤ b)) := by
  have e : geL [a, b] [c, d] = if decide (a = c) = true then (if decide (b = d) = true then true else decide (d ≤ b)) else decide (c ≤ a) := rfl
  rw [e]
  by_cases h1 : a = c
  · by_cases h2 : b = d
    · simp [h1, h2]
    · simp [h1, h2]
  · simp [h1]; omega
def rGeT (K : PySem.W.Frag) : R2 := fun x y H Q => ∃ (a b : Addr) (ns ms : List Int), x = .ref a ∧ y = .ref b ∧ SqT K H a (ns.map V.int) ∧ SqT K H b (ms.map V.int) ∧ Q (.bl (geL ns ms)) H
theorem op_geT {X : Cx} (hu : X.A.units < cLine) : OpR X (compareOp .GtE) (rGeT X.K) := by
  rintro pins s σ H x y v u Q I rx ry ⟨a, b, ns, ms, rfl, rfl, ha, hb, q⟩
  cases rx; cases ry
  obtain ⟨its, r1, p1, _⟩ := I.tuple ha; obtain ⟨its2, r2, p2, _⟩ := I.tuple hb
  have i1 := Vals.ints r1; have i2 := Vals.ints r2
  have e1 := i1.length; have e2 := i2.length
  have at1 : ∀ j (h : j < its.toArray.size), ∃ t, its.toArray[j] = .int (ns.getD j 0) t := fun j h => i1.int_at _ _ (by simp at h; simp [h])
  have at2 : ∀ j (h : j < its2.toArray.size), ∃ t, its2.toArray[j] = .int (ms.getD j 0) t := fun j h => i2.int_at _ _ (by simp at h; simp [h])
  have R := Ob.RcOp.tuples_ge (A := X.A) (s := s) (e := fun j => decide (ns.getD j 0 = ms.getD j 0)) (r := fun j => decide (ms.getD j 0 ≤ ns.getD j 0)) p1 p2 hu (fun j h1 h2 => by
      obtain ⟨t, z1⟩ := at1 j h1; obtain ⟨t', z2⟩ := at2 j h2
      have z : (ns.getD j 0 == ms.getD j 0) = decide (ns.getD j 0 = ms.getD j 0) := Bool.beq_eq_decide_eq _ _
      rw [z1, z2, ← z]; exact SeqAt.EqAt.int_int _ _ _ _)
    (fun j h1 h2 _ => by
      obtain ⟨t, z1⟩ := at1 j h1; obtain ⟨t', z2⟩ := at2 j h2
      rw [z1, z2]; exact Ob.RcOp.ge_int _ _ _ _)
  simp only [List.size_toArray, e1, e2] at R
  exact (R X.prog X.w X.xe (EP X pins σ Q) ⟨.bl _, H, I, rfl, q⟩ : wpAny (model X.prog X.w) X.A (compareOp .GtE (.ref a) (.ref b)) (EP X pins σ Q) X.xe s)
def dGeT : DR2 := fun x y M Q => match x, y with
  | .tup l, .tup m => ∃ ns ms, intsOf l = some ns ∧ intsOf m = some ms ∧ Q (.bl (geL ns ms)) M
  | _, _ => False
section
variable {X : Cx} {K : PySem.W.Frag} {F0 : FZ} {a b : Expr} {ta tb : TE} {ta' tb' : DTE} {pos : Pos}
theorem l2_geT : L2r K F0 dGeT (rGeT K) := by
  intro F M H d e x y Q' Q e0 s r1 r2 q k
  unfold dGeT at q
  split at q
  · obtain ⟨ns, ms, h1, h2, q⟩ := q
    cases r1 with
    | tup a1 b1 =>
      cases r2 with
      | tup a2 b2 =>
        have z1 := ints_rp b1 h1
        have z2 := ints_rp b2 h2
        subst z1 z2
        exact ⟨_, _, ns, ms, rfl, rfl, s.sqT a1, s.sqT a2, k F _ _ M H (FLe.refl F) s (.bl _) q⟩
  · exact q.elim
theorem de_geT {n : Nat} (hr : Room n X.A) (ha : DE X F0 a ta ta') (hb : DE X F0 b tb tb') : DE X F0 (.Compare a [.GtE] [b] pos) (tOp (rGeT X.K) ta tb) (dOp dGeT ta' tb') := de_cmp (op_geT (Nat.lt_of_le_of_lt (Nat.le_add_right _ _) hr.units)) l2_geT ha hb (nomark _)
end

/-! ### rows: a frozen list of lists to be changed -/
structure RowsAt (M : Mp) (as : List Addr) (rows : List (List D)) : Prop where
  nd : as.Nodup
  len : as.length = rows.length
  at' : ∀ (k : Nat) (a : Addr), as[k]? = some a → ∃ r, rows[k]? = some r ∧ M a = some (.lst r)
theorem RowsAt.get {M : Mp} {as : List Addr} {rows : List (List D)} (h : RowsAt M as rows) {k : Nat} {r : List D} (hr : rows[k]? = some r) : ∃ a, as[k]? = some a ∧ M a = some (.lst r) := by
  have hk : k < as.length := by rw [h.len]; exact (List.getElem?_eq_some_iff.mp hr).1
  have e : as[k]? = some as[k] := List.getElem?_eq_getElem hk
  obtain ⟨r', h1, h2⟩ := h.at' k _ e
  rw [hr] at h1; cases h1
  exact ⟨_, e, h2⟩
theorem RowsAt.set {M : Mp} {as : List Addr} {rows : List (List D)} (h : RowsAt M as rows) {k : Nat} {a : Addr} (ha : as[k]? = some a) (r' : List D) : RowsAt (mset M a (.lst r')) as (rows.set k r') := by
  refine ⟨h.nd, by rw [List.length_set]; exact h.len, fun j b hb => ?_⟩
  have hk := (List.getElem?_eq_some_iff.mp ha).1
  by_cases e : k = j
  · subst e
    rw [ha] at hb; cases hb
    exact ⟨r', List.getElem?_set_self (by rw [← h.len]; exact hk), mset_same⟩
  · have ne : b ≠ a := fun z => by
      subst z
      exact e ((List.getElem?_inj hk h.nd).mp (ha.trans hb.symm))
    obtain ⟨r, h1, h2⟩ := h.at' j b hb
    exact ⟨r, by rw [List.getElem?_set_ne e]; exact h1, by rw [mset_ne ne]; exact h2⟩
theorem RowsAt.other {M : Mp} {as : List Addr} {rows : List (List D)} (h : RowsAt M as rows) {p : Addr} {o : MO} (hp : p ∉ as) : RowsAt (mset M p o) as rows :=
  ⟨h.nd, h.len, fun k a ha => by
    obtain ⟨r, h1, h2⟩ := h.at' k a ha
    refine ⟨r, h1, ?_⟩
    have ne : a ≠ p := fun z => by subst z; exact hp (List.mem_of_getElem? ha)
    rw [mset_ne ne]
    exact h2⟩
/-- [[] for ..] -/
theorem lcI_fresh {g : DTG} {vs : List Nat} {γ : G} {items : List D} {M0 : Mp} {Q : DK} (hg : ∀ d M (Q : G → Mp → Prop), (∀ γ', Q γ' M) → ∀ γ, g d γ M Q)
    (q : ∀ as M, RowsAt M as (List.replicate items.length []) → (∀ p, p ∉ as → M p = M0 p) → (∀ a ∈ as, M0 a = none) → Q (.lst (as.map .ref)) M) : dLcI g dYes (dLstM dNil) vs γ items M0 Q := by
  refine ⟨fun i acc M => ∃ as : List Addr, acc = as.map .ref ∧ RowsAt M as (List.replicate i []) ∧ (∀ p, p ∉ as → M p = M0 p) ∧ ∀ a ∈ as, M0 a = none, ⟨[], rfl, ⟨List.nodup_nil, rfl, fun k a h => by simp at h⟩, fun _ _ => rfl, fun _ h => by cases h⟩, ?_, ?_⟩
  · rintro i d acc M hd ⟨as, rfl, h, ho, hn⟩
    refine hg d M _ (fun γ' => ?_) _
    refine ⟨by decide, fun p hp => ?_⟩
    have hpa : p ∉ as := fun z => by
      obtain ⟨k, hk⟩ := List.mem_iff_getElem?.mp z
      obtain ⟨r, _, h2⟩ := h.at' k p hk
      rw [hp] at h2; cases h2
    have h' := h.other (p := p) (o := .lst []) hpa
    refine ⟨as ++ [p], by rw [List.map_append]; rfl, ⟨?_, ?_, fun k a hk => ?_⟩, fun x hx => ?_, fun a ha => ?_⟩
    · rw [List.nodup_append]
      exact ⟨h.nd, by simp, fun a ha b hb => by
        rw [List.mem_singleton.mp hb]
        exact fun z => hpa (z ▸ ha)⟩
    · rw [List.length_append, h.len]; simp
    · by_cases hl : k < as.length
      · rw [List.getElem?_append_left hl] at hk
        obtain ⟨r, h1, h2⟩ := h'.at' k a hk
        refine ⟨r, ?_, h2⟩
        rw [List.replicate_succ', List.getElem?_append_left (by rw [← h.len]; exact hl)]
        exact h1
      · have e : k = as.length := by
          have := (List.getElem?_eq_some_iff.mp hk).1
          simp at this
          omega
        subst e
        simp at hk
        subst hk
        have hl2 := h.len
        simp at hl2
        exact ⟨[], by simp [hl2], mset_same⟩
    · have h1 : x ∉ as := fun z => hx (List.mem_append_left _ z)
      have h2 : x ≠ p := fun z => hx (by rw [z]; simp)
      rw [mset_ne h2]; exact ho x h1
    · rcases List.mem_append.mp ha with z | z
      · exact hn a z
      · rw [List.mem_singleton.mp z, ← ho p hpa]; exact hp
  · rintro acc M ⟨as, rfl, h, ho, hn⟩
    exact q as M h ho hn

/-! ### dicts as told -/
section
variable {κ : Type} [DecidableEq κ]
theorem dval_cons {k k1 : κ} {d : D} {l : List (κ × D)} : dval ((k1, d) :: l) k = if k1 = k then some d else dval l k := by
  by_cases h : k1 = k <;> simp [dval, List.find?, h]
theorem dput_len {k : κ} {d : D} {l : List (κ × D)} : (dput l k d).length ≤ l.length + 1 := by
  unfold dput
  split
  · rw [List.length_map]; omega
  · rw [List.length_append]; simp
end
end DL

set_option maxRecDepth 100000
set_option maxHeartbeats 2000000
namespace DL
open PySem PySem.Spec PyProof.Rows L2

/-! ### derivations whose kit reading is hidden: within a comprehension's own block -/
def DEx (X : Cx) (F0 : FZ) (e : Expr) (te' : DTE) : Prop := ∃ te, DE X F0 e te te'
def DTx (X : Cx) (F0 : FZ) (ifs : List Expr) (tt' : DTT) : Prop := ∃ tt, DTs X F0 ifs tt tt'
def DGx (X : Cx) (F0 : FZ) (vs : List Nat) (tg : Expr) (g' : DTG) : Prop := ∃ g, DG X F0 tg g g' ∧ GW vs g
def lfE (K : PySem.W.Frag) (F0 : FZ) (t' : DTE) : TE := fun σ H Q => ∃ F γ M Q', Bs F0 F ∧ SR K F M H ∧ GR K F γ σ ∧ t' γ M Q' ∧ ∀ F1 d v M1 H1, FLe F F1 → SR K F1 M1 H1 → Rp K F1 d v → Q' d M1 → Q v H1
def lfT (K : PySem.W.Frag) (F0 : FZ) (t' : DTT) : TT := fun σ H Q => ∃ F γ M Q', Bs F0 F ∧ SR K F M H ∧ GR K F γ σ ∧ t' γ M Q' ∧ ∀ F1 b M1 H1, FLe F F1 → SR K F1 M1 H1 → Q' b M1 → Q b H1
def lfG (K : PySem.W.Frag) (F0 : FZ) (vs : List Nat) (t' : DTG) : TG := fun v σ H Q => ∃ F γ M d Q', Bs F0 F ∧ SR K F M H ∧ GR K F γ σ ∧ Rp K F d v ∧ t' d γ M Q' ∧ ∀ F1 γ1 M1 σ1 H1, FLe F F1 → SR K F1 M1 H1 → GR K F1 γ1 σ1 → wipe σ1 vs = wipe σ vs → Q' γ1 M1 → Q σ1 H1
section
variable {X : Cx} {K : PySem.W.Frag} {F0 : FZ} {e tg : Expr} {ifs : List Expr} {vs : List Nat}
theorem DEx.pe {te' : DTE} (h : DEx X F0 e te') : PE X e (lfE X.K F0 te') := by
  obtain ⟨te, h⟩ := h
  refine ⟨fun pins s σ H Q I q => ?_⟩
  obtain ⟨F, γ, M, Q', e0, s1, g, q, k⟩ := q
  exact h.pe.run pins s σ H Q I (h.le F γ M σ H Q' Q e0 s1 g q k)
theorem le_lfE (te' : DTE) : LE K F0 te' (lfE K F0 te') := fun F γ M σ H Q' Q e0 s g q k => ⟨F, γ, M, Q', e0, s, g, q, k⟩
theorem DTx.pt {tt' : DTT} (h : DTx X F0 ifs tt') : PTs X ifs (lfT X.K F0 tt') := by
  obtain ⟨tt, h⟩ := h
  refine ⟨fun pins s σ H Q I q => ?_⟩
  obtain ⟨F, γ, M, Q', e0, s1, g, q, k⟩ := q
  exact h.pt.run pins s σ H Q I (h.le F γ M σ H Q' Q e0 s1 g q k)
theorem le_lfT (tt' : DTT) : LT K F0 tt' (lfT K F0 tt') := fun F γ M σ H Q' Q e0 s g q k => ⟨F, γ, M, Q', e0, s, g, q, k⟩
theorem DGx.pg {g' : DTG} (h : DGx X F0 vs tg g') : PG X tg (lfG X.K F0 vs g') := by
  obtain ⟨g, h, hw⟩ := h
  refine ⟨fun pins s σ H v u Q I r q => ?_⟩
  obtain ⟨F, γ, M, d, Q', e0, s1, gr, rd, q, k⟩ := q
  have a := h.le F γ M σ H d v Q' (fun σ1 H1 => wipe σ1 vs = wipe σ vs → Q σ1 H1) e0 s1 gr rd q fun F1 γ1 M1 σ1 H1 e1 s1 g1 q1 z => k F1 γ1 M1 σ1 H1 e1 s1 g1 z q1
  have b := hw v σ H _ a
  exact thn (h.pg.run pins s σ H v u _ I r b) fun _ s2 ⟨σ2, H2, I2, z1, z2⟩ => ⟨σ2, H2, I2, z2 z1⟩
theorem gw_lfG {vs : List Nat} {g' : DTG} : GW vs (lfG K F0 vs g') := fun v σ H Q ⟨F, γ, M, d, Q', e0, s, g, r, q, k⟩ => ⟨F, γ, M, d, Q', e0, s, g, r, q, fun F1 γ1 M1 σ1 H1 e1 s1 g1 z q1 => ⟨z, k F1 γ1 M1 σ1 H1 e1 s1 g1 z q1⟩⟩
theorem lg_lfG {vs : List Nat} {g' : DTG} : LG K F0 g' (lfG K F0 vs g') := fun F γ M σ H d v Q' Q e0 s g r q k => ⟨F, γ, M, d, Q', e0, s, g, r, q, fun F1 γ1 M1 σ1 H1 e1 s1 g1 _ q1 => k F1 γ1 M1 σ1 H1 e1 s1 g1 q1⟩
abbrev Blk (X : Cx) (scope : Scope) (p : Cx → Prop) : Prop := ∀ (s : Shared) (H : Hp) (C : Addr) (cl : List (Str × Addr)) (fp : List Addr), p (X.blk s H scope (compEnvC scope cl C X.env) fp)
variable {elt iter : Expr} {scope : Scope} {own : List (Str × Nat)} {pos spos py : Pos} {wi : TI} {wi' : DTI} {g' : DTG} {tt' : DTT} {te' : DTE}
theorem dx_lc (hc : X.calm = true) (hN : X.N.Nodup) (hi : DI X F0 tg iter wi wi') (ok : BlkOk X.N X.env.scope scope own) (hg : Blk X scope fun Y => DGx Y F0 (own.map (·.2)) tg g') (ht : Blk X scope fun Y => DTx Y F0 ifs tt') (he : Blk X scope fun Y => DEx Y F0 elt te') (hs : ∀ x, foldedSetIterable iter X.env x = pure x := by intro _; rfl) :
    DE X F0 (.ListComp elt [⟨tg, iter, ifs, 0⟩] scope pos) (tLc wi (lfG X.K F0 (own.map (·.2)) g') (lfT X.K F0 tt') (lfE X.K F0 te') (own.map (·.2))) (dLc wi' g' tt' te' (own.map (·.2))) :=
  ⟨pe_lc hc hN hi.pi ok (fun s H C cl fp => (hg s H C cl fp).pg) (fun s H C cl fp => (ht s H C cl fp).pt) (fun s H C cl fp => (he s H C cl fp).pe) hs, le_lc hi.le lg_lfG gw_lfG (le_lfT _) (le_lfE _)⟩
theorem ps_lcX (i : Nat) {y : Str} (hc : X.calm = true) (hN : X.N.Nodup) (hsw : swapsWith (.ListComp elt [⟨tg, iter, ifs, 0⟩] scope pos) (some (.Name y py)) spos.line X.env = pure true) (hi : DI X F0 tg iter wi wi') (ok : BlkOk X.N X.env.scope scope own) (hg : Blk X scope fun Y => DGx Y F0 (own.map (·.2)) tg g') (ht : Blk X scope fun Y => DTx Y F0 ifs tt') (he : Blk X scope fun Y => DEx Y F0 elt te')
    (hs : ∀ x, foldedSetIterable iter X.env x = pure x) (hy : X.N[i]? = some y) (hyl : X.env.scope.names.lookup y = some .local) : PS X (.Assign [.Name y py] (.ListComp elt [⟨tg, iter, ifs, 0⟩] scope pos) spos) (tAsg (tLc wi (lfG X.K F0 (own.map (·.2)) g') (lfT X.K F0 tt') (lfE X.K F0 te') (own.map (·.2))) (gName i)) :=
  ps_setLc hc hN hy hyl hsw hi.pi ok (fun s H C cl fp => (hg s H C cl fp).pg) (fun s H C cl fp => (ht s H C cl fp).pt) (fun s H C cl fp => (he s H C cl fp).pe) hs
theorem dx_setLc (i : Nat) {y : Str} (hc : X.calm = true) (hN : X.N.Nodup) (hsw : swapsWith (.ListComp elt [⟨tg, iter, ifs, 0⟩] scope pos) (some (.Name y py)) spos.line X.env = pure true) (hi : DI X F0 tg iter wi wi') (ok : BlkOk X.N X.env.scope scope own) (hg : Blk X scope fun Y => DGx Y F0 (own.map (·.2)) tg g') (ht : Blk X scope fun Y => DTx Y F0 ifs tt') (he : Blk X scope fun Y => DEx Y F0 elt te')
    (hs : ∀ x, foldedSetIterable iter X.env x = pure x := by intro _; rfl) (hy : X.N[i]? = some y := by rfl) (hyl : X.env.scope.names.lookup y = some .local := by rfl) : DS X F0 (.Assign [.Name y py] (.ListComp elt [⟨tg, iter, ifs, 0⟩] scope pos) spos) (tAsg (tLc wi (lfG X.K F0 (own.map (·.2)) g') (lfT X.K F0 tt') (lfE X.K F0 te') (own.map (·.2))) (gName i)) (dAsg (dLc wi' g' tt' te' (own.map (·.2))) (hName i)) :=
  ⟨ps_lcX i hc hN hsw hi ok hg ht he hs hy hyl, ls_asg (le_lc hi.le lg_lfG gw_lfG (le_lfT _) (le_lfE _)) (dg_name (X := X) (F0 := F0) (pos := pos) i hN hy (Or.inl hyl) (.inr hyl)).le⟩
end
end DL

set_option maxRecDepth 100000
set_option maxHeartbeats 2000000
namespace DL
open PySem PySem.Spec PyProof.Rows L2

section
variable {P : Program} {w : World} {K : PySem.W.Frag} {mg : Str → Option Value} {base : Heap}
/-- the law itself -/
theorem dokL {x : Str} {st : Stmt} {f : Addr} {fd : FuncData} {N ps : List Str} {k : Nat} {sp : DSp} (F : Fun K x x st f fd) (S : FnScope N ps (defScope st)) (len : ∀ ds M Q E, sp ds M Q E → ds.length = ps.length)
    (hbody : ∀ (cdv : Value) (A : Around) (outer : List Env) (s : Shared) (H : Hp) (E : XK) (F0 : FZ), Room k (A.deeper (envOfC x (defScope st) s.heap.objs.size f cdv)) →
      ∃ t t', DB (cxOf CX0 P w K mg base N x (defScope st) f cdv A outer s H E).nox F0 (defBody st) t t' ∧ ∀ ds M Q' E', sp ds M Q' E' → t' { nx := fun _ M1 => fin Q' .non M1, rt := fin Q' } (dstart N ds) M) : FnOk P w K mg base CX0 (k + 1) f fd ps (liftSp K sp) := by
  refine F.ok S (fun vs H Q E ⟨_, ds, _, _, _, _, r, q, _⟩ => by rw [← r.length]; exact len _ _ _ _ q) (fun cdv A outer s H vs Q E hr ⟨F, ds, M, Q', E', s1, r, q, kq, _⟩ => ?_)
  obtain ⟨t, t', d, h⟩ := hbody cdv A outer s H E F hr
  exact ⟨t, d.ps, d.le F (dstart N ds) M (L2.start N vs) H { nx := fun _ M1 => fin Q' .non M1, rt := fin Q' } { nx := fun _ H' => Q .non H', rt := Q } (Bs.refl _) s1 (gr_start r) (h ds M Q' E' q)
    ⟨fun F1 γ1 M1 σ1 H1 e1 s1 g1 ⟨M2, l, q⟩ => kq F1 .non .non M2 H1 e1 (s1.less l) .non q, fun F1 d1 v1 M1 H1 e1 s1 r1 ⟨M2, l, q⟩ => kq F1 d1 v1 M2 H1 e1 (s1.less l) r1 q, fun _ _ _ _ _ _ _ _ z => z.elim, fun _ _ _ _ _ _ _ _ z => z.elim⟩⟩
/-- a def of the text, by what the top has written -/
theorem dfun_mk {h : Heap} {x : Str} {st : Stmt} {f : Addr} {ps : List Str} {od an : Option Addr} {sl : Array (Option Value)} {oc kV dc pm cd ct : Value} (X : K.In h) (G : h.Ns mainGlobals mg) (a : PySem.W.nsIn K mainGlobals x = some (some (.ref f)))
    (l : K.lookup f = some ⟨oc, od, .func (PySem.W.fnOf x x (defArgs st) (defBody st) (defScope st) .none kV dc pm an cd ct), sl⟩) (c : PySem.W.codeIn K cd x = true) (k : PySem.W.keepIn K (.ref f) = true)
    (b : ∀ (kV doc pm : Value) (an : Option Addr) (cdv ct : Value) (us : List Value), us.length = ps.length → bindArgs (PySem.W.fnOf x x (defArgs st) (defBody st) (defScope st) .none kV doc pm an cdv ct) ⟨us, []⟩ = pure (ps.zip us)) : DFun K mg x st ps :=
  ⟨f, _, fun_mk l c k, PySem.W.mg_of X G a, (fun_mk (st := st) l c k).binds b⟩
theorem dmet_mk {x q : Str} {st : Stmt} {f : Addr} {ps : List Str} {od an : Option Addr} {sl : Array (Option Value)} {oc kV dc pm cd ct : Value} (l : K.lookup f = some ⟨oc, od, .func (PySem.W.fnOf x q (defArgs st) (defBody st) (defScope st) .none kV dc pm an cd ct), sl⟩) (c : PySem.W.codeIn K cd q = true) (k : PySem.W.keepIn K (.ref f) = true)
    (b : ∀ (kV doc pm : Value) (an : Option Addr) (cdv ct : Value) (us : List Value), us.length = ps.length → bindArgs (PySem.W.fnOf x q (defArgs st) (defBody st) (defScope st) .none kV doc pm an cdv ct) ⟨us, []⟩ = pure (ps.zip us)) : DMet K x q st f ps :=
  ⟨_, fun_mk l c k, (fun_mk (st := st) l c k).binds b⟩
theorem dmk_mk {CX : CXT} {h : Heap} {x : Str} {C f : Addr} {k : Nat} {ps : List Str} {sp : DSp} (X : K.In h) (G : h.Ns mainGlobals mg) (a : PySem.W.nsIn K mainGlobals x = some (some (.ref C))) (M : Mk K C f) (H : ∃ fd, FnOk P w K mg base CX k f fd ps (liftSp K sp) ∧ Binds K fd ps []) : DMk P w K mg base CX k x C sp := by
  obtain ⟨fd, h1, h2⟩ := H
  exact ⟨f, fd, ps, h1, PySem.W.mg_of X G a, M, h2⟩
/-- the end of a law's proof -/
theorem walk_law {l : PySem.W.OpenLaw} {q : Program} {k : Nat} {loose : List Str} {XP : (Str → Option Value) → Heap → Prop} {YP : World → Heap → Prop} {d : DefRec} {K : Params → PySem.W.Frag} {x : Str} (hn : l.most = some 63) (hdf : d.params.defaults = []) (hr : Room k callerA) (hY : ∀ (w : World) (h : Heap), YP w h → (K w.params).In h)
    (F : ∀ (w : World) (mg : Str → Option Value) (fa : Addr) (h : Heap), (K w.params).In h → h.Ns mainGlobals mg → mg d.name = some (.ref fa) →
      ∃ fd : FuncData, (∀ (s : Shared) (u : Value), BindsTo s fd ⟨[u], []⟩ [(x, u)]) ∧ ∀ base : Heap, (K w.params).In base → base.Ns mainGlobals mg → FnOk l.prog w (K w.params) mg base CX0 k fa fd [x] (liftSp (K w.params) spLaw)) :
    PySem.W.WalkO q loose XP YP l.row.toRowW d [] (fun f vs => PySem.call f vs) :=
  walk_ofK (sp := fun K => liftSp K spLaw) (CX := CX0) hn (by decide) hdf hr hY F (fun K H a ns h1 _ h3 => law_sp h1 h3) fun _ _ _ _ z => z
end
end DL

set_option maxRecDepth 100000
set_option maxHeartbeats 2000000
namespace DL
open PySem PySem.Spec PyProof.Rows L2

/-! ### {k: v for ..} -/
section
variable {X : Cx} {K : PySem.W.Frag} {F0 : FZ}
def dDcI (g : DTG) (tt : DTT) (tk te : DTE) (vs : List Nat) (γ : G) (items : List D) (M1 : Mp) (Q : DK) : Prop := ∃ I : Nat → List (Key × D) → Mp → Prop, I 0 [] M1 ∧
  (∀ i d acc M, items[i]? = some d → I i acc M → g d (dwipe γ vs) M fun γ2 M2 => tt γ2 M2 fun b M3 => if b = true then tk γ2 M3 fun x M4 => ∃ kk, keyOf x = some kk ∧ te γ2 M4 fun y M5 => I (i + 1) (dput acc kk y) M5 else I (i + 1) acc M3) ∧
  ∀ acc M, I items.length acc M → ∀ p, M p = none → Q (.ref p) (mset M p (.dK acc))
def dDc (wi : DTI) (g : DTG) (tt : DTT) (tk te : DTE) (vs : List Nat) : DTE := fun γ M Q => wi γ M fun items M1 => items.length ≤ sizeLine ∧ dDcI g tt tk te vs γ items M1 Q
def DcW (K : PySem.W.Frag) (F1 : FZ) (L : Addr) (I : Nat → List (Key × D) → Mp → Prop) (i : Nat) (H : Hp) : Prop := ∃ F2 M2 acc ps, FLe F1 F2 ∧ SR K F2 M2 H ∧ (F2.f L = none ∧ F2.d L = none) ∧ M2 L = none ∧ H L = some (.dK ps) ∧ KVR K F2 acc ps ∧ acc.length ≤ i ∧ I i acc M2
theorem le_dc {wi : TI} {wi' : DTI} {g : TG} {g' : DTG} {tt : TT} {tt' : DTT} {tk te : TE} {tk' te' : DTE} {vs : List Nat} (hi : LI K F0 wi' wi) (hg : LG K F0 g' g) (hw : GW vs g) (ht : LT K F0 tt' tt) (hkey : LE K F0 tk' tk) (he : LE K F0 te' te) :
    LE K F0 (dDc wi' g' tt' tk' te' vs) (tDc wi g tt tk te vs) := by
  intro F γ M σ H Q' Q e0 s gr q k
  refine hi F γ M σ H _ _ e0 s gr q fun F1 items J M1 H1 e1 s1 j1 q1 => ?_
  obtain ⟨hlen, I, h0, step, done⟩ := q1
  intro D hD
  have hDF := s1.freeF hD
  have hDM := s1.freeM hD
  have hDP := s1.freeP hD
  refine ⟨fun i m H => m = items.length - i ∧ i ≤ items.length ∧ DcW K F1 D I i H, ⟨items.length, by simp, Nat.zero_le _, ?_⟩, ?_⟩
  · refine ⟨F1, M1, [], [], FLe.refl _, s1.other hD, ⟨hDF, s1.freeD hD⟩, hDM, upd_same, .nil, Nat.le_refl _, h0⟩
  · rintro i m H2 ⟨rfl, hi2, F2, M2, acc, xs, e2, s2, dF, dM, hl, rl, al, i2⟩
    have dP : F2.p D = none := by rw [e2.e]; exact hDP
    by_cases hlt : i < items.length
    · have hd : items[i]? = some items[i] := List.getElem?_eq_getElem hlt
      have sh := s2.hide dF.1 dM hl (fun _ z => by cases z) (fun u e => by rw [dF.2] at e; cases e)
      obtain ⟨go, y⟩ := (j1 i (F2.hide D (.dK xs)) M2 H2 (bj_hide e2 hDP) sh).2 _ hd
      refine .inr ⟨go, DcW K F1 D I (i + 1), fun H' h => ⟨items.length - (i + 1), by omega, rfl, hlt, h⟩, fun x H3 yy => ?_⟩
      obtain ⟨F3, e3, s3, r3⟩ := y x H3 yy
      have b3 : Sm F2 F3 := e3.s
      have a3 : Bs F0 F3 := ⟨((e0.tr e1).tr e2).f.trans' b3, ((e0.tr e1).tr e2).p.trans (fun b o h => by rw [e3.e]; exact (upd_ne (ne_of_none h dP)).trans h)⟩
      have back : ∀ {F5 : FZ} {M5 : Mp} {H5 : Hp} (o : HO), FLe F3 F5 → SR K F5 M5 H5 → SR K ⟨F5.f, F2.p, F5.d⟩ M5 (upd H5 D o) ∧ H5 D = some (.dK xs) ∧ (F5.f D = none ∧ F5.d D = none) ∧ M5 D = none := fun {F5 M5 H5} o e5 s5 => by
        obtain ⟨w1, w2, w3, w4⟩ := s5.unhide (u := o) (o := .dK xs) (q := F2.p) (p := D) (by rw [e5.e, e3.e]; rfl) dP
        exact ⟨w1, w2, ⟨w3, s5.hidD (o := .dK xs) (by rw [e5.e, e3.e]; exact upd_same) (fun _ _ z => nomatch z)⟩, w4⟩
      have step' := step i _ acc M2 hd i2
      have r0 : KVR K F3 acc xs := rl.monoS b3
      have lt1 : xs.length < sizeLine := by rw [← kvr_len r0]; omega
      have main := hw x (wipe σ vs) H3 _ (hg F3 (dwipe γ vs) M2 (wipe σ vs) H3 _ x _ (fun σ2 H2 => tt σ2 H2 fun b H3 => if b = true then tk σ2 H3 fun y H4 => te σ2 H4 fun z H5 => ∃ kvs kk, y = kV kk ∧ H5 D = some (.dK kvs) ∧ kvs.length < sizeLine ∧ DcW K F1 D I (i + 1) (upd H5 D (.dK (putK kvs kk z))) else DcW K F1 D I (i + 1) H3)
        a3 s3 (gr_wipe (gr.monoS ((e1.s.trans' e2.s).trans' b3)) vs) r3 step' fun F4 γ4 M4 σ4 H4 e4 s4 g4 q4 =>
        ht F4 γ4 M4 σ4 H4 _ _ (a3.tr e4) s4 g4 q4 fun F5 b M5 H5 e5 s5 q5 => by
          cases b with
          | false =>
            obtain ⟨z1, z2, z3, z4⟩ := back (.dK xs) (e4.trans e5) s5
            have eq : upd H5 D (.dK xs) = H5 := by
              funext b
              by_cases hb : b = D
              · subst hb; rw [upd_same, z2]
              · rw [upd_ne hb]
            rw [eq] at z1
            exact ⟨⟨F5.f, F2.p, F5.d⟩, M5, acc, xs, ⟨(e2.s.trans' b3).trans' (e4.trans e5).s, e2.e⟩, z1, z3, z4, z2, KVR.monoS (F := F3) (F' := ⟨F5.f, F2.p, F5.d⟩) (e4.trans e5).s r0, Nat.le_succ_of_le al, q5⟩
          | true =>
            refine hkey F5 γ4 M5 σ4 H5 _ _ ((a3.tr e4).tr e5) s5 (g4.mono e5) q5 fun F7 d7 v7 M7 H7 e7 s7 r7 q7 => ?_
            obtain ⟨kk, hkk, q7⟩ := q7
            have hx := keyOf_rp r7 hkk
            subst hx
            refine he F7 γ4 M7 σ4 H7 _ _ (((a3.tr e4).tr e5).tr e7) s7 (g4.mono (e5.trans e7)) q7 fun F6 d v M6 H6 e6 s6 r6 q6 => ?_
            obtain ⟨z1, z2, z3, z4⟩ := back (.dK (putK xs kk v)) (((e4.trans e5).trans e7).trans e6) s6
            have l2 : (dput acc kk d).length ≤ acc.length + 1 := dput_len
            refine ⟨xs, kk, rfl, z2, lt1, ⟨F6.f, F2.p, F6.d⟩, M6, dput acc kk d, putK xs kk v, ⟨(e2.s.trans' b3).trans' (((e4.trans e5).trans e7).trans e6).s, e2.e⟩, z1, z3, z4, upd_same, kvr_put (Rp.monoS (F := F6) (F' := ⟨F6.f, F2.p, F6.d⟩) Sm.rfl' r6) (KVR.monoS (F := F3) (F' := ⟨F6.f, F2.p, F6.d⟩) (((e4.trans e5).trans e7).trans e6).s r0), by omega, q6⟩)
      rw [wipe_wipe] at main
      exact main
    · have e : i = items.length := by omega
      subst e
      refine .inl ⟨((j1 items.length F2 M2 H2 e2.bj s2).1 (Nat.le_refl _)), ?_⟩
      have hz : xs.length ≤ sizeLine := by rw [← kvr_len rl]; omega
      have s3 := s2.own (o := .dK acc) dF.1 (by rw [e2.e]; exact hDP) dF.2 hl (.dK rl hz)
      exact k F2 (.ref D) (.ref D) _ H2 (e1.trans e2) s3 (.ref D) (done acc M2 i2 D dM)
variable {kx vx tg iter : Expr} {ifs : List Expr} {scope : Scope} {own : List (Str × Nat)} {pos : Pos} {wi : TI} {wi' : DTI} {g' : DTG} {tt' : DTT} {tk' te' : DTE}
end
/-- over unlike items, each of a key of its own -/
theorem dDcI_map {g : DTG} {tk te : DTE} {vs : List Nat} {γ : G} {items : List D} {M : Mp} {Q : DK} (kf : D → Key) (f : D → D) (h : ∀ (i : Nat) (d : D), items[i]? = some d → ∀ Q2 : Key → DK, Q2 (kf d) (f d) M → g d (dwipe γ vs) M fun γ2 M2 => tk γ2 M2 fun x M4 => ∃ kk, keyOf x = some kk ∧ te γ2 M4 (Q2 kk))
    (q : ∀ p, M p = none → Q (.ref p) (mset M p (.dK (items.foldl (fun acc d => dput acc (kf d) (f d)) [])))) : dDcI g dYes tk te vs γ items M Q := by
  refine ⟨fun i acc M' => M' = M ∧ acc = (items.take i).foldl (fun acc d => dput acc (kf d) (f d)) [], ⟨rfl, by simp⟩, ?_, ?_⟩
  · rintro i d acc M' hd ⟨rfl, rfl⟩
    refine h i d hd (fun kk y M5 => M5 = M' ∧ dput _ kk y = _) ⟨rfl, ?_⟩
    have hlt := (List.getElem?_eq_some_iff.mp hd).1
    rw [List.take_add_one, hd, List.foldl_append]
    rfl
  · rintro acc M' ⟨rfl, rfl⟩
    rw [List.take_length]
    exact q

/-! ### len(set(..)) of unlike ints, [::-1], is True -/
section
variable {X : Cx} {K : PySem.W.Frag} {F0 : FZ} {a b e : Expr} {ta tb te : TE} {ta' tb' te' : DTE} {pos : Pos}
end
end DL

set_option maxRecDepth 100000
set_option maxHeartbeats 2000000
namespace DL
open PySem PySem.Spec PyProof.Rows L2

/-! ### name = {k: v for ..} on one row -/
section
variable {X : Cx} {K : PySem.W.Frag} {F0 : FZ} {kx vx tg iter : Expr} {ifs : List Expr} {scope : Scope} {own : List (Str × Nat)} {pos spos py : Pos} {wi : TI} {wi' : DTI} {g' : DTG} {tt' : DTT} {tk' te' : DTE}
theorem sw_trueD {gs : List Comprehension} {y : Str} {l : Nat} {env : Env} (hk : env.scope.kind = .function) (hy : env.scope.names.lookup y = some .local) (hl : (py.line == pos.line) = true) (ha : (scope.names.any fun (n, k) => n == y && (k == .local || k == .cell)) = false) :
    swapsWith (.DictComp kx vx gs scope pos) (some (.Name y py)) l env = pure true := by
  have ky : env.kindOf y = some .local := hy
  have hb : env.blockKind = .function := by (unfold Env.blockKind; rw [hk]; rfl)
  unfold swapsWith
  simp only [hb, ky, ha, Expr.pos, hl]; rfl
theorem ps_setDc {i : Nat} {y : Str} {g : TG} {tt : TT} {tk tv : TE} (hc : X.calm = true) (hN : X.N.Nodup) (hy : X.N[i]? = some y) (hyl : X.env.scope.names.lookup y = some .local) (hsw : swapsWith (.DictComp kx vx [⟨tg, iter, ifs, 0⟩] scope pos) (some (.Name y py)) spos.line X.env = pure true) (hi : PI X tg iter wi) (ok : BlkOk X.N X.env.scope scope own)
    (hg : Blk X scope fun Y => PG Y tg g) (ht : Blk X scope fun Y => PTs Y ifs tt) (hk : Blk X scope fun Y => PE Y kx tk) (he : Blk X scope fun Y => PE Y vx tv) (hs : ∀ x, foldedSetIterable iter X.env x = pure x) : PS X (.Assign [.Name y py] (.DictComp kx vx [⟨tg, iter, ifs, 0⟩] scope pos) spos) (tAsg (tDc wi g tt tk tv (own.map (·.2))) (gName i)) := by
  refine ⟨fun pins s σ H D I h => ?_⟩
  rw [exec_Assign_Name_used _ _ _ _ hsw]
  refine wpAny_bind (wpAny_standAt (wpAny_bind (?_ : wpAny _ X.A (do let _ ← comprehension (.DictComp kx vx [⟨tg, iter, ifs, 0⟩] scope pos) scope X.env (firstIterPos [⟨tg, iter, ifs, 0⟩] pos) newDict false (eval iter X.env) (some (assign (.Name y py) X.env))) _ _ s)))
  have h : tDc wi g tt tk tv (own.map (·.2)) σ H (fun x H1 => gName i x σ H1 D.nx) := h
  refine wpAny_bind (thn (dc_core (Qf := fun _ s' => SP X pins D .next s') hc hN I hi ok hg ht hk he hs h fun L C s' m H' I' q hn f => ?_) fun _ s' hq => wpAny_pure (wpAny_pure hq))
  refine (?_ : wpAny _ _ (assign (.Name y py) X.env (.ref L)) _ _ _)
  refine wpAny_assign_Name (store_ok2 (v := V.ref L) I' hN hy (.inl hyl) rfl (fun s2 I2 ⟨a, sb, ha⟩ => ?_) (.inr hyl))
  obtain ⟨f0, f1, f2, f3, f4, f5⟩ := f
  have haC : C ≠ a := ha.elim (fun z => z ▸ f1) fun z e => f4 y a z e.symm
  exact ⟨m, hn.sameBut sb haC, fun h3 sb3 => ⟨_, H', I2.turned (t' := s2.toks) (fun b o hb e => (sb3.2 b hb).trans e) f0 f1 f3 f4 f5, q⟩⟩
theorem dx_setDc (i : Nat) {y : Str} (hc : X.calm = true) (hN : X.N.Nodup) (hsw : swapsWith (.DictComp kx vx [⟨tg, iter, ifs, 0⟩] scope pos) (some (.Name y py)) spos.line X.env = pure true) (hi : DI X F0 tg iter wi wi') (ok : BlkOk X.N X.env.scope scope own) (hg : Blk X scope fun Y => DGx Y F0 (own.map (·.2)) tg g') (ht : Blk X scope fun Y => DTx Y F0 ifs tt') (hk : Blk X scope fun Y => DEx Y F0 kx tk') (he : Blk X scope fun Y => DEx Y F0 vx te')
    (hs : ∀ x, foldedSetIterable iter X.env x = pure x := by intro _; rfl) (hy : X.N[i]? = some y := by rfl) (hyl : X.env.scope.names.lookup y = some .local := by rfl) : DS X F0 (.Assign [.Name y py] (.DictComp kx vx [⟨tg, iter, ifs, 0⟩] scope pos) spos) (tAsg (tDc wi (lfG X.K F0 (own.map (·.2)) g') (lfT X.K F0 tt') (lfE X.K F0 tk') (lfE X.K F0 te') (own.map (·.2))) (gName i)) (dAsg (dDc wi' g' tt' tk' te' (own.map (·.2))) (hName i)) :=
  ⟨ps_setDc hc hN hy hyl hsw hi.pi ok (fun s H C cl fp => (hg s H C cl fp).pg) (fun s H C cl fp => (ht s H C cl fp).pt) (fun s H C cl fp => (hk s H C cl fp).pe) (fun s H C cl fp => (he s H C cl fp).pe) hs,
    ls_asg (le_dc hi.le lg_lfG gw_lfG (le_lfT _) (le_lfE _) (le_lfE _)) (dg_name (X := X) (F0 := F0) (pos := pos) i hN hy (Or.inl hyl) (.inr hyl)).le⟩
end
section
variable {X : Cx} {F0 : FZ} {a b c : Expr} {ta tb tc : TE} {ta' tb' tc' : DTE} {pos : Pos}
end
end DL

set_option maxRecDepth 100000
set_option maxHeartbeats 2000000
namespace DL
open PySem PySem.Spec PyProof.Rows L2

/-! ### calls that may raise, within a try or a def that raises -/
abbrev DXG := G → DXK
theorem SR.lessP {K : PySem.W.Frag} {F : FZ} {M : Mp} {H q : Hp} (s : SR K F M H) (h : Same q F.p) : SR K ⟨F.f, q, F.d⟩ M H :=
  ⟨s.fz, s.ok, s.dj, fun b o e => s.pz b o (h b o e), fun b o e => s.pf b o (h b o e), fun b o e => let ⟨u, h1, h2⟩ := s.mu b o e; ⟨u, h1, MR.monoS (F := F) (F' := ⟨F.f, q, F.d⟩) Sm.rfl' h2⟩, s.dz, s.df⟩
theorem XR.mono {K : PySem.W.Frag} {F F' : FZ} {fs : Option (List (Str × D))} {d : Option Addr} {H : Hp} (e : Sm F F') (h : XR K F fs d H) : XR K F' fs d H := by
  cases fs with
  | none => cases d <;> exact h
  | some l =>
    cases d with
    | none => exact h
    | some a => obtain ⟨gs, h1, h2⟩ := h; exact ⟨gs, h1, h2.monoS e⟩
section
variable {X : Cx} {K : PySem.W.Frag} {F0 : FZ} {e : Expr} {es : List Expr} {t : TA} {t' : DTA} {p pos : Pos}
end

/-! ### raise C() -/
/-- an error's class without fields of its own -/
structure ExCls (K : PySem.W.Frag) (mg : Str → Option Value) (x : Str) (C : Addr) : Prop where
  gC : mg x = some (.ref C)
  kC : PySem.W.keepIn K (.ref C) = true
  q : PySem.W.excIn K C [.type "ValueError", .type "Exception", .type "BaseException", .type "object"] "ValueError.__new__" = true
  sub : PySem.W.subIn K (.ref C) (.type "BaseException") = some true
  ty : PySem.W.typeIn K (.ref C) = some (.type "type")
section
variable {X : Cx} {F0 : FZ} {C : Addr} {x : Str} {p pos pos2 : Pos}
end

/-! ### try: .. except C as e: .. -/
def lfS (K : PySem.W.Frag) (F0 : FZ) (t' : DTS) : TS := fun D σ H => ∃ F γ M D', Bs F0 F ∧ SR K F M H ∧ GR K F γ σ ∧ t' D' γ M ∧ ER K F D' D
theorem lfS_pss {X : Cx} {F0 : FZ} {st : List Stmt} {t : TS} {t' : DTS} (h : DB X F0 st t t') : PSs X st (lfS X.K F0 t') := by
  refine ⟨fun pins s σ H D I q => ?_⟩
  obtain ⟨F, γ, M, D', e0, s1, g, q, er⟩ := q
  exact h.ps.run pins s σ H D I (h.le F γ M σ H D' D e0 s1 g q er)
section
variable {X : Cx} {F0 : FZ} {x n : Str} {c : Value} {body suite : List Stmt} {b₀ : Stmt} {np pos pos' : Pos} {t' : DXG → DTS} {u' : Addr → Addr → DTS} {Eout : DXG}
end
end DL

set_option maxRecDepth 100000
set_option maxHeartbeats 2000000
namespace DL
open PySem PySem.Spec PyProof.Rows L2

/-! ### classes as values, isinstance(e, C) in an except clause -/
section
variable {X : Cx} {K : PySem.W.Frag} {F0 : FZ}
end
end DL

set_option maxRecDepth 100000
set_option maxHeartbeats 2000000
namespace DL
open PySem PySem.Spec PyProof.Rows L2

/-! ### len(set(..)) of any ints -/
section
variable {X : Cx} {K : PySem.W.Frag} {F0 : FZ} {a : Expr} {ta : TE} {ta' : DTE} {pos : Pos}
end
end DL

set_option maxRecDepth 100000
set_option maxHeartbeats 2000000
namespace DL
open PySem PySem.Spec PyProof.Rows L2

/-! ### one error's class against another -/
section
variable {K : PySem.W.Frag} {S C : Addr} {b : Bool}
end
end DL

set_option maxRecDepth 100000
set_option maxHeartbeats 2000000
namespace DL
open PySem PySem.Spec PyProof.Rows L2

/-! ### min, max of one list or tuple of ints -/
section
variable {prog : Program} {w : World} {A : Around} {E : Value → Shared → Prop} {s : Shared} {l : Addr} {its : List Value} {ns : List Int} {Q : Value → Shared → Prop}
end
section
variable {X : Cx} {K : PySem.W.Frag} {F0 : FZ}
end

/-! ### == of an instance by the text's own __eq__ -/
section
variable {X : Cx} {F0 : FZ} {a b : Expr} {ta tb : TE} {ta' tb' : DTE} {pos : Pos}
/-- the text's own __eq__ of the class at C -/
structure DEqM (P : Program) (w : World) (K : PySem.W.Frag) (mg : Str → Option Value) (base : Heap) (k : Nat) (C : Addr) (sp : DSp) : Prop where
  ex : ∃ f fd ps, FnOk P w K mg base CX0 k f fd ps (liftSp K sp) ∧ PySem.W.findIn K (.ref C) "__eq__" = some (some (.ref f)) ∧ PySem.W.isFn K (.ref f) = true ∧ Binds K fd ps []
end
end DL

set_option maxRecDepth 100000
set_option maxHeartbeats 2000000
namespace DL
open PySem PySem.Spec PyProof.Rows L2

/-! ### isinstance against a class of the text -/
/-- a class of which there are instances -/
structure ICl (K : PySem.W.Frag) (C : Addr) : Prop where
  cl : Cls K C
  ha : PySem.W.findIn K (.ref C) "__class__" = some (some (.builtin "object.__class__"))
  hn : PySem.W.specialIn K (.builtin "object.__class__") "__get__" = some (some (.builtin "getset_descriptor.__get__"))
  ht : PySem.W.takesIn K (.builtin "object.__class__") = some true
  hm : PySem.W.mroIn K C (.type "object") = some true
structure IsC (K : PySem.W.Frag) (C : Addr) : Prop where
  is : PySem.W.isClsIn K C = true
  ty : PySem.W.typeIn K (.ref C) = some (.type "type")
section
variable {X : Cx} {K : PySem.W.Frag} {F0 : FZ} {C : Addr}
end
end DL

set_option maxRecDepth 100000
set_option maxHeartbeats 2000000
namespace DL
open PySem PySem.Spec PyProof.Rows L2

/-! ### [e for a in .. for b in ..] -/
section
variable {X : Cx} {K : PySem.W.Frag} {F0 : FZ}
def DIx (X : Cx) (F0 : FZ) (tg iter : Expr) (wi' : DTI) : Prop := ∃ wi, DI X F0 tg iter wi wi'
def lfI (K : PySem.W.Frag) (F0 : FZ) (t' : DTI) : TI := fun σ H Q => ∃ F γ M Q', Bs F0 F ∧ SR K F M H ∧ GR K F γ σ ∧ t' γ M Q' ∧ ∀ F1 items J M1 H1, FLe F F1 → SR K F1 M1 H1 → JR K F1 items J → Q' items M1 → Q J H1
theorem DIx.pi {tg iter : Expr} {wi' : DTI} (h : DIx X F0 tg iter wi') : PI X tg iter (lfI X.K F0 wi') := by
  obtain ⟨wi, h⟩ := h
  refine ⟨fun pins s σ H Q I q => ?_⟩
  obtain ⟨F, γ, M, Q', e0, s1, g, q, k⟩ := q
  exact h.pi.run pins s σ H Q I (h.le F γ M σ H Q' Q e0 s1 g q k)
variable {e tg tg1 elt iter iter1 : Expr} {ifs ifs1 : List Expr} {scope : Scope} {own : List (Str × Nat)} {vs1 : List Nat} {pos : Pos} {wi : TI} {wi' wi1' : DTI} {g' g1' : DTG} {tt' tt1' : DTT} {te' : DTE}
end
end DL

set_option maxRecDepth 100000
set_option maxHeartbeats 2000000
namespace DL
open PySem PySem.Spec PyProof.Rows L2

/-! ### dicts are frozen -/
section
variable {K : PySem.W.Frag} {F : FZ} {M : Mp} {H : Hp}
def FZ.putD (F : FZ) (a : Addr) (o : HO) : FZ := ⟨F.f, F.p, upd F.d a o⟩
theorem putD_le {p : Addr} {o : HO} (h : F.d p = none) : FLe F (F.putD p o) := ⟨⟨Same.refl _, fun b u e => by show upd F.d p o b = _; rw [upd_ne (ne_of_none e h)]; exact e⟩, rfl⟩
theorem SR.frzD (s : SR K F M H) {p : Addr} {o : MO} {u : HO} (h : M p = some o) (hu : H p = some u) (dc : DcO u) : SR K (F.putD p u) (mdel M p) H := by
  have hF := s.dj p _ h
  have hP := s.notP h
  have hD := s.notD h
  have le := putD_le (F := F) (o := u) hD
  refine ⟨s.fz, s.ok, fun b x q => ?_, s.pz, fun b x q => ?_, fun b x q => ?_, fun b x q => ?_, fun b x q => ?_⟩
  · by_cases w : b = p
    · subst w; rw [mdel_same] at q; cases q
    · rw [mdel_ne w] at q; exact s.dj _ _ q
  · have q' : F.p b = some x := q
    have w : b ≠ p := ne_of_none q' hP
    obtain ⟨a1, a2, a3, a4⟩ := s.pf b x q'
    exact ⟨a1, by rw [mdel_ne w]; exact a2, a3, fun v hv => a4 v (by
      have hv' : upd F.d p u b = some v := hv
      rw [upd_ne w] at hv'; exact hv')⟩
  · by_cases w : b = p
    · subst w; rw [mdel_same] at q; cases q
    · rw [mdel_ne w] at q
      obtain ⟨v, a1, a2⟩ := s.mu b x q
      exact ⟨v, a1, a2.mono le⟩
  · have q' : upd F.d p u b = some x := q
    by_cases w : b = p
    · subst w; rw [upd_same] at q'; cases q'; exact .inl hu
    · rw [upd_ne w] at q'; exact s.dz _ _ q'
  · have q' : upd F.d p u b = some x := q
    by_cases w : b = p
    · subst w; rw [upd_same] at q'; cases q'; exact ⟨hF, mdel_same, dc⟩
    · rw [upd_ne w] at q'
      obtain ⟨a1, a2, a3⟩ := s.df b x q'
      exact ⟨a1, by rw [mdel_ne w]; exact a2, a3⟩
theorem kvr_parts {κ : Type} : ∀ {l : List (κ × D)} {m : List (κ × V)}, KVR K F l m → l.map (·.1) = m.map (·.1) ∧ RpL K F (l.map (·.2)) (m.map (·.2))
  | _, _, .nil => ⟨rfl, .nil⟩
  | (k, d) :: l, (k2, v) :: m, .cons r t => by
    obtain ⟨e, r⟩ := r
    simp only at e r
    subst e
    obtain ⟨h1, h2⟩ := kvr_parts t
    exact ⟨by rw [List.map_cons, List.map_cons, h1], .cons r h2⟩
theorem SR.freezeK (s : SR K F M H) {p : Addr} {kvs : List (Key × D)} (h : M p = some (.dK kvs)) : ∃ F1, FLe F F1 ∧ SR K F1 (mdel M p) H ∧ Rp K F1 (.dk (kvs.map (·.1)) (kvs.map (·.2))) (.ref p) := by
  obtain ⟨u, h1, h2⟩ := s.mu p _ h
  cases h2 with
  | dK r z =>
    rename_i ps
    have le := putD_le (F := F) (o := .dK ps) (s.notD h)
    obtain ⟨e1, e2⟩ := kvr_parts r
    refine ⟨_, le, s.frzD h h1 z, ?_⟩
    rw [e1]
    exact .dk upd_same (e2.mono le)
theorem SR.freezeT (s : SR K F M H) {p : Addr} {kvs : List (List Key × D)} (h : M p = some (.dT kvs)) : ∃ F1, FLe F F1 ∧ SR K F1 (mdel M p) H ∧ Rp K F1 (.dt (kvs.map (·.1)) (kvs.map (·.2))) (.ref p) := by
  obtain ⟨u, h1, h2⟩ := s.mu p _ h
  cases h2 with
  | dT r z zz =>
    rename_i ps
    have le := putD_le (F := F) (o := .dT ps) (s.notD h)
    obtain ⟨e1, e2⟩ := kvr_parts r
    refine ⟨_, le, s.frzD h h1 ⟨z, zz⟩, ?_⟩
    rw [e1]
    exact .dt upd_same (e2.mono le)
end
/-- ghost: what a name holds is frozen: a list, a dict -/
def frzV (M : Mp) : D → Option (D × Mp)
  | .ref p => (match M p with
    | some (.lst l) => some (.lst l, mdel M p)
    | some (.dK kvs) => some (.dk (kvs.map (·.1)) (kvs.map (·.2)), mdel M p)
    | some (.dT kvs) => some (.dt (kvs.map (·.1)) (kvs.map (·.2)), mdel M p)
    | _ => none)
  | _ => none
theorem frzV_rp {K : PySem.W.Frag} {F : FZ} {M M' : Mp} {H : Hp} {d d' : D} {v : V} (s : SR K F M H) (r : Rp K F d v) (h : frzV M d = some (d', M')) : ∃ F1, FLe F F1 ∧ SR K F1 M' H ∧ Rp K F1 d' v := by
  cases r with
  | ref p =>
    simp only [frzV] at h
    split at h
    · rename_i hm
      cases h
      obtain ⟨xs, s1, e1, r1⟩ := s.freeze hm
      exact ⟨_, e1, s1, r1⟩
    · rename_i hm
      cases h
      exact s.freezeK hm
    · rename_i hm
      cases h
      exact s.freezeT hm
    · cases h
  | _ => simp [frzV] at h
section
variable {X : Cx} {K : PySem.W.Frag} {F0 : FZ} {t : TS} {t' : DTS} {e : Expr} {te : TE} {te' : DTE}
def dFrzA (i : Nat) (t : DTS) : DTS := fun D γ M => ∃ d d' M', γ[i]? = some (some d) ∧ frzV M d = some (d', M') ∧ t D (γ.set i (some d')) M'
theorem db_frzA {sts : List Stmt} (i : Nat) (h : DB X F0 sts t t') : DB X F0 sts t (dFrzA i t') := ⟨h.ps, fun F γ M σ H D' D e0 s g q er => by
  obtain ⟨d, d', M', e, hf, q⟩ := q
  obtain ⟨v, hv, rv⟩ := g.at' i _ e
  obtain ⟨F1, e1, s1, r1⟩ := frzV_rp s rv hf
  exact h.le _ _ _ σ H D' D (e0.tr e1) s1 ((g.mono e1).reset hv r1) q (er.mono e1)⟩
end

/-! ### locks -/
section
variable {K : PySem.W.Frag} {F : FZ} {M : Mp} {H : Hp}
theorem dco_no {u : HO} (dc : DcO u) : (∀ od v, u ≠ .frz od v) ∧ (∀ xs, u ≠ .tup xs) ∧ Mut (some u) := by
  cases u with
  | dK _ => exact ⟨fun _ _ z => (nomatch z), fun _ z => (nomatch z), trivial⟩
  | dT _ => exact ⟨fun _ _ z => (nomatch z), fun _ z => (nomatch z), trivial⟩
  | _ => exact False.elim dc
theorem SR.over (s : SR K F M H) {a : Addr} {o : HO} (hf : F.f a = none) (hp : F.p a = none) (hm : M a = none) (hd : ∀ u, F.d a = some u → Rd (upd H a o) a u) : SR K F M (upd H a o) := by
  refine ⟨fun b x e => by rw [upd_ne (ne_of_none e hf)]; exact s.fz _ _ e, s.ok, s.dj, fun b x e => by rw [upd_ne (ne_of_none e hp)]; exact s.pz _ _ e, s.pf, fun b x e => ?_, fun b x e => ?_, s.df⟩
  · obtain ⟨v, h1, h2⟩ := s.mu b x e
    exact ⟨v, by rw [upd_ne (mne_of_none e hm)]; exact h1, h2⟩
  · by_cases w : b = a
    · subst w; exact hd x e
    · exact rd_upd (s.dz b x e) w
/-- a frozen dict under a lock: told as somebody else's -/
theorem SR.lockIn (s : SR K F M H) {d : Addr} {u : HO} {od : Obj} (hd : F.d d = some u) (h : H d = some (.frz od u)) : SR K (F.hide d (.frz od u)) M H ∧ Same F.p (F.hide d (.frz od u)).p := by
  obtain ⟨h1, h2, dc⟩ := s.df d u hd
  refine ⟨s.hide h1 h2 h (fun _ z => nomatch z) (fun v hv => by rw [hd] at hv; cases hv; exact ⟨od, rfl⟩), fun b o e => ?_⟩
  show upd F.p d _ b = some o
  by_cases w : b = d
  · subst w
    have := s.pz _ _ e
    rw [h] at this
    rw [upd_same]; exact this
  · rw [upd_ne w]; exact e
theorem SR.lockOn (s : SR K F M H) {d : Addr} {u : HO} (hd : F.d d = some u) (h : H d = some u) (od : Obj) : SR K F M (upd H d (.frz od u)) ∧ F.p d = none := by
  obtain ⟨h1, h2, dc⟩ := s.df d u hd
  have hp : F.p d = none := by
    cases e : F.p d with
    | none => rfl
    | some o =>
      have a := s.pz _ _ e
      rw [h] at a; cases a
      obtain ⟨od', z⟩ := (s.pf d _ e).2.2.2 u hd
      exact absurd z ((dco_no dc).1 _ _)
  exact ⟨s.over h1 hp h2 fun v hv => by rw [hd] at hv; cases hv; exact .inr ⟨od, upd_same⟩, hp⟩
theorem SR.lockOff (s : SR K F M H) {d : Addr} {u : HO} (hd : F.d d = some u) (hp : F.p d = none) : SR K F M (upd H d u) := by
  obtain ⟨h1, h2, dc⟩ := s.df d u hd
  exact s.over h1 hp h2 fun v hv => by rw [hd] at hv; cases hv; exact .inl upd_same
end
def tOrLock (t : TE) : TE := fun σ H Q => t σ H Q ∨ tLockE t σ H Q
theorem pe_orLock {X : Cx} {e : Expr} {t : TE} (h : PE X e t) : PE X e (tOrLock t) := ⟨fun pins s σ H Q I q => q.elim (fun q => h.run pins s σ H Q I q) fun q => (pe_lock h).run pins s σ H Q I q⟩
def tOrLockS (t : TS) : TS := fun D σ H => t D σ H ∨ tLock t D σ H
theorem ps_orLock {X : Cx} {st : Stmt} {t : TS} (h : PS X st t) : PS X st (tOrLockS t) := ⟨fun pins s σ H D I q => q.elim (fun q => h.run pins s σ H D I q) fun q => (ps_lock h).run pins s σ H D I q⟩
section
variable {K : PySem.W.Frag} {F0 : FZ}
/-- an expression that runs under a lock of the dict at d -/
theorem le_lockE {t : TE} {F : FZ} {γ : G} {M : Mp} {σ : L2.St} {H : Hp} {Q' : DK} {Q : VK} {d : Addr} {u : HO} (e0 : Bs F0 F) (s : SR K F M H) (g : GR K F γ σ) (hd : F.d d = some u)
    (h : ∀ (od : Obj) (F1 : FZ) (H1 : Hp) (Q1 : VK), Bs F0 F1 → SR K F1 M H1 → GR K F1 γ σ → F1.f = F.f → F1.d = F.d → F1.p d = some (.frz od u) → H1 d = some (.frz od u) → (∀ F2 dd v M1 H2, FLe F1 F2 → SR K F2 M1 H2 → Rp K F2 dd v → Q' dd M1 → Q1 v H2) → t σ H1 Q1)
    (k : ∀ F1 dd v M1 H1, FLe F F1 → SR K F1 M1 H1 → Rp K F1 dd v → Q' dd M1 → Q v H1) : tOrLock t σ H Q := by
  have gg : ∀ od, GR K (F.hide d (.frz od u)) γ σ := fun od => GR.monoS (F := F) (F' := F.hide d (.frz od u)) (Sm.rfl' (F := F)) g
  have fin : ∀ {F2 : FZ} {M1 : Mp} {H2 : Hp} {od : Obj}, FLe (F.hide d (.frz od u)) F2 → Same F.p (F.hide d (.frz od u)).p → SR K F2 M1 H2 → SR K ⟨F2.f, F.p, F2.d⟩ M1 H2 ∧ FLe F ⟨F2.f, F.p, F2.d⟩ ∧ H2 d = some (.frz od u) := fun {F2 M1 H2 od} e2 sp s2 =>
    ⟨s2.lessP (by rw [e2.e]; exact sp), ⟨e2.s, rfl⟩, s2.pz _ _ (by rw [e2.e]; exact upd_same)⟩
  rcases s.dz d u hd with hz | ⟨od, hz⟩
  · refine .inr ⟨d, u, hz, (dco_no (s.df d u hd).2.2).2.2, fun od => ?_⟩
    obtain ⟨s1, hp⟩ := s.lockOn hd hz od
    obtain ⟨s2, sp⟩ := s1.lockIn hd upd_same
    refine h od (F.hide d (.frz od u)) _ _ ⟨e0.f, e0.p.trans sp⟩ s2 (gg od) rfl rfl upd_same upd_same fun F2 dd v M1 H2 e2 s2 r2 q2 => ?_
    obtain ⟨z1, z2, z3⟩ := fin e2 sp s2
    refine ⟨z3, k ⟨F2.f, F.p, F2.d⟩ dd v M1 _ z2 (z1.lockOff (z2.s.2 _ _ hd) hp) (Rp.monoS (F := F2) (F' := ⟨F2.f, F.p, F2.d⟩) Sm.rfl' r2) q2⟩
  · obtain ⟨s2, sp⟩ := s.lockIn hd hz
    refine .inl (h od (F.hide d (.frz od u)) H Q ⟨e0.f, e0.p.trans sp⟩ s2 (gg od) rfl rfl upd_same hz fun F2 dd v M1 H2 e2 s2 r2 q2 => ?_)
    obtain ⟨z1, z2, z3⟩ := fin e2 sp s2
    exact k ⟨F2.f, F.p, F2.d⟩ dd v M1 _ z2 z1 (Rp.monoS (F := F2) (F' := ⟨F2.f, F.p, F2.d⟩) Sm.rfl' r2) q2
/-- a statement that runs under a lock of the dict at d -/
theorem ls_lockS {t : TS} {F : FZ} {γ : G} {M : Mp} {σ : L2.St} {H : Hp} {D' : DEnds} {D0 : Ends} {d : Addr} {u : HO} (e0 : Bs F0 F) (s : SR K F M H) (g : GR K F γ σ) (hd : F.d d = some u)
    (h : ∀ (od : Obj) (F1 : FZ) (H1 : Hp) (D1 : Ends), Bs F0 F1 → SR K F1 M H1 → GR K F1 γ σ → F1.f = F.f → F1.d = F.d → F1.p d = some (.frz od u) → H1 d = some (.frz od u) → ER K F1 D' D1 → t D1 σ H1)
    (er : ER K F D' D0) : tOrLockS t D0 σ H := by
  have gg : ∀ od, GR K (F.hide d (.frz od u)) γ σ := fun od => GR.monoS (F := F) (F' := F.hide d (.frz od u)) (Sm.rfl' (F := F)) g
  have fin : ∀ {F2 : FZ} {M1 : Mp} {H2 : Hp} {od : Obj}, FLe (F.hide d (.frz od u)) F2 → Same F.p (F.hide d (.frz od u)).p → SR K F2 M1 H2 → SR K ⟨F2.f, F.p, F2.d⟩ M1 H2 ∧ FLe F ⟨F2.f, F.p, F2.d⟩ ∧ H2 d = some (.frz od u) := fun {F2 M1 H2 od} e2 sp s2 =>
    ⟨s2.lessP (by rw [e2.e]; exact sp), ⟨e2.s, rfl⟩, s2.pz _ _ (by rw [e2.e]; exact upd_same)⟩
  have g2 : ∀ {F2 : FZ} {γ2 : G} {σ2 : L2.St}, GR K F2 γ2 σ2 → GR K ⟨F2.f, F.p, F2.d⟩ γ2 σ2 := fun {F2 γ2 σ2} x => GR.monoS (F := F2) (F' := ⟨F2.f, F.p, F2.d⟩) Sm.rfl' x
  have r2' : ∀ {F2 : FZ} {dd : D} {v : V}, Rp K F2 dd v → Rp K ⟨F2.f, F.p, F2.d⟩ dd v := fun {F2 dd v} x => Rp.monoS (F := F2) (F' := ⟨F2.f, F.p, F2.d⟩) Sm.rfl' x
  rcases s.dz d u hd with hz | ⟨od, hz⟩
  · refine .inr ⟨d, u, hz, (dco_no (s.df d u hd).2.2).2.2, fun od => ?_⟩
    obtain ⟨s1, hp⟩ := s.lockOn hd hz od
    obtain ⟨s2, sp⟩ := s1.lockIn hd upd_same
    refine h od (F.hide d (.frz od u)) _ _ ⟨e0.f, e0.p.trans sp⟩ s2 (gg od) rfl rfl upd_same upd_same ⟨fun F2 γ2 M1 σ2 H2 e2 s2 x2 q2 => ?_, fun F2 dd v M1 H2 e2 s2 r2 q2 => ?_, fun F2 γ2 M1 σ2 H2 e2 s2 x2 q2 => ?_, fun F2 γ2 M1 σ2 H2 e2 s2 x2 q2 => ?_⟩
    · obtain ⟨z1, z2, z3⟩ := fin e2 sp s2
      exact ⟨z3, er.nx _ γ2 M1 σ2 _ z2 (z1.lockOff (z2.s.2 _ _ hd) hp) (g2 x2) q2⟩
    · obtain ⟨z1, z2, z3⟩ := fin e2 sp s2
      exact ⟨z3, er.rt _ dd v M1 _ z2 (z1.lockOff (z2.s.2 _ _ hd) hp) (r2' r2) q2⟩
    · obtain ⟨z1, z2, z3⟩ := fin e2 sp s2
      exact ⟨z3, er.bk _ γ2 M1 σ2 _ z2 (z1.lockOff (z2.s.2 _ _ hd) hp) (g2 x2) q2⟩
    · obtain ⟨z1, z2, z3⟩ := fin e2 sp s2
      exact ⟨z3, er.ct _ γ2 M1 σ2 _ z2 (z1.lockOff (z2.s.2 _ _ hd) hp) (g2 x2) q2⟩
  · obtain ⟨s2, sp⟩ := s.lockIn hd hz
    refine .inl (h od (F.hide d (.frz od u)) H D0 ⟨e0.f, e0.p.trans sp⟩ s2 (gg od) rfl rfl upd_same hz ⟨fun F2 γ2 M1 σ2 H2 e2 s2 x2 q2 => ?_, fun F2 dd v M1 H2 e2 s2 r2 q2 => ?_, fun F2 γ2 M1 σ2 H2 e2 s2 x2 q2 => ?_, fun F2 γ2 M1 σ2 H2 e2 s2 x2 q2 => ?_⟩)
    · obtain ⟨z1, z2, z3⟩ := fin e2 sp s2
      exact er.nx _ γ2 M1 σ2 _ z2 z1 (g2 x2) q2
    · obtain ⟨z1, z2, z3⟩ := fin e2 sp s2
      exact er.rt _ dd v M1 _ z2 z1 (r2' r2) q2
    · obtain ⟨z1, z2, z3⟩ := fin e2 sp s2
      exact er.bk _ γ2 M1 σ2 _ z2 z1 (g2 x2) q2
    · obtain ⟨z1, z2, z3⟩ := fin e2 sp s2
      exact er.ct _ γ2 M1 σ2 _ z2 z1 (g2 x2) q2
/-- a walk over the keys of a locked dict -/
theorem jr_keys {F : FZ} {d : Addr} {od : Obj} {ps : List (Key × V)} (h : F.p d = some (.frz od (.dK ps))) : JR K F ((ps.map (·.1)).map keyD) (Itk d od ps) := by
  have hl : ((ps.map (·.1)).map keyD).length = ps.length := by simp
  refine jr_of (G := fun H => H d = some (.frz od (.dK ps))) (by rw [hl]; exact walk_keys) (fun F1 M1 H1 e s => s.pz _ _ (e.p _ _ _ h)) (fun i H hi q => ⟨q, by rw [hl] at hi; exact hi⟩) fun i x F1 M1 H1 v H2 e s hx y => ?_
  obtain ⟨rfl, k, w, hk, rfl⟩ := y
  rw [List.getElem?_map, List.getElem?_map, hk] at hx
  cases hx
  exact ⟨F1, FLe.refl _, s, keyD_rp k⟩
theorem jr_keysT {F : FZ} {d : Addr} {od : Obj} {ps : List (List Key × V)} (hz : ∀ p ∈ ps, p.1.length ≤ sizeLine) (h : F.p d = some (.frz od (.dT ps))) : JR K F ((ps.map (·.1)).map fun k => .tup (k.map keyD)) (Itkt d od ps) := by
  have hl : ((ps.map (·.1)).map fun k => D.tup (k.map keyD)).length = ps.length := by simp
  refine jr_of (G := fun H => H d = some (.frz od (.dT ps))) (by rw [hl]; exact walk_keysT) (fun F1 M1 H1 e s => s.pz _ _ (e.p _ _ _ h)) (fun i H hi q => ⟨q, by rw [hl] at hi; exact hi⟩) fun i x F1 M1 H1 v H2 e s hx y => ?_
  obtain ⟨rfl, k, w, q, hk, rfl, hq⟩ := y
  rw [List.getElem?_map, List.getElem?_map, hk] at hx
  cases hx
  obtain ⟨F2, e2, s2, r2⟩ := s.adoptT hq (by rw [List.length_map]; exact hz _ (List.mem_of_getElem? hk))
  exact ⟨F2, e2, s2, .tup r2 (keysD_rp _)⟩
end
end DL

set_option maxRecDepth 100000
set_option maxHeartbeats 2000000
namespace DL
open PySem PySem.Spec PyProof.Rows L2

/-! ### walks over a frozen dict -/
/-- a walk that wants the dict locked -/
def LIL (K : PySem.W.Frag) (F0 : FZ) (wi' : DTI) (wi : TI) : Prop := ∀ (F : FZ) (γ : G) (M : Mp) (σ : L2.St) (H : Hp) (R' : List D → Mp → Prop), Bs F0 F → SR K F M H → GR K F γ σ → wi' γ M R' →
  ∃ (d : Addr) (u : HO) (items : List D), F.d d = some u ∧ R' items M ∧ ∀ (od : Obj) (F1 : FZ) (H1 : Hp) (R : It → Hp → Prop), F1.p d = some (.frz od u) → H1 d = some (.frz od u) → Sm F F1 → (∀ J, (∀ F2, Bs F1 F2 → JR K F2 items J) → R J H1) → wi σ H1 R
def jKeys (i : Nat) : DTI := fun γ M R => match γ[i]? with
  | some (some (.dk ks _)) => R (ks.map keyD) M
  | some (some (.dt ks _)) => R (ks.map fun k => .tup (k.map keyD)) M
  | _ => False
section
variable {K : PySem.W.Frag} {F0 : FZ} {X : Cx}
theorem lil_keys (i : Nat) : LIL K F0 (jKeys i) (iKeys (tVar i)) := by
  intro F γ M σ H R' e0 s g q
  unfold jKeys at q
  split at q
  · rename_i ks l hi
    obtain ⟨v, hv, rv⟩ := g.at' i _ hi
    cases rv with
    | dk a b => exact ⟨_, _, _, a, q, fun od F1 H1 R hp hz sm k => ⟨_, hv, _, od, rfl, .inl ⟨_, hz, k _ fun F2 b2 => jr_keys (b2.p _ _ hp)⟩⟩⟩
  · rename_i ks l hi
    obtain ⟨v, hv, rv⟩ := g.at' i _ hi
    cases rv with
    | dt a b =>
      have dc : DcO (.dT _) := (s.df _ _ a).2.2
      exact ⟨_, _, _, a, q, fun od F1 H1 R hp hz sm k => ⟨_, hv, _, od, rfl, .inr ⟨_, hz, k _ fun F2 b2 => jr_keysT dc.2 (b2.p _ _ hp)⟩⟩⟩
  · exact q.elim
theorem Bs.trans {F F1 F2 : FZ} (a : Bs F F1) (b : Bs F1 F2) : Bs F F2 := ⟨a.f.trans' b.f, a.p.trans b.p⟩
theorem LG.base {F1 : FZ} {g' : DTG} {g : TG} (h : LG K F0 g' g) (b : Bs F0 F1) : LG K F1 g' g := fun F γ M σ H d v Q' Q e0 => h F γ M σ H d v Q' Q (b.trans e0)
theorem LT.base {F1 : FZ} {t' : DTT} {t : TT} (h : LT K F0 t' t) (b : Bs F0 F1) : LT K F1 t' t := fun F γ M σ H Q' Q e0 => h F γ M σ H Q' Q (b.trans e0)
theorem LE.base {F1 : FZ} {t' : DTE} {t : TE} (h : LE K F0 t' t) (b : Bs F0 F1) : LE K F1 t' t := fun F γ M σ H Q' Q e0 => h F γ M σ H Q' Q (b.trans e0)
theorem LS.base {F1 : FZ} {t' : DTS} {t : TS} (h : LS K F0 t' t) (b : Bs F0 F1) : LS K F1 t' t := fun F γ M σ H D' D e0 => h F γ M σ H D' D (b.trans e0)
/-- known items -/
theorem li_const {items : List D} {J : It} (h : ∀ F, Bs F0 F → JR K F items J) : LI K F0 (fun _ M R => R items M) (fun _ H R => R J H) := fun F γ M σ H R' R e0 s g q k => k F items J M H (FLe.refl F) s (h F e0) q
theorem ls_for {wi : TI} {wi' : DTI} {g : TG} {g' : DTG} {tb : TS} {tb' : DTS} (hi : LI K F0 wi' wi) (hg : LG K F0 g' g) (hb : LS K F0 tb' tb) : LS K F0 (dFor wi' g' tb') (tFor wi g tb) := by
  intro F γ M σ H D' D0 e0 s gr q er
  refine hi F γ M σ H _ _ e0 s gr q fun F1 items J M1 H1 e1 s1 j1 q1 => ?_
  obtain ⟨I, h0, step, fin⟩ := q1
  refine ⟨fun i m σ H => m = items.length - i ∧ i ≤ items.length ∧ ∃ F2 γ2 M2, FLe F1 F2 ∧ SR K F2 M2 H ∧ GR K F2 γ2 σ ∧ I i γ2 M2, ⟨items.length, by simp, Nat.zero_le _, F1, γ, M1, FLe.refl F1, s1, gr.mono e1, h0⟩, ?_⟩
  rintro i m σ2 H2 ⟨rfl, hi', F2, γ2, M2, e2, s2, g2, q2⟩
  have j2 := j1 i F2 M2 H2 e2.bj s2
  by_cases hlt : i < items.length
  · have hd : items[i]? = some items[i] := List.getElem?_eq_getElem hlt
    obtain ⟨go, y⟩ := j2.2 _ hd
    refine .inr ⟨go, fun σ' H' => ∃ F2 γ2 M2, FLe F1 F2 ∧ SR K F2 M2 H' ∧ GR K F2 γ2 σ' ∧ I (i + 1) γ2 M2, fun σ' H' h => ⟨items.length - (i + 1), by omega, rfl, hlt, h⟩, fun x H3 yy => ?_⟩
    obtain ⟨F3, e3, s3, r3⟩ := y x H3 yy
    refine hg F3 γ2 M2 σ2 H3 _ x _ _ ((e0.tr e1).tr (e2.trans e3)) s3 (g2.mono e3) r3 (step i _ γ2 M2 hd q2) fun F4 γ4 M4 σ4 H4 e4 s4 g4 q4 => ?_
    refine hb F4 γ4 M4 σ4 H4 _ _ (((e0.tr e1).tr (e2.trans e3)).tr e4) s4 g4 q4 ⟨?_, fun F5 d v M5 H5 e5 => er.rt F5 d v M5 H5 ((e1.trans ((e2.trans e3).trans e4)).trans e5), fun F5 γ5 M5 σ5 H5 e5 => er.nx F5 γ5 M5 σ5 H5 ((e1.trans ((e2.trans e3).trans e4)).trans e5), ?_⟩
    · intro F5 γ5 M5 σ5 H5 e5 s5 g5 q5
      exact ⟨F5, γ5, M5, (((e2.trans e3).trans e4).trans e5), s5, g5, q5⟩
    · intro F5 γ5 M5 σ5 H5 e5 s5 g5 q5
      exact ⟨F5, γ5, M5, (((e2.trans e3).trans e4).trans e5), s5, g5, q5⟩
  · have e : i = items.length := by omega
    subst e
    exact .inl ⟨j2.1 (Nat.le_refl _), er.nx F2 γ2 M2 σ2 H2 (e1.trans e2) s2 g2 (fin γ2 M2 q2)⟩
/-- a loop over a frozen dict -/
theorem ls_forL {wi : TI} {wi' : DTI} {g : TG} {g' : DTG} {tb : TS} {tb' : DTS} (hi : LIL K F0 wi' wi) (hg : LG K F0 g' g) (hb : LS K F0 tb' tb) : LS K F0 (dFor wi' g' tb') (tOrLockS (tFor wi g tb)) := by
  intro F γ M σ H D' D0 e0 s gr q er
  obtain ⟨d, u, items, hd, q, walk⟩ := hi F γ M σ H _ e0 s gr q
  refine ls_lockS e0 s gr hd (fun od F1 H1 D1 b1 s1 g1 ef ed hp hz er1 => ?_) er
  refine walk od F1 H1 _ hp hz ⟨by rw [ef]; exact Same.refl _, by rw [ed]; exact Same.refl _⟩ fun J hJ => ?_
  have b2 := b1
  exact ls_for (F0 := F1) (wi' := fun _ M R => R items M) (wi := fun _ H R => R J H) (li_const hJ) (hg.base b1) (hb.base b1) F1 γ M σ H1 D' D1 (Bs.refl _) s1 g1 q er1
theorem le_lcL {wi : TI} {wi' : DTI} {g : TG} {g' : DTG} {tt : TT} {tt' : DTT} {te : TE} {te' : DTE} {vs : List Nat} (hi : LIL K F0 wi' wi) (hg : LG K F0 g' g) (hw : GW vs g) (ht : LT K F0 tt' tt) (he : LE K F0 te' te) : LE K F0 (dLc wi' g' tt' te' vs) (tOrLock (tLc wi g tt te vs)) := by
  intro F γ M σ H Q' Q e0 s gr q k
  obtain ⟨d, u, items, hd, q, walk⟩ := hi F γ M σ H _ e0 s gr q
  refine le_lockE e0 s gr hd (fun od F1 H1 Q1 b1 s1 g1 ef ed hp hz k1 => ?_) k
  refine walk od F1 H1 _ hp hz ⟨by rw [ef]; exact Same.refl _, by rw [ed]; exact Same.refl _⟩ fun J hJ => ?_
  exact le_lc (F0 := F1) (wi' := fun _ M R => R items M) (wi := fun _ H R => R J H) (li_const hJ) (hg.base b1) hw (ht.base b1) (he.base b1) F1 γ M σ H1 Q' Q1 (Bs.refl _) s1 g1 q k1
theorem ls_asgLock {t : TE} {t' : DTE} {g : TG} {g' : DTG} (hg : LG K F0 g' g) (h : ∀ (F : FZ) (γ : G) (M : Mp) (σ : L2.St) (H : Hp) (Q' : DK), Bs F0 F → SR K F M H → GR K F γ σ → t' γ M Q' → ∃ (d : Addr) (u : HO), F.d d = some u ∧
    ∀ (od : Obj) (F1 : FZ) (H1 : Hp) (Q1 : VK), Bs F0 F1 → SR K F1 M H1 → GR K F1 γ σ → F1.f = F.f → F1.d = F.d → F1.p d = some (.frz od u) → H1 d = some (.frz od u) → (∀ F2 dd v M1 H2, FLe F1 F2 → SR K F2 M1 H2 → Rp K F2 dd v → Q' dd M1 → Q1 v H2) → t σ H1 Q1) :
    LS K F0 (dAsg t' g') (tOrLockS (tAsg t g)) := by
  intro F γ M σ H D' D0 e0 s gr q er
  obtain ⟨d, u, hd, run⟩ := h F γ M σ H _ e0 s gr q
  refine ls_lockS e0 s gr hd (fun od F1 H1 D1 b1 s1 g1 ef ed hp hz er1 => ?_) er
  refine run od F1 H1 _ b1 s1 g1 ef ed hp hz fun F2 dd v M1 H2 e2 s2 r2 q2 => ?_
  exact hg F2 γ M1 σ H2 dd v _ _ (b1.tr e2) s2 (g1.mono e2) r2 q2 fun F3 γ3 M3 σ3 H3 e3 s3 g3 q3 => er1.nx F3 γ3 M3 σ3 H3 (e2.trans e3) s3 g3 q3
theorem ls_setLcL {wi : TI} {wi' : DTI} {g g2 : TG} {g' g2' : DTG} {tt : TT} {tt' : DTT} {te : TE} {te' : DTE} {vs : List Nat} (hi : LIL K F0 wi' wi) (hg : LG K F0 g' g) (hw : GW vs g) (ht : LT K F0 tt' tt) (he : LE K F0 te' te) (hg2 : LG K F0 g2' g2) : LS K F0 (dAsg (dLc wi' g' tt' te' vs) g2') (tOrLockS (tAsg (tLc wi g tt te vs) g2)) :=
  ls_asgLock hg2 fun F γ M σ H Q' e0 s gr q => by
    obtain ⟨d, u, items, hd, q, walk⟩ := hi F γ M σ H _ e0 s gr q
    refine ⟨d, u, hd, fun od F1 H1 Q1 b1 s1 g1 ef ed hp hz k1 => ?_⟩
    refine walk od F1 H1 _ hp hz ⟨by rw [ef]; exact Same.refl _, by rw [ed]; exact Same.refl _⟩ fun J hJ => ?_
    exact le_lc (F0 := F1) (wi' := fun _ M R => R items M) (wi := fun _ H R => R J H) (li_const hJ) (hg.base b1) hw (ht.base b1) (he.base b1) F1 γ M σ H1 Q' Q1 (Bs.refl _) s1 g1 q k1
end
/-- a walked dict: how the kit walks it -/
structure DIL (X : Cx) (F0 : FZ) (tg iter : Expr) (wi : TI) (wi' : DTI) : Prop where
  pi : PI X tg iter wi
  le : LIL X.K F0 wi' wi
section
variable {X : Cx} {F0 : FZ} {tg e : Expr} {i : Nat} {pos apos cpos : Pos}
theorem dil_keys (h : DE X F0 e (tVar i) (dVar i)) : DIL X F0 tg e (iKeys (tVar i)) (jKeys i) := ⟨pi_keys h.pe, lil_keys i⟩
variable {iter elt : Expr} {body : List Stmt} {ifs : List Expr} {scope : Scope} {own : List (Str × Nat)} {spos py : Pos} {wi : TI} {wi' : DTI} {g : TG} {g' : DTG} {tb : TS} {tb' : DTS} {tt' : DTT} {te' : DTE}
theorem ds_forL (hp : PassesOwn (model X.prog X.w) X.A X.env X.xe) (hc : X.calm = true) (hi : DIL X F0 tg iter wi wi') (hg : DG X F0 tg g g') (hb : DB X F0 body tb tb') (hs : ∀ x, foldedSetIterable iter X.env x = pure x := by intro _; rfl) : DS X F0 (.For tg iter body [] pos) (tOrLockS (tFor wi g tb)) (dFor wi' g' tb') :=
  ⟨ps_orLock (ps_for hp hc hi.pi hg.pg hb.ps hs), ls_forL hi.le hg.le hb.le⟩
theorem dx_lcL (hc : X.calm = true) (hN : X.N.Nodup) (hi : DIL X F0 tg iter wi wi') (ok : BlkOk X.N X.env.scope scope own) (hg : Blk X scope fun Y => DGx Y F0 (own.map (·.2)) tg g') (ht : Blk X scope fun Y => DTx Y F0 ifs tt') (he : Blk X scope fun Y => DEx Y F0 elt te') (hs : ∀ x, foldedSetIterable iter X.env x = pure x := by intro _; rfl) :
    DE X F0 (.ListComp elt [⟨tg, iter, ifs, 0⟩] scope pos) (tOrLock (tLc wi (lfG X.K F0 (own.map (·.2)) g') (lfT X.K F0 tt') (lfE X.K F0 te') (own.map (·.2)))) (dLc wi' g' tt' te' (own.map (·.2))) :=
  ⟨pe_orLock (pe_lc hc hN hi.pi ok (fun s H C cl fp => (hg s H C cl fp).pg) (fun s H C cl fp => (ht s H C cl fp).pt) (fun s H C cl fp => (he s H C cl fp).pe) hs), le_lcL hi.le lg_lfG gw_lfG (le_lfT _) (le_lfE _)⟩
theorem dx_setLcL (j : Nat) {y : Str} (hc : X.calm = true) (hN : X.N.Nodup) (hsw : swapsWith (.ListComp elt [⟨tg, iter, ifs, 0⟩] scope pos) (some (.Name y py)) spos.line X.env = pure true) (hi : DIL X F0 tg iter wi wi') (ok : BlkOk X.N X.env.scope scope own) (hg : Blk X scope fun Y => DGx Y F0 (own.map (·.2)) tg g') (ht : Blk X scope fun Y => DTx Y F0 ifs tt') (he : Blk X scope fun Y => DEx Y F0 elt te')
    (hs : ∀ x, foldedSetIterable iter X.env x = pure x := by intro _; rfl) (hy : X.N[j]? = some y := by rfl) (hyl : X.env.scope.names.lookup y = some .local := by rfl) : DS X F0 (.Assign [.Name y py] (.ListComp elt [⟨tg, iter, ifs, 0⟩] scope pos) spos) (tOrLockS (tAsg (tLc wi (lfG X.K F0 (own.map (·.2)) g') (lfT X.K F0 tt') (lfE X.K F0 te') (own.map (·.2))) (gName j))) (dAsg (dLc wi' g' tt' te' (own.map (·.2))) (hName j)) :=
  ⟨ps_orLock (ps_setLc hc hN hy hyl hsw hi.pi ok (fun s H C cl fp => (hg s H C cl fp).pg) (fun s H C cl fp => (ht s H C cl fp).pt) (fun s H C cl fp => (he s H C cl fp).pe) hs), ls_setLcL hi.le lg_lfG gw_lfG (le_lfT _) (le_lfE _) (dg_name (X := X) (F0 := F0) (pos := pos) j hN hy (Or.inl hyl) (.inr hyl)).le⟩
end
end DL

set_option maxRecDepth 100000
set_option maxHeartbeats 2000000
namespace DL
open PySem PySem.Spec PyProof.Rows L2

/-! ### walks over a changeable list: it is out of reach meanwhile -/
section
variable {K : PySem.W.Frag} {F0 : FZ} {X : Cx}
end
section
variable {X : Cx} {F0 : FZ} {tg iter elt : Expr} {body : List Stmt} {ifs : List Expr} {scope : Scope} {own : List (Str × Nat)} {pos : Pos} {g : TG} {g' : DTG} {tb : TS} {tb' : DTS} {tt' : DTT} {te' : DTE} {i : Nat}
end
end DL

set_option maxRecDepth 100000
set_option maxHeartbeats 2000000
namespace DL
open PySem PySem.Spec PyProof.Rows L2

/-! ### == of lists that may change -/
section
variable {X : Cx} {K : PySem.W.Frag} {F0 : FZ} {a b : Expr} {ta tb : TE} {ta' tb' : DTE} {pos : Pos}
end
end DL

set_option maxRecDepth 100000
set_option maxHeartbeats 2000000
namespace DL
open PySem PySem.Spec PyProof.Rows L2

/-! ### != of instances whose class has an own __eq__ and no own __ne__ -/
/-- the class at C leaves != to object -/
structure NeOf (K : PySem.W.Frag) (C : Addr) : Prop where
  ne : PySem.W.findIn K (.ref C) "__ne__" = some (some (.builtin "object.__ne__"))
  hm : PySem.W.mroIn K C (.type "object") = some true
section
variable {prog : Program} {w : World} {A : Around} {E : Value → Shared → Prop} {s : Shared} {K : PySem.W.Frag} {x C f : Addr} {ox : Obj} {od : Option Obj} {b : Value}
end
section
variable {X : Cx} {F0 : FZ} {a b : Expr} {ta tb : TE} {ta' tb' : DTE} {pos : Pos}
end
end DL

set_option maxRecDepth 100000
set_option maxHeartbeats 2000000
namespace DL
open PySem PySem.Spec PyProof.Rows L2

/-! ### the place of an int in a list of ints -/
section
variable {X : Cx} {K : PySem.W.Frag} {F0 : FZ} {o e : Expr} {to : TE} {to' : DTE} {apos cpos : Pos}
end
end DL

set_option maxRecDepth 100000
set_option maxHeartbeats 2000000
namespace DL
open PySem PySem.Spec PyProof.Rows L2

/-! ### tuples of the written part, by a global name -/
section
variable {X : Cx} {K : PySem.W.Frag} {F0 : FZ}
/-- the tuple behind a global name -/
structure GT (K : PySem.W.Frag) (mg : Str → Option Value) (x : Str) (ds : List D) : Prop where
  ex : ∃ (a : Addr) (xs : List V), mg x = some (.ref a) ∧ KTup K a xs ∧ ∀ F : FZ, RpL K F ds xs
end

/-! ### sorted, of a dict of few ints -/
section
variable {X : Cx} {K : PySem.W.Frag} {F0 : FZ} {e : Expr} {pos : Pos}
end
end DL

set_option maxRecDepth 100000
set_option maxHeartbeats 2000000
namespace DL
open PySem PySem.Spec PyProof.Rows L2

/-! ### data in order: sorted, <, <=, >, >= -/
abbrev leD (a b : D) : Bool := !PySem.W.dataLt b.py a.py
section
variable {X : Cx}
end
section
variable {X : Cx} {K : PySem.W.Frag} {F0 : FZ} {a b e : Expr} {ta tb : TE} {ta' tb' : DTE} {pos : Pos}
end
/-! ### rows of ints -/
end DL

set_option maxRecDepth 100000
set_option maxHeartbeats 4000000
namespace DL
open PySem PySem.Spec PyProof.Rows L2

/-! ### set(xs) of a list of ints, as SetR; sorted(set(..)) -/
section
variable {P : Program} {w : World} {A : Around} {E : Value → Shared → Prop} {s : Shared}
abbrev eS (w : World) : Obj := { cls := .type "set", dict := none, data := .set #[] 0 (.fresh 0 0 (!w.params.followText "set-order")) }
end
section
variable {X : Cx} {K : PySem.W.Frag} {F0 : FZ} {a : Expr} {ta : TE} {ta' : DTE} {pos : Pos}
end
/-! ### sorted(d), a new list to be changed -/
section
variable {X : Cx} {K : PySem.W.Frag} {F0 : FZ} {e : Expr} {pos : Pos}
end
end DL

set_option maxRecDepth 100000
set_option maxHeartbeats 2000000
namespace DL
open PySem PySem.Spec PyProof.Rows L2

/-! ### ==, != of an instance with an own __eq__ and a thing of another kind -/
section
open PySem.SeqAt PySem.MeetsSeq PySem.AutoSeq1
abbrev NotI (s : Shared) (p : Addr) (T : String) : Prop := ∀ M : Model, PySem.W.Looks M s.heap (isInstance (.ref p) (.type T)) false
end
section
variable {prog : Program} {w : World} {A : Around} {E : Value → Shared → Prop} {s : Shared} {K : PySem.W.Frag} {x C f : Addr} {ox : Obj} {od : Option Obj} {a : Value} {Ta id : String}
end
/-- the class at C is none of the built-in ones -/
structure NoB (K : PySem.W.Frag) (C : Addr) : Prop where
  n : PySem.W.subIn K (.ref C) (.type "NoneType") = some false
  b : PySem.W.subIn K (.ref C) (.type "bool") = some false
  i : PySem.W.subIn K (.ref C) (.type "int") = some false
  s : PySem.W.subIn K (.ref C) (.type "str") = some false
  t : PySem.W.subIn K (.ref C) (.type "tuple") = some false
  l : PySem.W.subIn K (.ref C) (.type "list") = some false
  d : PySem.W.subIn K (.ref C) (.type "dict") = some false
/-- a thing of a built-in kind -/
inductive Oth (K : PySem.W.Frag) (H : Hp) : V → String → Prop
  | non : Oth K H .non "NoneType"
  | bl (b : Bool) : Oth K H (.bl b) "bool"
  | int (i : Int) : Oth K H (.int i) "int"
  | str (z : Str) : Oth K H (.str z) "str"
  | tup {a : Addr} {xs : List V} (h : SqT K H a xs) : Oth K H (.ref a) "tuple"
  | lst {a : Addr} {xs : List V} (h : SqL K H a xs) : Oth K H (.ref a) "list"
  | dct {a : Addr} {kvs : List (Key × V)} (h : H a = some (.dK kvs)) : Oth K H (.ref a) "dict"
section
variable {X : Cx} {pins : List (Addr × Obj)} {σ : L2.St} {H : Hp} {s : Shared} {y : V} {u : Value} {T : String}
end
section
variable {prog : Program} {w : World} {A : Around} {E : Value → Shared → Prop} {s : Shared} {K : PySem.W.Frag} {x C f : Addr} {ox : Obj} {od : Option Obj} {b tb : Value}
end
section
variable {X : Cx} {F0 : FZ} {a b : Expr} {ta tb : TE} {ta' tb' : DTE} {pos : Pos}
/-- the other one, as data -/
def othD (M : Mp) : D → Bool
  | .non => true
  | .bl _ => true
  | .int _ => true
  | .str _ => true
  | .tup _ => true
  | .kt _ => true
  | .lst _ => true
  | .ref p => (match M p with
    | some (.lst _) => true
    | some (.dK _) => true
    | _ => false)
  | _ => false
def dOthA (K : PySem.W.Frag) (C : Addr) (M : Mp) (y : D) : Prop := othD M y = true ∨ ∃ q C2 gs, y = .ref q ∧ M q = some (.ins C2 gs) ∧ PySem.W.notFirst K C (.ref C2) = true
def dEqAny (K : PySem.W.Frag) (C : Addr) (sp : DSp) : DR2 := fun x y M Q => ∃ p fs, x = .ref p ∧ M p = some (.ins C fs) ∧ dOthA K C M y ∧ sp [.ref p, y] M (fun d M1 => ∃ b, d = .bl b ∧ Q (.bl b) M1) DXK.no
def dNeAny (K : PySem.W.Frag) (C : Addr) (sp : DSp) : DR2 := fun x y M Q => ∃ p fs, x = .ref p ∧ M p = some (.ins C fs) ∧ dOthA K C M y ∧ sp [.ref p, y] M (fun d M1 => ∃ b, d = .bl b ∧ Q (.bl (!b)) M1) DXK.no
def dEqRef (C : Addr) (sp : DSp) : DR2 := fun x y M Q => ∃ q gs, y = .ref q ∧ M q = some (.ins C gs) ∧ othD M x = true ∧ sp [.ref q, x] M (fun d M1 => ∃ b, d = .bl b ∧ Q (.bl b) M1) DXK.no
/-- either of two rules -/
def dOr2 (r r' : DR2) : DR2 := fun x y M Q => r x y M Q ∨ r' x y M Q
end
end DL

set_option maxRecDepth 100000
set_option maxHeartbeats 2000000
namespace DL
open PySem PySem.Spec PyProof.Rows L2

/-! ### the things of two own classes, held against anything -/
structure Apart (K : PySem.W.Frag) (C D : Addr) : Prop where
  nc : NoB K C
  nd : NoB K D
  cc : PySem.W.subIn K (.ref C) (.ref C) = some true
  dd : PySem.W.subIn K (.ref D) (.ref D) = some true
  cd : PySem.W.subIn K (.ref C) (.ref D) = some false
  dc : PySem.W.subIn K (.ref D) (.ref C) = some false
section
variable {X : Cx} {F0 : FZ} {a b : Expr} {ta tb : TE} {ta' tb' : DTE} {pos : Pos} {k1 k2 j : Nat} {C D : Addr} {sp1 sp2 : DSp}
abbrev dEqA2 (K : PySem.W.Frag) (C : Addr) (sp1 : DSp) (D : Addr) (sp2 : DSp) : DR2 := dOr2 (dEqAny K C sp1) (dEqAny K D sp2)
abbrev dNeA2 (K : PySem.W.Frag) (C : Addr) (sp1 : DSp) (D : Addr) (sp2 : DSp) : DR2 := dOr2 (dNeAny K C sp1) (dNeAny K D sp2)
abbrev dEqR2 (C : Addr) (sp1 : DSp) (D : Addr) (sp2 : DSp) : DR2 := dOr2 (dEqRef C sp1) (dEqRef D sp2)
end
end DL

set_option maxRecDepth 100000
set_option maxHeartbeats 2000000
namespace DL
open PySem PySem.Spec PyProof.Rows L2

/-! ### an error's __init__: super().__init__("..") and one field -/
/-- what an error's class and its __init__ must be -/
structure EiC (P : Program) (K : PySem.W.Frag) (mg : Str → Option Value) (f C cda cc : Addr) (qual : Str) (fd : FuncData) (fld pn : Str) : Prop where
  ex : ∃ (z : Str) (params : Arguments) (body : List Stmt) (scope : Scope) (dV kV doc pm ct oc ccl cl : Value) (an od cdd cld : Option Addr) (osl ccs csl : Array (Option Value)) (vs : Array Value) (file : Str) (tf : Tok) (ar : Arg) (nk : Nat) (p0 p1 p2 p3 p4 p5 p6 p7 p8 p9 : Pos),
    fd = PySem.W.ksFn "__init__" qual params body scope dV kV doc pm an (.ref cda) ct cc ∧ K.lookup f = some ⟨oc, od, .func fd, osl⟩ ∧ K.lookup cda = some ⟨ccl, cdd, .fields vs, ccs⟩ ∧ vs[2]? = some (.str file tf) ∧ ((P.main.file : Str) == file) = true ∧
    K.lookup cc = some ⟨cl, cld, .cell (some (.ref C)), csl⟩ ∧
    body = [.Expr (.Call (.Attribute (.Call (.Name "super" p0) [] [] p1) "__init__" p2) [.Constant (.str z) nk p3] [] p4) p5, .Assign [.Attribute (.Name "self" p6) fld p7] (.Name pn p8) p9] ∧ z.length ≤ 1000 ∧
    (params.posonlyargs ++ params.args).head? = some ar ∧ ar.arg = ("self" : Str) ∧ scope.kind = .function ∧ scope.isCoroutine = false ∧ scope.isGenerator = false ∧ (∀ x ∈ scope.names, x.2 ≠ .cell) ∧ (∀ x ∈ scope.names, x.2 = .free → x.1 = ("__class__" : Str)) ∧
    scope.names.lookup ("self" : Str) = some .local ∧ scope.names.lookup pn = some .local ∧ scope.names.lookup ("super" : Str) = some .globalImplicit ∧ scope.names.lookup ("__class__" : Str) = some .free ∧
    (∀ L, ∃ pl : Sem Bool, eval (.Call (.Attribute (.Call (.Name "super" p0) [] [] p1) "__init__" p2) [.Constant (.str z) nk p3] [] p4) (PySem.W.ksEnv qual scope L f (.ref cda) cc) = (do
      let ov ← attributeBase (.Call (.Name "super" p0) [] [] p1) "__init__" (PySem.W.ksEnv qual scope L f (.ref cda) cc) (eval (.Call (.Name "super" p0) [] [] p1) (PySem.W.ksEnv qual scope L f (.ref cda) cc))
      standAt p2.atName
      let (fx, first) ← holding [ov] (getMethod ov "__init__" pl)
      callWith p4 fx first (backTo p4 (starEach [.Constant (.str z) nk p3] (PySem.W.ksEnv qual scope L f (.ref cda) cc))) [])) ∧
    (∀ L, interactive (PySem.W.ksEnv qual scope L f (.ref cda) cc) = false) ∧
    (∀ L, swapsWith (.Call (.Attribute (.Call (.Name "super" p0) [] [] p1) "__init__" p2) [.Constant (.str z) nk p3] [] p4) none p5.line (PySem.W.ksEnv qual scope L f (.ref cda) cc) = pure false) ∧
    (∀ L, swapsWith (.Name pn p8) (some (.Attribute (.Name "self" p6) fld p7)) p9.line (PySem.W.ksEnv qual scope L f (.ref cda) cc) = pure false) ∧ (pn == ("__debug__" : Str)) = false ∧ (pn == ("__classdict__" : Str)) = false
  cd : PySem.W.codeIn K (.ref cda) qual = true
  sup : PySem.W.ks_superIn K C C "__init__" = some (some (.builtin "ValueError.__init__"))
  ve : PySem.W.subIn K (.ref C) (.type "ValueError") = some true
  mro : PySem.W.mroIn K C (.ref C) = some true
  any : PySem.W.nsIn K cStatics "thirdparty.any" = some none
  mgs : mg "super" = none
  top : (P.main.scope.names.lookup ("super" : Str)).isSome = false
  T : OexC K C
  no : PySem.W.findIn K (.ref C) fld = some none
  ne : pn ≠ ("self" : Str)
section
open PySem.W
variable {prog : Program} {w : World} {A : Around} {E : Value → Shared → Prop} {h : Heap} {g : Array GenState} {d : Drawn} {t : Nat} {os : OsState}
variable {nm q : Str} {C N : Addr} {bs bm : List Value} {hdct : Bool} {sn : List Str} {sub : List Value} {ab : Bool} {col : Option Bool} {dd : Option Addr} {k0 k1 k2 k3 k5 : Option Value}
end
section
variable {P : Program} {w : World} {K : PySem.W.Frag} {mg : Str → Option Value} {base : Heap} {CX : CXT} {f C cda cc : Addr} {qual fld pn : Str} {fd : FuncData} {k : Nat}
end
end DL

set_option maxRecDepth 100000
set_option maxHeartbeats 2000000
namespace DL
open PySem PySem.Spec PyProof.Rows L2

/-! ### raise C(e), C with an __init__ of its own and one field -/
structure EiCls (P : Program) (K : PySem.W.Frag) (mg : Str → Option Value) (x : Str) (C : Addr) (fld : Str) : Prop where
  ex : ∃ f cda cc qual fd pn, EiC P K mg f C cda cc qual fd fld pn ∧ PySem.W.findIn K (.ref C) "__init__" = some (some (.ref f)) ∧ PySem.W.typeIn K (.ref f) = some (.type "function") ∧ Binds K fd ["self", pn] []
  gC : mg x = some (.ref C)
section
variable {X : Cx} {F0 : FZ} {C : Addr} {x fld : Str} {p pos pos2 : Pos} {e : Expr} {te : TE} {te' : DTE} {j : Nat} {E : DXG}
end
/-! ### C(..), the __init__ raising: within a try, or in a def that raises -/
section
variable {X : Cx} {CX : CXT} {k j : Nat} {f C : Addr} {fd : FuncData} {ps : List Str} {sp : Sp} {E : XK} {x : Str} {p pos : Pos} {e : Expr} {es : List Expr} {t : TA} {F0 : FZ}
end

/-! ### several except clauses, named or not -/
abbrev HSpec := Value × Option Nat × (Addr → Value → Option Addr → TS)
def NmOk (X : Cx) : Option Str → Option Nat → Prop
  | none, none => True
  | some n, some i => X.N[i]? = some n ∧ X.env.kindOf n = some .local
  | _, _ => False
inductive HsOk (X : Cx) : List ExceptHandler → List HSpec → Prop
  | nil : HsOk X [] []
  | cons {x : Str} {c : Value} {ts : Addr → Value → Option Addr → TS} {b₀ : Stmt} {suite : List Stmt} {np pos' : Pos} {hds : List ExceptHandler} {l : List HSpec} {nm : Option Str} {oi : Option Nat} (hn : NmOk X nm oi) (hc : Names X x c)
      (hsu : ∀ (a : Addr) (oe : Obj) (cls : Value) (d : Option Addr) (pn : List (Addr × Obj)), L2N.Zn cls d oe → (∃ vs, oe.data = .fields vs) → PSs (X.suite a ((a, oe) :: pn)) (b₀ :: suite) (ts a cls d)) (r : HsOk X hds l) :
      HsOk X (.ExceptHandler (some (.Name x np)) nm (b₀ :: suite) pos' :: hds) ((c, oi, ts) :: l)
section
variable {X : Cx} {body : List Stmt} {h₀ : ExceptHandler} {hds : List ExceptHandler} {l : List HSpec} {pos : Pos} {tb : WX → TS} {Wout : WX}
end
end DL

set_option maxRecDepth 100000
set_option maxHeartbeats 2000000
namespace DL
open PySem PySem.Spec PyProof.Rows L2

/-! ### several except clauses, as data -/
abbrev DHSpec := Value × Option Nat × Bool × (Addr → Addr → Option (List (Str × D)) → DTS)
def FldAt (K : PySem.W.Frag) (F : FZ) : Option (List (Str × D)) → Option Addr → Prop
  | none, none => True
  | some l, some dd => ∃ gs, F.p dd = some (.xd gs) ∧ KVR K F l gs
  | _, _ => False
def tsOf (K : PySem.W.Frag) (nf : Bool) (u : Addr → Addr → Option (List (Str × D)) → DTS) : Addr → Value → Option Addr → TS := fun a cls d D σ H => ∃ Dc F1 fs, cls = .ref Dc ∧ ExcC K Dc ∧ (nf = true → fs = none) ∧ FldAt K F1 fs d ∧ lfS K F1 (u a Dc fs) D σ H
def hsOf (K : PySem.W.Frag) (l : List DHSpec) : List HSpec := l.map fun z => (z.1, z.2.1, tsOf K z.2.2.1 z.2.2.2)
inductive DHs (X : Cx) : List ExceptHandler → List DHSpec → Prop
  | nil : DHs X [] []
  | cons {x : Str} {c : Value} {u : Addr → Addr → Option (List (Str × D)) → DTS} {b₀ : Stmt} {suite : List Stmt} {np pos' : Pos} {hds : List ExceptHandler} {l : List DHSpec} {nm : Option Str} {oi : Option Nat} {nf : Bool} (hn : NmOk X nm oi) (hc : Names X x c)
      (hsu : ∀ (F1 : FZ) (a Dc : Addr) (fs : Option (List (Str × D))) (d : Option Addr) (oe : Obj) (pn : List (Addr × Obj)), ExcC X.K Dc → L2N.Zn (.ref Dc) d oe → (∃ vs, oe.data = .fields vs) → (nf = true → fs = none) → FldAt X.K F1 fs d → ∃ t, DB (X.suite a ((a, oe) :: pn)) F1 (b₀ :: suite) t (u a Dc fs))
      (r : DHs X hds l) : DHs X (.ExceptHandler (some (.Name x np)) nm (b₀ :: suite) pos' :: hds) ((c, oi, nf, u) :: l)
theorem DHs.ok {X : Cx} : ∀ {hds : List ExceptHandler} {l : List DHSpec}, DHs X hds l → HsOk X hds (hsOf X.K l)
  | _, _, .nil => .nil
  | _, _, .cons (u := u) (nf := nf) hn hc hsu r => .cons hn hc (fun a oe cls d pn hz hfl => ⟨fun pins s σ H D I q => by
      obtain ⟨Dc, F1, fs, rfl, hx, hnf, hfa, q⟩ := q
      obtain ⟨t, h⟩ := hsu F1 a Dc fs d oe pn hx hz hfl hnf hfa
      exact (lfS_pss h).run pins s σ H D I q⟩) r.ok
section
variable {X : Cx} {F0 : FZ} {body : List Stmt} {h₀ : ExceptHandler} {hds : List ExceptHandler} {l : List DHSpec} {pos : Pos} {t' : DXG → DTS} {Eout : DXG}
end
end DL

set_option maxRecDepth 100000
set_option maxHeartbeats 2000000
namespace DL
open PySem PySem.Spec PyProof.Rows L2

/-! ### a raising __init__; how an error's class is read off the written part -/
section
variable {P : Program} {w : World} {K : PySem.W.Frag} {mg : Str → Option Value} {base : Heap}
end
end DL

set_option maxRecDepth 100000
set_option maxHeartbeats 2000000
namespace DL
open PySem PySem.Spec PyProof.Rows L2

/-! ### a op b op c op d -/
section
variable {X : Cx} {K : PySem.W.Frag} {F0 : FZ} {a b c d : Expr} {ta tb tc td : TE} {ta' tb' tc' td' : DTE} {pos : Pos} {op op' op2 : CmpOp} {r r' r2 : R2} {e e' e2 : DR2}
end
end DL

set_option maxRecDepth 100000
set_option maxHeartbeats 2000000
namespace DL
open PySem PySem.Spec PyProof.Rows L2

/-! ### a dict looked for in a tuple of tuples -/
section
open PySem.SeqAt PySem.MeetsSeq PySem.AutoSeq1
variable {A : Around} {s : Shared}
end
section
variable {X : Cx} {F0 : FZ} {a b : Expr} {ta tb : TE} {ta' tb' : DTE} {pos : Pos} {K : PySem.W.Frag}
end
end DL

set_option maxRecDepth 100000
set_option maxHeartbeats 2000000

/-! ### t[::-1] of a tuple -/
namespace HT
open PySem PySem.Spec PyProof.Rows
section
variable {prog : Program} {w : World} {A : Around} {E : Value → Shared → Prop} {s : Shared}
theorem adjust_rev (n : Nat) : Builtin.Slice.sliceAdjust none none (-1) (n : Int) = ((n : Int) - 1, -1) := by
  unfold Builtin.Slice.sliceAdjust
  have h1 : ((-1 : Int) < 0) := by decide
  simp only [h1, if_true]
theorem places_rev (n : Nat) : Builtin.Slice.slicePlaces ((n : Int) - 1) (-1) (-1) = n := by
  unfold Builtin.Slice.slicePlaces
  have h1 : ¬ ((-1 : Int) > 0) := by decide
  have h2 : (-(-1 : Int)) = 1 := by decide
  simp only [h1, if_false, h2, Int.ediv_one]
  split <;> omega
theorem sliceApplied_rev {sl : Addr} {u : Tok} {n : Nat} {Q : Int × Int × Nat → Shared → Prop} (hs : s.heap.IsSliceOf sl .none .none (.int (-1) u))
    (h : Q ((n : Int) - 1, -1, n) s) : wpAny (model prog w) A (Builtin.Slice.sliceApplied (.ref sl) (pure (n : Int))) Q E s := by
  obtain ⟨os, hos, hcs, hds⟩ := id hs
  unfold Builtin.Slice.sliceApplied Builtin.Slice.sliceFields
  refine wpAny_bind (wpAny_bind (wpAny_field hos hds (x := .none) rfl (wpAny_bind (wpAny_field hos hds (x := .none) rfl (wpAny_bind (wpAny_field hos hds (x := .int (-1) u) rfl (wpAny_pure ?_)))))))
  refine wpAny_bind (slicePart_int ?_)
  show wpAny _ _ (if ((-1 : Int) == 0) = true then _ else _) _ _ s
  rw [if_neg (by decide)]
  refine wpAny_bind (slicePart_none (wpAny_bind (slicePart_none (wpAny_bind (wpAny_pure ?_)))))
  show wpAny _ _ (match Builtin.Slice.sliceAdjust none none (-1) (n : Int) with | (lo, hi) => pure (lo, (-1 : Int), Builtin.Slice.slicePlaces lo hi (-1))) _ _ s
  rw [adjust_rev n]
  show wpAny _ _ (pure ((n : Int) - 1, (-1 : Int), Builtin.Slice.slicePlaces ((n : Int) - 1) (-1) (-1))) _ _ s
  rw [places_rev]
  exact wpAny_pure h
theorem pick_rev (xs : Array Value) : ((List.range xs.size).filterMap fun (m : Nat) => xs[(((xs.size : Int) - 1) + (m : Int) * (-1)).toNat]?).toArray = xs.toList.reverse.toArray := by
  have e : (fun (m : Nat) => xs[(((xs.size : Int) - 1) + (m : Int) * (-1)).toNat]?) = (fun k => xs[k]?) ∘ fun m => xs.size - 1 - m := by
    funext m
    show xs[(((xs.size : Int) - 1) + (m : Int) * (-1)).toNat]? = xs[xs.size - 1 - m]?
    have : (((xs.size : Int) - 1) + (m : Int) * (-1)).toNat = xs.size - 1 - m := by omega
    rw [this]
  rw [e, ← List.filterMap_map, PySem.W.krv_range, List.filterMap_reverse, PySem.W.krv_all]

theorem getItem_tuple_rev {t sl : Addr} {items : Array Value} {u : Tok} {Q : Value → Shared → Prop} (ht : IsTup s.heap t items) (hs : s.heap.IsSliceOf sl .none .none (.int (-1) u))
    (h : Q (.ref s.heap.objs.size) { s with heap := s.heap.push { cls := .type "tuple", data := .seq items.toList.reverse.toArray } })
    (hsz : items.size ≤ sizeLine) : wpAny (model prog w) A (getItem (.ref t) (.ref sl)) Q E s := by
  have htake : sizeOk (.seq items.toList.reverse.toArray) := by
    show items.toList.reverse.toArray.size ≤ sizeLine
    rw [List.size_toArray, List.length_reverse, Array.length_toList]
    exact hsz
  obtain ⟨os, hos, hcs, hds⟩ := id hs
  have hTs : s.TypeIs (.ref sl) "slice" := ⟨os, hos, hcs⟩
  unfold getItem
  try with_reducible refine wpAny_holding ?_
  first | refine wpAny_bind (wpAny_pure ?_) | skip
  refine wpAny_bind (wpAny_sequenceKey ht.typeIs (by decide) ?_)
  refine wpAny_bind (wpAny_callSpecial?_slot (name := Str.ofString "__getitem__") ht.typeIs PyProof.Rows.slot_tuple_getitem
    (wpAny_call_entry PyProof.Rows.slot_tuple_getitem ht.typeIs entry_tuple_getitem ?_ (args_tuple_getitem _ _)))
  show wpAny _ _ (Builtin.Tuple.tupleItemsOf (.ref t) >>= _) _ _ s
  refine wpAny_bind (tupleItemsOf_ ht ?_)
  refine wpAny_bind (wpAny_typeOf hTs ?_)
  rw [if_pos (by decide)]
  refine wpAny_bind (sliceApplied_rev hs ?_)
  have hno : ¬ ((((items.size : Int) - 1) == 0 && (-1 : Int) == 1 && items.size == items.size) = true) := by
    intro q
    rw [Bool.and_eq_true, Bool.and_eq_true] at q
    have q1 : (-1 : Int) = 1 := eq_of_beq q.1.2
    omega
  show wpAny _ _ (if (((items.size : Int) - 1) == 0 && (-1 : Int) == 1 && items.size == items.size) = true then _ else _) _ _ s
  rw [if_neg hno, pick_rev]
  first
    | exact wpAny_bind (m := Builtin.Tuple.tupleExact _) (wpAny_newObj_type (wpAny_pure ⟨_, rfl, wpAny_pure h⟩) htake)
    | exact wpAny_bind (m := Builtin.Tuple.tupleExact _) (wpAny_newObj_type (wpAny_bind (wpAny_pure (wpAny_pure ⟨_, rfl, wpAny_pure h⟩))) htake)
    | exact wpAny_bind (wpAny_bind (m := Builtin.Tuple.tupleExact _) (wpAny_newObj_type (wpAny_pure (wpAny_pure ⟨_, rfl, wpAny_pure h⟩)) htake))
    | exact wpAny_bind (wpAny_bind (m := Builtin.Tuple.tupleExact _) (wpAny_newObj_type (wpAny_pure ⟨_, rfl, wpAny_pure h⟩) htake))
end
end HT

namespace DL
open PySem PySem.Spec PyProof.Rows L2
section
variable {X : Cx} {F0 : FZ} {e : Expr} {te : TE} {te' : DTE} {k : Nat} {p1 p2 p3 pos : Pos}
end
end DL

set_option maxRecDepth 100000
set_option maxHeartbeats 2000000
namespace DL
open PySem PySem.Spec PyProof.Rows L2

/-! ### {k: v for ..} of any keys: o0 the new dict -/
section
variable {X : Cx}
end
section
variable {X : Cx} {K : PySem.W.Frag} {F0 : FZ} {kx vx tg iter : Expr} {ifs : List Expr} {scope : Scope} {own : List (Str × Nat)} {pos spos py : Pos} {wi : TI} {wi' : DTI} {g' : DTG} {tt' : DTT} {tk' te' : DTE}
end
end DL

set_option maxRecDepth 100000
set_option maxHeartbeats 2000000
namespace DL
open PySem PySem.Spec PyProof.Rows L2

/-! ### {t: v for ..}, keys tuples -/
section
variable {X : Cx} {K : PySem.W.Frag} {F0 : FZ}
variable {kx vx tg iter : Expr} {ifs : List Expr} {scope : Scope} {own : List (Str × Nat)} {pos spos py : Pos} {wi : TI} {wi' : DTI} {g' : DTG} {tt' : DTT} {tk' te' : DTE}
end
end DL

set_option maxRecDepth 100000
set_option maxHeartbeats 2000000
namespace DL
open PySem PySem.Spec PyProof.Rows L2

/-! ### a dict of the written part with text keys, by its global name -/
def tblGet (tbl : List (Str × D)) (z : Str) : Option D := (tbl.find? fun p => decide (p.1 = z)).map (·.2)
structure KDa (K : PySem.W.Frag) (w : World) (mg : Str → Option Value) (x : Str) (tbl : List (Str × D)) (A : Addr) (es : Array DictEntry) (n : Nat) : Prop where
  hm : mg x = some (.ref A)
  dc : KDict K w A es n
  no : ∀ z, tblGet tbl z = none → PySem.W.nsIn K A z = some none
  go : ∀ z d, tblGet tbl z = some d → ∃ (u : Value) (v : V), PySem.W.nsIn K A z = some (some u) ∧ RelV v u ∧ ∀ F : FZ, Rp K F d v
section
variable {X : Cx} {K : PySem.W.Frag} {F0 : FZ} {a : Expr} {ta : TE} {ta' : DTE} {pos p1 : Pos} {x : Str} {tbl : List (Str × D)}
end
end DL

set_option maxRecDepth 100000
set_option maxHeartbeats 2000000
namespace DL
open PySem PySem.Spec PyProof.Rows L2

/-! ### the place of a datum in a list -/
theorem pyL_get : ∀ (l : List D) (i : Nat), (D.pyL l)[i]? = (l[i]?).map D.py
  | [], i => by simp [D.pyL]
  | d :: l, 0 => by simp [D.pyL]
  | d :: l, i + 1 => by simp [D.pyL, pyL_get l i]
section
variable {X : Cx} {K : PySem.W.Frag} {F0 : FZ} {o e : Expr} {to : TE} {to' : DTE} {apos cpos : Pos}
theorem index_py {l : List D} {y z : D} {j : Nat} (h1 : l[j]? = some z) (h2 : ∀ m z', m < j → l[m]? = some z' → D.eq z' y = false) : (D.pyL l)[j]? = some z.py ∧ ∀ (m : Nat) (z' : PyData), m < j → (D.pyL l)[m]? = some z' → PyData.eqv z' y.py = false := by
  refine ⟨by rw [pyL_get, h1]; rfl, fun m z' hm hz => ?_⟩
  rw [pyL_get] at hz
  obtain ⟨d, hd, e⟩ := Option.map_eq_some_iff.mp hz
  rw [← e]
  exact h2 m d hm hd
end
end DL

set_option maxRecDepth 100000
set_option maxHeartbeats 2000000
namespace DL
open PySem PySem.Spec PyProof.Rows L2

section
variable {X : Cx} {K : PySem.W.Frag} {F0 : FZ} {a b e : Expr} {ta tb te : TE} {ta' tb' te' : DTE} {pos p2 : Pos}
/-! ### slices of texts -/
/-! ### a short text * a small number -/
end

/-! ### texts in order -/
end DL

set_option maxRecDepth 100000
set_option maxHeartbeats 2000000
namespace DL
open PySem PySem.Spec PyProof.Rows L2

/-! ### y = [e for a in .. for b in ..] -/
section
variable {X : Cx} {K : PySem.W.Frag} {F0 : FZ} {elt tg tg1 iter iter1 : Expr} {ifs ifs1 : List Expr} {scope : Scope} {own : List (Str × Nat)} {vs1 : List Nat} {pos spos py : Pos} {wi : TI} {wi' wi1' : DTI} {g' g1' : DTG} {tt' tt1' : DTT} {te' : DTE}
end
end DL

set_option maxRecDepth 100000
set_option maxHeartbeats 2000000
namespace DL
open PySem PySem.Spec PyProof.Rows L2

/-! ### enumerate(a frozen list) -/
def enumD (l : List D) : List D := (List.range l.length).map fun i => .tup [.int (i : Nat), l[i]?.getD .non]
section
variable {X : Cx} {K : PySem.W.Frag} {F0 : FZ} {e : Expr} {p pos : Pos}
theorem enumD_len {l : List D} : (enumD l).length = l.length := by simp [enumD]
theorem enumD_get {l : List D} {i : Nat} {d : D} (h : (enumD l)[i]? = some d) : ∃ x, l[i]? = some x ∧ d = .tup [.int (i : Nat), x] := by
  unfold enumD at h
  rw [List.getElem?_map] at h
  obtain ⟨j, hj, e⟩ := Option.map_eq_some_iff.mp h
  obtain ⟨h1, h2⟩ := List.getElem?_eq_some_iff.mp hj
  rw [List.getElem_range] at h2
  subst h2
  rw [List.length_range] at h1
  refine ⟨l[i], List.getElem?_eq_getElem h1, ?_⟩
  rw [← e, List.getElem?_eq_getElem h1]; rfl
end
end DL

set_option maxRecDepth 100000
set_option maxHeartbeats 2000000
namespace DL
open PySem PySem.Spec PyProof.Rows L2

/-! ### y = [e for a in .. for b in ..], a new list to be changed -/
section
variable {X : Cx} {K : PySem.W.Frag} {F0 : FZ}
end
section
variable {X : Cx} {K : PySem.W.Frag} {F0 : FZ} {elt tg tg1 iter iter1 : Expr} {ifs ifs1 : List Expr} {scope : Scope} {own : List (Str × Nat)} {vs1 : List Nat} {pos spos py : Pos} {wi : TI} {wi' wi1' : DTI} {g' g1' : DTG} {tt' tt1' : DTT} {te' : DTE}
end
end DL

set_option maxRecDepth 100000
set_option maxHeartbeats 2000000
namespace DL
open PySem PySem.Spec PyProof.Rows L2

/-! ### tuple * int -/
section
variable {X : Cx} {K : PySem.W.Frag} {F0 : FZ}
end
end DL

set_option maxRecDepth 100000
set_option maxHeartbeats 4000000
namespace DL
open PySem PySem.Spec PyProof.Rows L2

/-! ### sorted(set(rows)), rows of ints, of any lengths but none empty -/
section
variable {P : Program} {w : World} {A : Around} {E : Value → Shared → Prop} {s : Shared}
end
section
variable {X : Cx} {K : PySem.W.Frag} {F0 : FZ} {a : Expr} {ta : TE} {ta' : DTE} {pos : Pos}
end
end DL

set_option maxRecDepth 100000
set_option maxHeartbeats 2000000
namespace DL
open PySem PySem.Spec PyProof.Rows L2

/-! ### d.update(other) -/
section
variable {X : Cx} {K : PySem.W.Frag} {F0 : FZ} {o e : Expr} {to : TE} {to' : DTE} {pos apos cpos : Pos}
end

/-! ### == of tuples with lists in them that may change -/
section
variable {X : Cx} {K : PySem.W.Frag} {F0 : FZ} {a b : Expr} {ta tb : TE} {ta' tb' : DTE} {pos : Pos}
end
end DL

set_option maxRecDepth 100000
set_option maxHeartbeats 2000000
namespace DL
open PySem PySem.Spec PyProof.Rows L2
/-! ### a datum is equal to itself -/
end DL

set_option maxRecDepth 100000
set_option maxHeartbeats 2000000
namespace DL
open PySem PySem.Spec PyProof.Rows L2

/-! ### a dict of the written part with keys that are tuples, by its global name: X.get(k, None) -/
def tblT (tbl : List (List Key × D)) (k : List Key) : Option D := (tbl.find? fun p => decide (p.1 = k)).map (·.2)
structure KTa (P : Program) (w : World) (K : PySem.W.Frag) (mg : Str → Option Value) (x : Str) (tbl : List (List Key × D)) (A : Addr) (xs : List (List Key × Addr × Value)) : Prop where
  hm : mg x = some (.ref A)
  low : (A == sysModules) = false
  dc : ∀ h : Heap, K.In h → h.DictOfH (tupleKind (mixKind P w)) A xs
  no : ∀ k, tblT tbl k = none → atKey xs k = none
  go : ∀ k d, tblT tbl k = some d → ∃ p v, atKey xs k = some p ∧ RelV v p.2 ∧ ∀ F : FZ, Rp K F d v
section
variable {X : Cx} {e f : Expr} {apos cpos p1 : Pos} {ty tx : TE} {x : Str} {tbl : List (List Key × D)} {A : Addr} {xs : List (List Key × Addr × Value)}
end
section
variable {X : Cx} {K : PySem.W.Frag} {F0 : FZ} {e : Expr} {apos cpos p1 p2 : Pos} {j2 : Nat} {ty : TE} {ty' : DTE} {x : Str} {tbl : List (List Key × D)} {A : Addr} {xs : List (List Key × Addr × Value)} {n : Nat}
end
/-- one written key: its tuple and its value -/
structure KEnt (P : Program) (w : World) (K : PySem.W.Frag) (k : List Key) (d : D) (e : DictEntry) (a : Addr) : Prop where
  hk : e.key = .ref a
  hh : e.hash = tupleKeyHash (mixKind P w) k
  is : ∀ h : Heap, K.In h → (tupleKind (mixKind P w)).is h k a
  val : ∃ v, RelV v e.val ∧ ∀ F : FZ, Rp K F d v
end DL

set_option maxRecDepth 100000
set_option maxHeartbeats 2000000
namespace DL
open PySem PySem.Spec PyProof.Rows L2
/-! ### a def called by another global name (g = x) -/
section
variable {P : Program} {w : World} {K : PySem.W.Frag} {mg : Str → Option Value} {base : Heap}
structure DFunA (K : PySem.W.Frag) (mg : Str → Option Value) (g x : Str) (st : Stmt) (ps : List Str) : Prop where
  ex : ∃ f fd, Fun K x x st f fd ∧ mg g = some (.ref f) ∧ Binds K fd ps []
end
end DL

set_option maxRecDepth 100000
set_option maxHeartbeats 2000000
namespace DL
open PySem PySem.Spec PyProof.Rows L2
/-! ### sorted(ints), a new list to be changed -/
section
variable {X : Cx} {K : PySem.W.Frag} {F0 : FZ} {e : Expr} {pos : Pos}
end
end DL

set_option maxRecDepth 100000
set_option maxHeartbeats 2000000
/-! ### enumerate of a tuple -/
namespace PySem
open Sem (wp)
namespace DL57
theorem enumT_new {v : Value} {o : Obj} {H : Heap → Prop} (B : Begins v o H) : Meets (Builtin.«enumerate.__new__» ⟨[.type "enumerate", v], []⟩) (fun _ R s => H s.heap ∧ R (.ok (.ret (.ref (s.heap.push o).objs.size)))
      { s with heap := (s.heap.push o).push { cls := .type "enumerate", data := .fields #[.none, .bool false, .ref s.heap.objs.size, rawInt 0, .none, .none] } }) :=
  .of_wp fun prog w A R s h => by
    obtain ⟨hp, gens, dr, toks, os⟩ := s
    obtain ⟨h1, h⟩ := h
    have hsub := sub_enumerate
    have it : ∀ {A' : Around} {E : Value → Shared → Prop} {Q : Value → Shared → Prop}, Q (.ref hp.objs.size) ⟨hp.push o, gens, dr, toks, os⟩ → wpAny (model prog w) A' (pyIter v) Q E ⟨hp, gens, dr, toks, os⟩ :=
      fun q => B.iter prog w _ _ ⟨hp, gens, dr, toks, os⟩ _ h1 q
    wp_walk using it
    refine wpAny_stack_any fun _ => wpAny_pure ?_
    split
    · rename_i k _ _ _ _ _
      cases (k == Value.type "enumerate") <;> (wp_walk using it; exact ⟨_, rfl, h⟩)
    · wp_walk using it
      exact ⟨_, rfl, h⟩
theorem enumT_call {prog : Program} {w : World} {A : Around} {E : Value → Shared → Prop} {s : Shared} {v : Value} {o : Obj} {H : Heap → Prop} {Q : Value → Shared → Prop} (B : Begins v o H) (h1 : H s.heap)
    (h : ∀ h2, IsEnum h2 (s.heap.objs.size + 1) s.heap.objs.size 0 .none → h2.get? s.heap.objs.size = some o → (∀ b o1, s.heap.get? b = some o1 → h2.get? b = some o1) → Q (.ref (s.heap.objs.size + 1)) { s with heap := h2 }) :
    wpAny (model prog w) A (call (.type "enumerate") [v]) Q E s := by
  refine callType_new F.called_enumerate (by decide) (F.typeCall_enumerate_1 _) (F.newCall_enumerate_1 _) (fun b => F.args_object_init_2 b _) F.entry_enumerate_new (enumT_new B) ⟨h1, ?_⟩
  have hz : (s.heap.push o).objs.size = s.heap.objs.size + 1 := Heap.size_push ..
  show _ ∧ _
  rw [hz]
  have e1 : IsEnum ((s.heap.push o).push { cls := .type "enumerate", data := .fields #[.none, .bool false, .ref s.heap.objs.size, rawInt 0, .none, .none] }) (s.heap.objs.size + 1) s.heap.objs.size 0 .none := by
    have e2 := Heap.get?_push_size (s.heap.push o) (o := { cls := .type "enumerate", data := .fields #[.none, .bool false, .ref s.heap.objs.size, rawInt 0, .none, .none] }) rfl
    rw [hz] at e2
    exact e2
  exact ⟨⟨_, e1, rfl⟩, h _ e1 (Heap.get?_push_of_some _ (Heap.get?_push_size _ B.free)) fun b o1 q => Heap.get?_push_of_some _ (Heap.get?_push_of_some _ q)⟩
theorem enumT_end {prog : Program} {w : World} {A : Around} {E : Value → Shared → Prop} {s : Shared} {e it t : Addr} {i : Nat} {k : Int} {items : Array Value} {old : Value} {Q : Option Value → Shared → Prop} (hh : A.handled = none)
    (he : IsEnum s.heap e it k old) (hit : s.heap.IsTupleIter it t i) (ht : s.heap.IsTuple t items) (hx : items[i]? = none) (hQ : ∀ h2, Heap.ExtBut it s.heap h2 → Q none { s with heap := h2 }) : wpAny (model prog w) A (pyNext (.ref e)) Q E s := by
  have hT : s.TypeIs (.ref e) "enumerate" := ⟨_, he, rfl⟩
  unfold pyNext
  refine wpAny_bind (wpAny_attempt (wpAny_callSpecial?_slot (name := Str.ofString "__next__") hT F.slot_enumerate_next (wpAny_call_entry F.slot_enumerate_next hT F.entry_enumerate_next ?_ (F.args_enumerate_next_1 _))))
  show wpAny _ _ (field (.ref e) 2 >>= _) _ _ _
  refine wpAny_bind (wpAny_field he rfl (x := .ref it) rfl ?_)
  refine wpAny_bind (wpAny_nextOf_tuple_end (show A.in1.handled = none from hh) hit ht hx fun h2 x g1 g2 => ?_)
  obtain ⟨o, ho, hc⟩ := g2
  exact wpAny_bind (wpAny_isInstance (T := "StopIteration") (b := true) ⟨o, ho, hc⟩ isSubtype_stop (wpAny_pure (hQ _ g1)))
end DL57
end PySem
namespace DL
open PySem PySem.Spec PyProof.Rows L2
/-- the tuple at a as it stands at each turn, each item in a new pair -/
def IteT (K : PySem.W.Frag) (a : Addr) : It :=
  ⟨fun i H => ∃ (xs : List V) (x : V), SqT K H a xs ∧ xs[i]? = some x, fun i H v H' => ∃ T x, v = .ref T ∧ H T = none ∧ H' = upd H T (.tup [.int (i : Nat), x]) ∧ ∀ xs, SqT K H a xs → xs[i]? = some x, fun i H => ∃ xs : List V, SqT K H a xs ∧ xs.length ≤ i⟩
theorem turn_enumT {P : Program} {w : World} {K : PySem.W.Frag} {elts : List Expr} {kk : Nat} {tpos : Pos} (a e it : Addr) :
    Turn P w K (.Tuple elts kk tpos) (IteT K a) [e, it] e (fun i h => (∃ old, IsEnum h e it ((i : Nat) : Int) old) ∧ h.IsTupleIter it a i ∧ e ≠ it) where
  mem := by simp
  obj := fun i h st b hb => by
    obtain ⟨⟨old, he⟩, ⟨o, ho, _, hd⟩, _⟩ := st
    rcases (show b = e ∨ b = it by simpa using hb) with z | z
    · rw [z]; exact ⟨_, he, fun v q => nomatch q⟩
    · rw [z]; exact ⟨o, ho, fun v q => by rw [hd] at q; cases q⟩
  keep := fun i h h' st k => let ⟨⟨old, he⟩, hi, hne⟩ := st; ⟨⟨old, k e (by simp) _ he⟩, hi.at fun o q => k it (by simp) o q, hne⟩
  item := by
    intro X hP hw hK hc i pins s σ H E I hf st hg
    subst hP hw hK
    obtain ⟨⟨old, he⟩, hit, hne⟩ := st
    obtain ⟨xs, x, hq, hx⟩ := hg
    obtain ⟨its, rv, p, hz⟩ := I.tuple hq
    obtain ⟨u, hu, ru⟩ := rv.get hx
    have hel : e < s.heap.objs.size := Heap.lt_size he
    have hil : it < s.heap.objs.size := by obtain ⟨_, q, _⟩ := hit; exact Heap.lt_size q
    have pt : s.heap.IsTuple a its.toArray := p
    have hai : a ≠ it := fun z => by
      obtain ⟨o1, q1, c1, _⟩ := hit
      obtain ⟨o2, q2, c2, _⟩ := pt
      rw [z, q1] at q2; cases q2
      rw [c1] at c2
      exact absurd (show Value.type "tuple_iterator" = Value.type "tuple" from c2) (by decide)
    have hae : a ≠ e := fun z => by
      obtain ⟨o2, q2, c2, _⟩ := pt
      rw [z, he] at q2; cases q2
      exact absurd (show Value.type "enumerate" = Value.type "tuple" from c2) (by decide)
    have hlt : i < its.toArray.size := by
      have := (List.getElem?_eq_some_iff.mp hu).1
      simpa using this
    refine wpAny_pyNext_enum_itemD (Draws.tuple (A := X.A.in1) (show X.A.in1.handled = none from I.ok.hd hc) it a hai its.toArray) he ⟨hit, pt⟩ hlt hne (by simp [hne, Ne.symm hae]) fun y h' tk hy ho st' hT hsz hk => ?_
    obtain ⟨hit', _⟩ := st'
    have hyu : y = u := by
      have : its.toArray[i]? = some y := hy
      rw [show its.toArray[i]? = its[i]? by simp, hu] at this
      exact (Option.some.inj this).symm
    subst hyu
    refine ⟨_, rfl, wpAny_letOwnedTupleGo_enum (s := { s with heap := h', toks := tk + 1 }) ho fun h'' he' sb => ?_⟩
    have hT2 : h''.get? s.heap.objs.size = some { cls := .type "tuple", data := .seq #[.int i tk, y] } := (sb.2 _ (Nat.ne_of_gt hel)).trans hT
    have new : ObjOk X.prog X.w (upd H s.heap.objs.size (.tup [.int (i : Nat), x])) h'' s.heap.objs.size (.tup [.int (i : Nat), x]) :=
      ⟨by show 2 ≤ sizeLine; decide, [.int i tk, y], .cons ⟨_, rfl⟩ (.cons ru .nil), ⟨_, hT2, rfl, _, rfl⟩⟩
    have I1 : Inv X pins σ (upd H s.heap.objs.size (.tup [.int (i : Nat), x])) { s with heap := h'', toks := tk + 1 } :=
      I.turnedNew (ch := [e, it]) (fun b ob hb q => (sb.2 b (fun z => hb (by simp [z]))).trans (hk b ob (fun z => hb (by simp [z])) (fun z => hb (by simp [z])) q)) hf (Nat.le_refl _) new
    refine ⟨.ref s.heap.objs.size, _, I1, rfl, ⟨_, x, rfl, I.hok.fresh (Nat.le_refl _), rfl, fun ys hy => by rw [I.tuple_inj hy hq]; exact hx⟩, ⟨⟨y, ?_⟩, hit'.at fun o q => (sb.2 it (Ne.symm hne)).trans q, hne⟩, fun b hb => ?_⟩
    · rw [show ((i + 1 : Nat) : Int) = (i : Int) + 1 by omega]
      exact he'
    · have hb' : b < s.heap.objs.size := by
        rcases (show b = e ∨ b = it by simpa using hb) with z | z
        · rw [z]; exact hel
        · rw [z]; exact hil
      rw [upd_ne (Nat.ne_of_lt hb')]
      exact (hf b hb).1
  done := by
    intro X hP hw hK hc i pins s σ H E I hf st hg
    subst hP hw hK
    obtain ⟨⟨old, he⟩, hit, hne⟩ := st
    obtain ⟨xs, hq, hx⟩ := hg
    obtain ⟨its, rv, p, hz⟩ := I.tuple hq
    obtain ⟨f0, f1, f2, f3, f4, f5⟩ := hf it (by simp)
    have hl := rv.length
    have pt : s.heap.IsTuple a its.toArray := p
    exact PySem.DL57.enumT_end (I.ok.hd hc) he hit pt (by simp; omega) fun h' eb => ⟨rfl, I.turned (t' := s.toks) (fun b o hb q => eb b o hb q) f0 f1 f3 f4 f5⟩
  self := fun A i s Q E st h => let ⟨⟨_, he⟩, _⟩ := st; wpAny_pyIter_enum he h
def iEnumT (K : PySem.W.Frag) (ta : TA) : TI := fun σ H R => ta σ H fun vs H1 => ∃ a xs, vs = [.ref a] ∧ SqT K H1 a xs ∧ R (IteT K a) H1
theorem pi_enumT {X : Cx} {e : Expr} {ta : TA} {p pos tpos : Pos} {elts : List Expr} {kk : Nat} (hg : Gl X "enumerate") (hm : X.mg "enumerate" = none) (ha : PA X [e] ta) (hs : starEach [e] X.env = [(false, eval e X.env)] := by rfl) :
    PI X (.Tuple elts kk tpos) (.Call (.Name "enumerate" p) [e] [] pos) (iEnumT X.K ta) := by
  refine ⟨fun pins s σ H R I h => ?_⟩
  refine Call_ (ld_blt I hg hm boot_enumerate (PyProof.Rows.callWith_type1 (thn (ha.run pos pins s σ H _ I h) fun us s1 ⟨vs, H1, I1, r1, q1⟩ => ?_) hs rfl))
  obtain ⟨a, xs, ex, hq, q⟩ := q1
  subst ex
  cases r1 with
  | cons r rr =>
    cases rr
    cases r
    obtain ⟨its, rv, p', hz⟩ := I1.tuple hq
    refine PySem.DL57.enumT_call (begins_tuple a its.toArray) (show s1.heap.IsTuple a its.toArray from p') fun h2 he hit hk => wpAny_pyIter_enum he ?_
    have I2 : Inv X pins σ H1 { s1 with heap := h2 } := I1.kept (t' := s1.toks) hk
    refine ⟨s1.heap.objs.size + 1, [s1.heap.objs.size + 1, s1.heap.objs.size], _, _, H1, rfl, I2, turn_enumT a (s1.heap.objs.size + 1) s1.heap.objs.size, ⟨⟨.none, he⟩, ⟨_, hit, rfl, rfl⟩, Nat.succ_ne_self _⟩, fun b hb => ?_, q⟩
    have hle : s1.heap.objs.size ≤ b := by
      rcases (show b = s1.heap.objs.size + 1 ∨ b = s1.heap.objs.size by simpa using hb) with z | z
      · rw [z]; exact Nat.le_add_right _ _
      · rw [z]; exact Nat.le_refl _
    exact I1.fpOk hle (I1.hok.fresh hle)
theorem walk_enumT {K : PySem.W.Frag} {a : Addr} {xs : List V} : Walk (IteT K a) xs.length (fun H => SqT K H a xs) (YPair (fun i => some (.int (i : Nat))) (fun i => xs[i]?)) := by
  refine ⟨fun i _ hi q => ⟨xs, xs[i], q, by simp [hi]⟩, fun _ q => ⟨xs, q, Nat.le_refl _⟩, fun i H v H' _ q y => ?_⟩
  obtain ⟨T, x, h1, h2, h3, h4⟩ := y
  exact ⟨T, .int (i : Nat), x, h1, h2, h3, rfl, h4 xs q⟩
section
variable {X : Cx} {K : PySem.W.Frag} {F0 : FZ} {e : Expr} {p pos : Pos}
end
end DL

set_option maxRecDepth 100000
set_option maxHeartbeats 2000000
namespace DL
open PySem PySem.Spec PyProof.Rows L2
/-! ### sum(ints) -/
section
variable {K : PySem.W.Frag} {F0 : FZ}
end
end DL

set_option maxRecDepth 100000
set_option maxHeartbeats 2000000
/-! ### xs.extend(a tuple) -/
namespace PySem
open Sem (wp)
namespace DL59
end DL59
end PySem
namespace DL
open PySem PySem.Spec PyProof.Rows L2
section
variable {X : Cx} {K : PySem.W.Frag} {F0 : FZ} {o e : Expr} {to : TE} {to' : DTE} {pos apos cpos : Pos}
end
end DL

set_option maxRecDepth 100000
set_option maxHeartbeats 2000000
namespace DL
open PySem PySem.Spec PyProof.Rows L2
/-! ### comprehensions over the image of a list; what holds of the memory stays -/
theorem take_snoc {α : Type} {l : List α} {i : Nat} {a : α} (h : l[i]? = some a) : l.take (i + 1) = l.take i ++ [a] := by
  rw [List.take_add_one, h]; rfl
theorem dLcI_filterS {α : Type} {g : DTG} {tt : DTT} {te : DTE} {vs : List Nat} {γ : G} {M : Mp} {Q : DK} (S : Mp → Prop) (L : List α) (w : α → D) (c : α → Bool) (f : α → D) (s0 : S M)
    (h : ∀ (i : Nat) (a : α) (M1 : Mp), L[i]? = some a → S M1 → ∀ Q2 : Bool → DK, (∀ M2, S M2 → c a = false → Q2 false .non M2) → (∀ M2, S M2 → c a = true → Q2 true (f a) M2) → g (w a) (dwipe γ vs) M1 fun γ2 M2 => tt γ2 M2 fun b M3 => if b = true then te γ2 M3 (Q2 true) else Q2 false .non M3)
    (q : ∀ M2, S M2 → Q (.lst ((L.filter c).map f)) M2) : dLcI g tt te vs γ (L.map w) M Q := by
  refine ⟨fun i acc M' => S M' ∧ acc = ((L.take i).filter c).map f, ⟨s0, by simp⟩, ?_, ?_⟩
  · rintro i d acc M' hd ⟨hs, rfl⟩
    rw [List.getElem?_map] at hd
    obtain ⟨a, ha, rfl⟩ := Option.map_eq_some_iff.mp hd
    have := h i a M' ha hs (fun b y M4 => if b = true then S M4 ∧ ((L.take i).filter c).map f ++ [y] = ((L.take (i + 1)).filter c).map f else S M4 ∧ ((L.take i).filter c).map f = ((L.take (i + 1)).filter c).map f) (fun M2 h2 e => ?_) (fun M2 h2 e => ?_)
    · simpa using this
    · rw [if_neg (by simp), take_snoc ha]
      exact ⟨h2, by simp [e]⟩
    · rw [if_pos rfl, take_snoc ha]
      exact ⟨h2, by simp [e]⟩
  · rintro acc M' ⟨hs, rfl⟩
    rw [List.length_map, List.take_length]
    exact q M' hs
theorem dLcI_mapS {α : Type} {g : DTG} {te : DTE} {vs : List Nat} {γ : G} {M : Mp} {Q : DK} (S : Mp → Prop) (L : List α) (w : α → D) (f : α → D) (s0 : S M)
    (h : ∀ (i : Nat) (a : α) (M1 : Mp), L[i]? = some a → S M1 → ∀ Q2 : DK, (∀ M2, S M2 → Q2 (f a) M2) → g (w a) (dwipe γ vs) M1 fun γ2 M2 => te γ2 M2 Q2)
    (q : ∀ M2, S M2 → Q (.lst (L.map f)) M2) : dLcI g dYes te vs γ (L.map w) M Q := by
  refine ⟨fun i acc M' => S M' ∧ acc = (L.take i).map f, ⟨s0, by simp⟩, ?_, ?_⟩
  · rintro i d acc M' hd ⟨hs, rfl⟩
    rw [List.getElem?_map] at hd
    obtain ⟨a, ha, rfl⟩ := Option.map_eq_some_iff.mp hd
    refine h i a M' ha hs _ fun M2 h2 => ⟨h2, ?_⟩
    rw [take_snoc ha]
    simp
  · rintro acc M' ⟨hs, rfl⟩
    rw [List.length_map, List.take_length]
    exact q M' hs
end DL

set_option maxRecDepth 100000
set_option maxHeartbeats 2000000
/-! ### sum(lists, []) -/
namespace PySem
open Sem (wp)
namespace DL61
section
variable {prog : Program} {w : World} {A : Around} {R : Result → Shared → Prop}
/-- the list at b, with these items -/
def LL (h : Heap) (b : Addr) (xs : List Value) : Prop := ∃ n, h.get? b = some { cls := .type "list", dict := none, data := .seq xs.toArray n, slots := #[] }
theorem loop (hh : A.handled = none) (I L S : Addr) (items : Array Value) (parts : List (List Value)) (hIS : I ≠ S) (hLI : L ≠ I) (hLS : L ≠ S) (hlen : items.size = parts.length) (hz : parts.flatten.length ≤ sizeLine) :
    ∀ (k i : Nat) (s : Shared) (T : Addr) (acc : List Value) (c : Nat), parts.length - i = k → i ≤ parts.length → s.heap.IsListIter I L i → s.heap.IsList L items →
    (∀ (j : Nat) (xs : List Value), parts[j]? = some xs → ∃ b, items[j]? = some (.ref b) ∧ LL s.heap b xs ∧ b ≠ I ∧ b ≠ S) →
    s.heap.get? S = some { cls := .type "list", dict := none, data := .seq #[.ref T] c, slots := #[] } → LL s.heap T acc → T ≠ I → T ≠ S → acc = (parts.take i).flatten →
    (∀ h2 U, (∀ b o, b ≠ I → b ≠ S → s.heap.get? b = some o → h2.get? b = some o) → LL h2 U parts.flatten → (U = T ∨ s.heap.objs.size ≤ U) → (i < parts.length → s.heap.objs.size ≤ U) → R (.ok (.ret (.ref U))) { s with heap := h2 }) →
    codeAny (model prog w) A (.builtin "sum.loop" ⟨[.ref I, .ref S, rawInt 2, rawInt 0], []⟩) R s := by
  intro k
  induction k with
  | zero =>
    intro i s T acc c hk hi hit hL hp hS hT hTI hTS ha hR
    have hin : i = parts.length := by omega
    subst hin
    refine codeAny_builtin F.entry_sum_loop ?_
    rw [Around.under_plainId F.plain_sum_loop _]
    show wpAny _ A.in1 (seqItems? (.ref S) >>= _) _ _ s
    refine wpAny_bind (wpAny_seqItems hS rfl ?_)
    show wpAny _ A.in1 (tryCatch (pyNext (.ref I)) _ >>= _) _ _ s
    refine wpAny_bind (wpAny_tryCatch (wpAny_pyNext_list_end (show A.in1.handled = none from hh) hit hL (by rw [Array.getElem?_eq_none]; omega) fun h2 hk2 => ?_))
    refine wpAny_pure (hR h2 T (fun b o hbI hbS e => hk2 b o hbI e) ?_ (.inl rfl) fun z => absurd z (Nat.lt_irrefl _))
    rw [List.take_length] at ha
    obtain ⟨n, e⟩ := hT
    exact ⟨n, by rw [← ha]; exact hk2 T _ hTI e⟩
  | succ k ih =>
    intro i s T acc c hk hi hit hL hp hS hT hTI hTS ha hR
    have hlt : i < parts.length := by omega
    obtain ⟨b, hb, ⟨nb, eb⟩, hbI, hbS⟩ := hp i parts[i] (List.getElem?_eq_getElem hlt)
    refine codeAny_builtin F.entry_sum_loop ?_
    rw [Around.under_plainId F.plain_sum_loop _]
    show wpAny _ A.in1 (seqItems? (.ref S) >>= _) _ _ s
    refine wpAny_bind (wpAny_seqItems hS rfl ?_)
    show wpAny _ A.in1 (tryCatch (pyNext (.ref I)) _ >>= _) _ _ s
    refine wpAny_bind (wpAny_tryCatch (wpAny_pyNext_list_item hit hL hb fun h1 hit1 sb => ?_))
    obtain ⟨nT, eT⟩ := hT
    have eT1 : h1.get? T = some { cls := .type "list", dict := none, data := .seq acc.toArray nT, slots := #[] } := (sb.2 T hTI).trans eT
    have eb1 : h1.get? b = some { cls := .type "list", dict := none, data := .seq (parts[i]).toArray nb, slots := #[] } := (sb.2 b hbI).trans eb
    have eS1 : h1.get? S = some { cls := .type "list", dict := none, data := .seq #[.ref T] c, slots := #[] } := (sb.2 S (Ne.symm hIS)).trans hS
    have hfl : ((parts.take (i+1)).flatten) = acc ++ parts[i] := by rw [List.take_succ_eq_append_getElem hlt, List.flatten_append, ha]; simp
    have hsz0 : (acc ++ parts[i]).length ≤ sizeLine := by
      rw [← hfl]
      refine Nat.le_trans ?_ hz
      have e := congrArg (fun z => z.flatten.length) (List.take_append_drop (i+1) parts)
      simp only [List.flatten_append, List.length_append] at e
      omega
    have hsz : acc.toArray.size + (parts[i]).toArray.size ≤ sizeLine := by rw [List.size_toArray, List.size_toArray, ← List.length_append]; exact hsz0
    show wpAny _ A.in1 ((holding [.ref b] (binaryOp .Add (.ref T) (.ref b))).attempt >>= _) _ _ _
    refine wpAny_bind (wpAny_attempt (wpAny_holding (PySem.P.add_list eT1 eb1 ?_ hsz)))
    show wpAny _ A.in1 (updateSeq S (fun _ => #[.ref h1.objs.size]) >>= _) _ _ _
    have eS2 := Heap.get?_push_of_some { cls := .type "list", data := .seq (acc.toArray ++ (parts[i]).toArray) } eS1
    refine wpAny_bind (wpAny_updateSeq eS2 rfl ?_)
    refine wpAny_bind (wpAny_letGo ?_)
    have eS3 := Heap.get?_update_self (Obj.mapSeq fun _ => #[.ref h1.objs.size]) eS2 rfl
    show wpAny _ A.in1 (updateSeq S (fun _ => #[.ref h1.objs.size]) >>= _) _ _ _
    have eS4 := Heap.get?_update_self (Obj.mapSeq fun _ => #[.ref h1.objs.size]) eS3 rfl
    refine wpAny_bind (wpAny_updateSeq eS3 rfl ?_)
    have sz4 : ∀ (h : Heap) (f g : Obj → Obj), ((h.update S f).update S g).objs.size = h.objs.size := fun h f g => by rw [Heap.size_update, Heap.size_update]
    have kp : ∀ b2 o, b2 ≠ S → h1.get? b2 = some o → (((h1.push { cls := .type "list", data := .seq (acc.toArray ++ (parts[i]).toArray) }).update S (Obj.mapSeq fun _ => #[.ref h1.objs.size])).update S (Obj.mapSeq fun _ => #[.ref h1.objs.size])).get? b2 = some o := fun b2 o n e =>
      (Heap.get?_update_other _ _ (Ne.symm n)).trans ((Heap.get?_update_other _ _ (Ne.symm n)).trans (Heap.get?_push_of_some _ e))
    have kp0 : ∀ b2 o, b2 ≠ I → b2 ≠ S → s.heap.get? b2 = some o → h1.get? b2 = some o := fun b2 o n1 _ e => (sb.2 b2 n1).trans e
    have hSlt : S < h1.objs.size := Heap.lt_size eS1
    have hIlt : I < h1.objs.size := let ⟨_, e, _⟩ := hit1; Heap.lt_size e
    refine wpAny_pure ⟨plainId_quiet F.plain_sum_loop _, ih (i + 1) _ h1.objs.size (acc ++ parts[i]) _ (by omega) hlt (hit1.at fun o e => kp _ o hIS e) ?_ ?_ eS4 ⟨0, ?_⟩ (Nat.ne_of_gt hIlt) (Nat.ne_of_gt hSlt) hfl.symm ?_⟩
    · obtain ⟨o, e, r⟩ := hL
      exact ⟨o, kp _ o hLS (kp0 _ o hLI hLS e), r⟩
    · intro j xs hj
      obtain ⟨b2, g1, ⟨n2, g2⟩, g3, g4⟩ := hp j xs hj
      exact ⟨b2, g1, ⟨n2, kp _ _ g4 (kp0 _ _ g3 g4 g2)⟩, g3, g4⟩
    · refine (Heap.get?_update_other _ _ (Nat.ne_of_lt hSlt)).trans ((Heap.get?_update_other _ _ (Nat.ne_of_lt hSlt)).trans ?_)
      rw [Heap.get?_push_size _ rfl]
      simp
    · intro h2 U hk2 hU hor _
      have hge : s.heap.objs.size ≤ U := by
        rcases hor with rfl | h
        · exact Nat.le_of_eq sb.1.symm
        · refine Nat.le_trans ?_ h
          show s.heap.objs.size ≤ (((h1.push _).update S _).update S _).objs.size
          rw [sz4]
          rw [← sb.1]
          exact Nat.le_of_lt (by rw [show (h1.push _).objs.size = h1.objs.size + 1 from Array.size_push _]; exact Nat.lt_succ_self _)
      exact hR h2 U (fun b2 o n1 n2 e => hk2 b2 o n1 n2 (kp _ o n2 (kp0 _ o n1 n2 e))) hU (.inr hge) (fun _ => hge)
end
end DL61
end PySem
namespace DL
open PySem PySem.Spec PyProof.Rows L2
section
variable {X : Cx} {K : PySem.W.Frag} {F0 : FZ}
inductive All2 {α β : Type} (R : α → β → Prop) : List α → List β → Prop
  | nil : All2 R [] []
  | cons {a b xs ys} : R a b → All2 R xs ys → All2 R (a :: xs) (b :: ys)
theorem All2.length_eq {α β : Type} {R : α → β → Prop} : ∀ {xs : List α} {ys : List β}, All2 R xs ys → xs.length = ys.length
  | _, _, .nil => rfl
  | _, _, .cons _ t => by rw [List.length_cons, List.length_cons, t.length_eq]
theorem All2.at {α β : Type} {R : α → β → Prop} : ∀ {xs : List α} {ys : List β}, All2 R xs ys → ∀ (j : Nat) (y : β), ys[j]? = some y → ∃ x, xs[j]? = some x ∧ R x y
  | _, _, .cons r _, 0, y, h => by rw [List.getElem?_cons_zero] at h; cases h; exact ⟨_, rfl, r⟩
  | _, _, .cons _ t, j+1, y, h => by rw [List.getElem?_cons_succ] at h; exact t.at j y h
/-! as data -/
end
end DL

set_option maxRecDepth 100000
set_option maxHeartbeats 2000000
namespace DL
open PySem PySem.Spec PyProof.Rows L2
/-! ### reversed(a frozen list) -/
section
variable {X : Cx} {F0 : FZ} {e tg : Expr} {p pos : Pos}
end
end DL

set_option maxRecDepth 100000
set_option maxHeartbeats 2000000
namespace DL
open PySem PySem.Spec PyProof.Rows L2
/-! ### repr of a datum, where no repr is under way -/
section
variable {X : Cx} {K : PySem.W.Frag} {F0 : FZ} {e : Expr} {p pos : Pos}
end
end DL

set_option maxRecDepth 100000
set_option maxHeartbeats 2000000
namespace DL
open PySem PySem.Spec PyProof.Rows L2
/-! ### a law whose own body asks what stands around it: as the claim calls it -/
section
variable {P : Program} {w : World} {K : PySem.W.Frag} {mg : Str → Option Value} {base : Heap}
end
end DL

set_option maxRecDepth 100000
set_option maxHeartbeats 2000000
namespace DL
open PySem PySem.Spec PyProof.Rows L2
section
variable {X : Cx} {F0 : FZ} {o e : Expr} {to : TE} {to' : DTE} {apos cpos : Pos}
end
end DL

set_option maxRecDepth 100000
set_option maxHeartbeats 2000000
namespace DL
open PySem PySem.Spec PyProof.Rows L2
/-! ### a def whose body asks that no repr is under way (a helper that calls repr) -/
/-- what a call answers where no repr is under way -/
def GdOk (P : Program) (w : World) (K : PySem.W.Frag) (mg : Str → Option Value) (base : Heap) (k : Nat) (f : Addr) (fd : FuncData) (ps : List Str) (sp : Sp) : Prop :=
  ∀ (A : Around) (outer : List Env) (s : Shared) (H : Hp) (args : Args) (us : List Value) (vs : List V) (Q : VK) (E : XK), A.guards = some [] → Room k A → Env0 P w K mg base A outer s H → BindsTo s fd args (ps.zip us) → Vals vs us → sp vs H Q E →
    codeAny (model P w) A (.call (.ref f) args) (CR CX0 outer P w H s Q E) s
section
variable {P : Program} {w : World} {K : PySem.W.Frag} {mg : Str → Option Value} {base : Heap}
end
section
variable {X : Cx} {F0 : FZ} {k j : Nat} {f : Addr} {fd : FuncData} {ps : List Str} {x : Str} {p pos : Pos} {e : Expr} {es : List Expr}
/-- a helper as called, where no repr is under way -/
structure DCalG (P : Program) (w : World) (K : PySem.W.Frag) (mg : Str → Option Value) (base : Heap) (k : Nat) (x : Str) (sp : DSp) : Prop where
  ex : ∃ (f : Addr) (fd : FuncData) (ps : List Str), GdOk P w K mg base k f fd ps (liftSp K sp) ∧ (∀ ds M Q E, sp ds M Q E → ds.length = ps.length) ∧ mg x = some (.ref f) ∧ PySem.W.keepIn K (.ref f) = true ∧ L2.Binds K fd ps []
theorem GdOk.mono {P : Program} {w : World} {K : PySem.W.Frag} {mg : Str → Option Value} {base : Heap} {sp : Sp} (h : GdOk P w K mg base k f fd ps sp) (hk : k ≤ j) : GdOk P w K mg base j f fd ps sp := fun A outer s H args us vs Q E hg hr => h A outer s H args us vs Q E hg (hr.mono hk)
end
section
variable {P : Program} {w : World} {K : PySem.W.Frag} {mg : Str → Option Value} {base : Heap}
end
end DL

set_option maxRecDepth 100000
set_option maxHeartbeats 2000000
namespace DL
open PySem PySem.Spec PyProof.Rows L2
/-! ### what repr can show: small leaves, few nodes -/
mutual
def D.nd : D → Nat
  | .tup l => D.ndL l
  | .lst l => D.ndL l
  | .kt l => D.ndL l
  | .str x => x.cps.size
  | _ => 0
def D.ndL : List D → Nat
  | [] => 0
  | d :: r => D.nd d + 131 + D.ndL r
end
mutual
def D.sm : D → Bool
  | .non => true
  | .bl _ => true
  | .int i => decide (i.natAbs < 10 ^ 39)
  | .str x => PyData.strOk x
  | .tup l => D.smL l
  | .lst l => D.smL l
  | .kt l => D.smL l
  | _ => false
def D.smL : List D → Bool
  | [] => true
  | d :: r => D.sm d && D.smL r
end
/-! ### texts compared -/
section
variable {X : Cx} {K : PySem.W.Frag} {F0 : FZ} {a b : Expr} {ta tb : TE} {ta' tb' : DTE} {pos : Pos}
/-! ### repr of a datum, told at once -/
end
end DL

set_option maxRecDepth 100000
set_option maxHeartbeats 4000000
namespace DL
open PySem PySem.Spec PyProof.Rows L2
/-! ### pairs of small ints hash apart -/
/-! ### dict(d), keys that are tuples of small ints -/
section
variable {prog : Program} {w : World} {K : Type} [DecidableEq K] {knd : HeapKind prog w K} {A : Around} {E : Value → Shared → Prop} {s : Shared}
end
section
variable {X : Cx} {K : PySem.W.Frag} {F0 : FZ}
end
/-! ### d.setdefault(key, e) -/
section
variable {X : Cx} {K : PySem.W.Frag} {F0 : FZ} {o e f : Expr} {td ty tx : TE} {td' ty' tx' : DTE} {apos cpos : Pos}
end
end DL

set_option maxRecDepth 100000
set_option maxHeartbeats 4000000
namespace DL
open PySem PySem.Spec PyProof.Rows L2
/-! ### for k, v in d.items(), the keys of d tuples -/
section
variable {X : Cx} {pins : List (Addr × Obj)} {σ : L2.St} {H : Hp} {s : Shared} {d : Addr} {o : Obj}
end
section
variable {P : Program} {w : World} {K : PySem.W.Frag} {d : Addr} {o : Obj} {es : Array DictEntry} {ep : Nat}
end
section
variable {X : Cx} {e : Expr} {td : TE} {apos cpos : Pos}
end
section
variable {K : PySem.W.Frag} {F0 : FZ} {X : Cx}
end
section
variable {X : Cx} {F0 : FZ} {tg e : Expr} {i : Nat} {pos apos cpos : Pos}
end
end DL

set_option maxRecDepth 100000
set_option maxHeartbeats 2000000
namespace DL
open PySem PySem.Spec PyProof.Rows L2
/-! ### isinstance(x, dict), x a told dict with tuple keys -/
section
variable {X : Cx} {K : PySem.W.Frag} {F0 : FZ}
end
end DL

set_option maxRecDepth 100000
set_option maxHeartbeats 2000000
namespace DL
open PySem PySem.Spec PyProof.Rows L2
/-! ### d.pop(key), d a dict with tuple keys, the key there -/
section
variable {X : Cx} {K : PySem.W.Frag} {F0 : FZ}
end
section
variable {X : Cx} {F0 : FZ} {o e : Expr} {to : TE} {to' : DTE} {ta : TA} {ta' : DTA} {apos cpos : Pos}
end
end DL

set_option maxRecDepth 100000
set_option maxHeartbeats 2000000
namespace DL
open PySem PySem.Spec PyProof.Rows L2
/-! ### repr of small things: greater whole numbers, the empty dict in a tuple -/
mutual
def D.pz : D → PyData
  | .non => .none
  | .bl b => .bool b
  | .int i => .int i
  | .str x => .str x
  | .tup l => .tuple (D.pzL l)
  | .lst l => .list (D.pzL l)
  | .kt l => .tuple (D.pzL l)
  | .dk _ _ => .dict []
  | _ => .none
def D.pzL : List D → List PyData
  | [] => []
  | d :: r => D.pz d :: D.pzL r
end
mutual
/-- small: no dict -/
def D.sz : D → Bool
  | .non => true
  | .bl _ => true
  | .int i => decide (i.natAbs < 10 ^ 59)
  | .str x => PyData.strOk x
  | .tup l => D.szL l
  | .lst l => D.szL l
  | .kt l => D.szL l
  | _ => false
def D.szL : List D → Bool
  | [] => true
  | d :: r => D.sz d && D.szL r
end
/-- no list, no tuple: an empty dict may be -/
def D.z1 : D → Bool
  | .non => true
  | .bl _ => true
  | .int i => decide (i.natAbs < 10 ^ 59)
  | .str x => PyData.strOk x
  | .dk [] [] => true
  | _ => false
/-! ### a tuple of scalars and empty dicts -/
inductive Dz1 (H : Hp) : V → PyData → Prop
  | non : Dz1 H .non .none
  | bl (b : Bool) : Dz1 H (.bl b) (.bool b)
  | int (i : Int) : Dz1 H (.int i) (.int i)
  | str (x : Str) : Dz1 H (.str x) (.str x)
  | dk {a : Addr} : Rd H a (.dK []) → Dz1 H (.ref a) (.dict [])
inductive Dz1L (H : Hp) : List V → List PyData → Prop
  | nil : Dz1L H [] []
  | cons {v : V} {vs : List V} {d : PyData} {ds : List PyData} : Dz1 H v d → Dz1L H vs ds → Dz1L H (v :: vs) (d :: ds)
section
variable {X : Cx} {K : PySem.W.Frag} {F0 : FZ} {e : Expr} {p pos : Pos} {pins : List (Addr × Obj)} {σ : L2.St} {H : Hp} {s : Shared}
theorem rd_dict0 (I : Inv X pins σ H s) {a : Addr} (rd : Rd H a (.dK [])) : ∃ as, Reads s.heap (.ref a) (.dict []) as ∧ sysModules ∉ as := by
  obtain ⟨_, nm, xs, kv, dd⟩ := rd.ok I.hok
  cases kv
  obtain ⟨o, es, ep, ho, hx, hdat, _, hp, _⟩ := dd
  have he : es.toList = [] := by
    generalize es.toList = l at hp
    cases hp
    rfl
  refine ⟨a :: [] ++ [], Reads.dict ho hx.1 hdat (by rw [he]; exact .nil) (by rw [he]; exact .nil), fun hm => ?_⟩
  have : sysModules = a := by simpa using hm
  rw [this] at nm; simp at nm
theorem Dz1L.reads (I : Inv X pins σ H s) : ∀ {vs : List V} {ds : List PyData} {us : List Value}, Dz1L H vs ds → Vals vs us → ∃ as, ReadsAll s.heap us ds as ∧ sysModules ∉ as
  | _, _, _, .nil, r => by
    cases r
    exact ⟨_, ReadsAll.nil, by simp⟩
  | _, _, _, .cons h1 h2, r => by
    cases r with
    | cons r1 r2 =>
      obtain ⟨bs, q1, q2⟩ := Dz1L.reads I h2 r2
      cases h1 with
      | non => cases r1; exact ⟨_, ReadsAll.cons Reads.none q1, by simpa using q2⟩
      | bl b => cases r1; exact ⟨_, ReadsAll.cons (Reads.bool b) q1, by simpa using q2⟩
      | int i => obtain ⟨t, rfl⟩ := r1; exact ⟨_, ReadsAll.cons (Reads.int i t) q1, by simpa using q2⟩
      | str x => obtain ⟨t, rfl⟩ := r1; exact ⟨_, ReadsAll.cons (Reads.str x t) q1, by simpa using q2⟩
      | dk rd =>
        cases r1
        obtain ⟨as, a1, a2⟩ := rd_dict0 I rd
        exact ⟨_, ReadsAll.cons a1 q1, fun z => (List.mem_append.mp z).elim a2 q2⟩
end
end DL
namespace DL
open PySem PySem.Spec PyProof.Rows L2
section
variable {X : Cx} {K : PySem.W.Frag} {F0 : FZ}
/-! ### str of a whole number or None -/
end
end DL

set_option maxRecDepth 100000
set_option maxHeartbeats 2000000
namespace DL
open PySem PySem.Spec PyProof.Rows L2
/-! ### repr of a tuple whose items are small things without a dict, or empty dicts -/
inductive DmZ (K : PySem.W.Frag) (H : Hp) : V → PyData → Prop
  | dp {v : V} {x : PyData} : Dp K H v x → x.hasDict = false → DmZ K H v x
  | dk {a : Addr} : Rd H a (.dK []) → DmZ K H (.ref a) (.dict [])
inductive DmL (K : PySem.W.Frag) (H : Hp) : List V → List PyData → Prop
  | nil : DmL K H [] []
  | cons {v : V} {vs : List V} {d : PyData} {ds : List PyData} : DmZ K H v d → DmL K H vs ds → DmL K H (v :: vs) (d :: ds)
section
variable {X : Cx} {K : PySem.W.Frag} {F0 : FZ} {pins : List (Addr × Obj)} {σ : L2.St} {H : Hp} {s : Shared}
end
end DL

set_option maxRecDepth 100000
set_option maxHeartbeats 2000000
namespace DL
open PySem PySem.Spec PyProof.Rows L2
/-! ### a power, kept as a letter -/
section
variable {X : Cx} {K : PySem.W.Frag} {F0 : FZ} {a b : Expr} {ta tb : TE} {ta' tb' : DTE} {pos : Pos}
end
end DL

set_option maxRecDepth 100000
set_option maxHeartbeats 2000000
namespace DL
open PySem PySem.Spec PyProof.Rows L2
/-! ### d.setdefault(key, z), d a dict with tuple keys -/
section
variable {X : Cx} {K : PySem.W.Frag} {F0 : FZ}
end
section
variable {X : Cx} {F0 : FZ} {o e f : Expr} {to : TE} {to' : DTE} {ta : TA} {ta' : DTA} {apos cpos : Pos}
end
end DL

set_option maxRecDepth 100000
set_option maxHeartbeats 2000000
namespace DL
open PySem PySem.Spec PyProof.Rows L2
/-! ### repr of any small thing: scalars, tuples, lists, dicts with plain keys -/
def keyP : L2.Key → PyData
  | .inl i => .int i
  | .inr x => .str x
mutual
inductive DgZ (K : PySem.W.Frag) (H : Hp) : V → PyData → Prop
  | non : DgZ K H .non .none
  | bl (b : Bool) : DgZ K H (.bl b) (.bool b)
  | int (i : Int) : DgZ K H (.int i) (.int i)
  | str (x : Str) : DgZ K H (.str x) (.str x)
  | lst {a : Addr} {xs : List V} {ds : List PyData} : SqL K H a xs → DgL K H xs ds → DgZ K H (.ref a) (.list ds)
  | tup {a : Addr} {xs : List V} {ds : List PyData} : SqT K H a xs → DgL K H xs ds → DgZ K H (.ref a) (.tuple ds)
  | dk {a : Addr} {ps : List (L2.Key × V)} {kvs : List (PyData × PyData)} : Rd H a (.dK ps) → kvs.map (·.1) = ps.map (fun p => keyP p.1) → DgL K H (ps.map (·.2)) (kvs.map (·.2)) → DgZ K H (.ref a) (.dict kvs)
inductive DgL (K : PySem.W.Frag) (H : Hp) : List V → List PyData → Prop
  | nil : DgL K H [] []
  | cons {v : V} {vs : List V} {d : PyData} {ds : List PyData} : DgZ K H v d → DgL K H vs ds → DgL K H (v :: vs) (d :: ds)
end
section
variable {X : Cx} {K : PySem.W.Frag} {F0 : FZ} {pins : List (Addr × Obj)} {σ : L2.St} {H : Hp} {s : Shared}
def ShO (X : Cx) (s : Shared) (u : Value) (x : PyData) : Prop := ∃ as bs, Reads s.heap u x as ∧ ReadAtMost s.heap x.depth bs ∧ ReprK X.prog X.w bs s.heap x.depth u x.shown
def ShA (X : Cx) (s : Shared) (us : List Value) (ds : List PyData) : Prop := ∃ as bs, ReadsAll s.heap us ds as ∧ ReadAtMost s.heap (PyData.depthAll ds) bs ∧ ReprAllK X.prog X.w bs s.heap (PyData.depthAll ds) us (PyData.shownAll ds)
theorem ShO.flat {u : Value} {x : PyData} {as : List Addr} (rd : Reads s.heap u x as) (nd : x.hasDict = false) (hs : x.showable = true) (hz : x.shown.length ≤ sizeLine) : ShO X s u x := by
  obtain ⟨bs, h1, h2⟩ := ReprK.of_reads (prog := X.prog) (w := X.w) rd hs (fun z => by rw [nd] at z; cases z) hz
  exact ⟨as, bs, rd, h1, h2⟩
theorem ShA.nil : ShA X s [] [] := by
  refine ⟨_, [], ReadsAll.nil, (fun _ h => by cases h), ?_⟩
  rw [PyData.shownAll]
  exact .nil
theorem ShA.cons {u : Value} {x : PyData} {us : List Value} {ds : List PyData} (h : ShO X s u x) (t : ShA X s us ds) : ShA X s (u :: us) (x :: ds) := by
  obtain ⟨a1, b1, rd1, m1, k1⟩ := h
  obtain ⟨a2, b2, rd2, m2, k2⟩ := t
  have n1 : x.depth ≤ PyData.depthAll (x :: ds) := by rw [PyData.depthAll]; exact Nat.le_max_left _ _
  have n2 : PyData.depthAll ds ≤ PyData.depthAll (x :: ds) := by rw [PyData.depthAll]; exact Nat.le_max_right _ _
  refine ⟨_, b1 ++ b2, ReadsAll.cons rd1 rd2, (m1.mono n1).append (m2.mono n2), ?_⟩
  rw [PyData.shownAll]
  have q1 := (k1.more fun b hb => List.mem_append_left b2 hb).level_le n1
  have q2 := k2.more_le (fun b hb => List.mem_append_right b1 hb) n2
  exact .cons q1 q2
theorem keys_sh : ∀ {ps : List (L2.Key × V)} {vs : List (L2.Key × Value)} {es : List DictEntry}, KV ps vs → Pairs (mixKind X.prog X.w) es vs → PyData.showableAll (ps.map fun p => keyP p.1) = true → (∀ t ∈ PyData.shownAll (ps.map fun p => keyP p.1), t.length ≤ sizeLine) → ShA X s (es.map (·.key)) (ps.map fun p => keyP p.1)
  | _, _, _, .nil, .nil, _, _ => ShA.nil
  | _, _, _, .cons (a := p) hp tp, .cons hk _ tk, hs, hz => by
    rw [List.map_cons, PyData.showableAll, Bool.and_eq_true] at hs
    rw [List.map_cons, PyData.shownAll] at hz
    refine ShA.cons ?_ (keys_sh tp tk hs.2 fun t ht => hz t (List.mem_cons_of_mem _ ht))
    have z := hz _ List.mem_cons_self
    have hk2 : keyIs _ _ = true := hk
    rw [← hp.1] at hk2
    rcases keyIs_shape hk2 with ⟨i, t, e1, e2⟩ | ⟨x, t, e1, e2⟩
    · have h1 := hs.1
      dsimp only
      rw [e1] at h1 z ⊢
      rw [e2]
      exact ShO.flat (Reads.int i t) rfl h1 z
    · have h1 := hs.1
      dsimp only
      rw [e1] at h1 z ⊢
      rw [e2]
      exact ShO.flat (Reads.str x t) rfl h1 z
theorem vals_kv : ∀ {ps : List (L2.Key × V)} {vs : List (L2.Key × Value)} {es : List DictEntry}, KV ps vs → Pairs (mixKind X.prog X.w) es vs → Vals (ps.map (·.2)) (es.map (·.val))
  | _, _, _, .nil, .nil => .nil
  | _, _, _, .cons hp tp, .cons _ hv tk => .cons (by dsimp only; rw [hv]; exact hp.2) (vals_kv tp tk)
mutual
theorem DgZ.sh (I : Inv X pins σ H s) : ∀ {v : V} {x : PyData} {u : Value}, DgZ X.K H v x → RelV v u → x.showable = true → x.shown.length ≤ sizeLine → ShO X s u x
  | _, _, _, .non, r, hs, hz => by cases r; exact ShO.flat Reads.none rfl hs hz
  | _, _, _, .bl b, r, hs, hz => by cases r; exact ShO.flat (Reads.bool b) rfl hs hz
  | _, _, _, .int i, r, hs, hz => by obtain ⟨t, rfl⟩ := r; exact ShO.flat (Reads.int i t) rfl hs hz
  | _, _, _, .str x, r, hs, hz => by obtain ⟨t, rfl⟩ := r; exact ShO.flat (Reads.str x t) rfl hs hz
  | _, _, _, .lst (ds := ds) hl ha, r, hs, hz => by
    cases r
    obtain ⟨its, rv, ⟨o, n, ho, hc, _, hd⟩, _⟩ := I.list hl
    have z2 : (listText (PyData.shownAll ds)).length ≤ sizeLine := by rw [PyData.shown] at hz; exact hz
    obtain ⟨as, bs, ra, hb, hk⟩ := DgL.sh I ha rv (by rw [PyData.showable] at hs; exact hs) fun t ht => Nat.le_trans (listText_mem_le ht) z2
    have rr := Reads.list ho hc hd ra
    have dp : (PyData.list ds).depth = PyData.depthAll ds + 1 := by simp only [PyData.depth]
    refine ⟨_, _ :: bs, rr, ReadAtMost.cons rr (by omega) hb, ?_⟩
    rw [dp, PyData.shown]
    cases its with
    | nil =>
      have e := ra
      cases e
      rw [PyData.shownAll, listText_nil]
      exact .listEmpty ho hc hd
    | cons y l => exact .list ho hc hd (not_mem_of_deeper rr (by omega) hb) (by have := hk.length_eq; simpa using this) (fun i y e => hk.item i y (by simpa using e))
  | _, _, _, .tup (ds := ds) hl ha, r, hs, hz => by
    cases r
    obtain ⟨its, rv, ⟨o, ho, hc, n, hd⟩, _⟩ := I.tuple hl
    have z2 : (tupleText (PyData.shownAll ds)).length ≤ sizeLine := by rw [PyData.shown] at hz; exact hz
    obtain ⟨as, bs, ra, hb, hk⟩ := DgL.sh I ha rv (by rw [PyData.showable] at hs; exact hs) fun t ht => Nat.le_trans (tupleText_mem_le ht) z2
    have rr := Reads.tuple ho hc hd ra
    have dp : (PyData.tuple ds).depth = PyData.depthAll ds + 1 := by simp only [PyData.depth]
    refine ⟨_, _ :: bs, rr, ReadAtMost.cons rr (by omega) hb, ?_⟩
    rw [dp, PyData.shown]
    exact .tuple ho hc hd (not_mem_of_deeper rr (by omega) hb) hk
  | _, _, _, .dk (a := a) (ps := ps) (kvs := kvs) hr hkeys ha, r, hs, hz => by
    cases r
    obtain ⟨_, nm, xs, kv, o, es, ep, ho, hx, hdat, _, hp, _⟩ := hr.ok I.hok
    have z2 : (dictText (PyData.shownKv kvs)).length ≤ sizeLine := by rw [PyData.shown] at hz; exact hz
    obtain ⟨s1, s2⟩ := PyData.showableKv_split kvs (by rw [PyData.showable] at hs; exact hs)
    have z3 := fun t ht => let ⟨p, hp, le⟩ := PyData.shownKv_key_le kvs t ht; Nat.le_trans le (Nat.le_trans (dictText_mem_le hp) z2)
    have z4 := fun t ht => let ⟨p, hp, le⟩ := PyData.shownKv_val_le kvs t ht; Nat.le_trans le (Nat.le_trans (dictText_mem_le hp) z2)
    have kk : ShA X s (es.toList.map (·.key)) (kvs.map (·.1)) := by
      rw [hkeys] at s1 z3 ⊢
      exact keys_sh kv hp s1 z3
    obtain ⟨a1, b1, r1, m1, k1⟩ := kk
    obtain ⟨a2, b2, r2, m2, k2⟩ := DgL.sh I ha (vals_kv kv hp) s2 z4
    have rr : Reads s.heap (.ref a) (.dict kvs) _ := Reads.dict ho hx.1 hdat r1 r2
    have n1 := PyData.depthAll_keys_le kvs
    have n2 := PyData.depthAll_vals_le kvs
    have dp : (PyData.dict kvs).depth = PyData.depthKv kvs + 1 := by simp only [PyData.depth]
    have mm := (m1.mono n1).append (m2.mono n2)
    refine ⟨_, a :: (b1 ++ b2), rr, ReadAtMost.cons rr (by omega) mm, ?_⟩
    rw [dp, PyData.shown, PyData.shownKv_eq]
    have q1 := k1.more_le (fun b hb => List.mem_append_left b2 hb) n1
    have q2 := k2.more_le (fun b hb => List.mem_append_right b1 hb) n2
    exact .dict ho hx.1 hdat nm (not_mem_of_deeper rr (by omega) mm) (ReprEntriesK.of_two _ _ _ q1 q2)
theorem DgL.sh (I : Inv X pins σ H s) : ∀ {vs : List V} {ds : List PyData} {us : List Value}, DgL X.K H vs ds → Vals vs us → PyData.showableAll ds = true → (∀ t ∈ PyData.shownAll ds, t.length ≤ sizeLine) → ShA X s us ds
  | _, _, _, .nil, r, _, _ => by cases r; exact ShA.nil
  | _, _, _, .cons (d := d) (ds := ds) h1 h2, r, hs, hz => by
    cases r with
    | cons r1 r2 =>
      rw [PyData.showableAll, Bool.and_eq_true] at hs
      rw [PyData.shownAll] at hz
      exact ShA.cons (DgZ.sh I h1 r1 hs.1 (hz _ List.mem_cons_self)) (DgL.sh I h2 r2 hs.2 fun t ht => hz t (List.mem_cons_of_mem _ ht))
end
end
/-! ### as data -/
mutual
def D.gp : D → PyData
  | .non => .none
  | .bl b => .bool b
  | .int i => .int i
  | .str x => .str x
  | .tup l => .tuple (D.gpL l)
  | .lst l => .list (D.gpL l)
  | .dk ks l => .dict ((ks.map keyP).zip (D.gpL l))
  | _ => .none
def D.gpL : List D → List PyData
  | [] => []
  | d :: r => D.gp d :: D.gpL r
end
def keyG : L2.Key → Bool
  | .inl i => decide (i.natAbs < 10 ^ 59)
  | .inr x => PyData.strOk x
mutual
/-- small, nested at most n deep -/
def D.sg : D → Nat → Bool
  | .non, _ => true
  | .bl _, _ => true
  | .int i, _ => decide (i.natAbs < 10 ^ 59)
  | .str x, _ => PyData.strOk x
  | .tup l, n + 1 => D.sgL l n
  | .lst l, n + 1 => D.sgL l n
  | .dk ks l, n + 1 => ks.all keyG && (decide (ks.length = l.length) && D.sgL l n)
  | _, _ => false
def D.sgL : List D → Nat → Bool
  | [], _ => true
  | d :: r, n => D.sg d n && D.sgL r n
end
section
variable {K : PySem.W.Frag} {H : Hp}
end
end DL

set_option maxRecDepth 100000
set_option maxHeartbeats 2000000
namespace DL
open PySem PySem.Spec PyProof.Rows L2
/-! ### repr of any small thing, as a rule -/
section
variable {X : Cx} {K : PySem.W.Frag} {F0 : FZ} {pins : List (Addr × Obj)} {σ : L2.St} {H : Hp} {s : Shared}
end
end DL

set_option maxRecDepth 100000
set_option maxHeartbeats 4000000
namespace DL
open PySem PySem.Spec PyProof.Rows L2
/-! ### own methods, called on instances -/
section
variable {K : PySem.W.Frag} {F : FZ}
end
/-- a method as called on an instance -/
structure DMt (P : Program) (w : World) (K : PySem.W.Frag) (mg : Str → Option Value) (base : Heap) (CX : CXT) (k : Nat) (C : Addr) (m : Str) (sp : DSp) : Prop where
  ex : ∃ (g : Addr) (fd : FuncData) (ps : List Str), FnOk P w K mg base CX k g fd ps (liftSp K sp) ∧ Meth K C m g ∧ L2.Binds K fd ps []
section
variable {X : Cx} {F0 : FZ} {e o : Expr} {es : List Expr} {to : TE} {to' : DTE} {t : TA} {t' : DTA} {m : Str} {pos apos : Pos} {C : Addr} {CX : CXT}
end
end DL

set_option maxRecDepth 100000
set_option maxHeartbeats 4000000
/-! ### a, *b = a list; *a, b = a list -/
namespace L2
open PySem PySem.Spec PySem.Calls PyProof.Rows
section
variable {prog : Program} {w : World} {A : Around} {E : Value → Shared → Prop} {s : Shared}
end
section
variable {X : Cx} {pos : Pos}
end
end L2
namespace DL
open PySem PySem.Spec PyProof.Rows L2
section
variable {X : Cx} {F0 : FZ} {pos : Pos}
end
end DL

set_option maxRecDepth 100000
set_option maxHeartbeats 4000000
namespace DL
open PySem PySem.Spec PyProof.Rows L2
/-! ### texts: split, join, int(text), f-strings; defs as values -/
section
variable {X : Cx} {K : PySem.W.Frag} {F0 : FZ} {o e : Expr} {es : List Expr} {to te : TE} {to' te' : DTE} {apos pos p : Pos} {t : TA} {t' : DTA}
/-! f-strings -/
abbrev DTJ := G → Mp → Str → (Str → Mp → Prop) → Prop
structure DJs (X : Cx) (F0 : FZ) (es : List Expr) (ts : List TE) (r' : DTJ) : Prop where
  pj : PJ X es ts
  le : ∀ (F : FZ) (γ : G) (M : Mp) (σ : L2.St) (H : Hp) (acc : Str) (Q' : Str → Mp → Prop) (Q : Str → Hp → Prop), Bs F0 F → SR X.K F M H → GR X.K F γ σ → r' γ M acc Q' → (∀ F1 out M1 H1, FLe F F1 → SR X.K F1 M1 H1 → Q' out M1 → Q out H1) → tJs ts acc σ H Q
/-! a def that a name holds -/
structure DCalA (P : Program) (w : World) (K : PySem.W.Frag) (mg : Str → Option Value) (base : Heap) (CX : CXT) (k : Nat) (f : Addr) (sp : DSp) : Prop where
  ex : ∃ (fd : FuncData) (ps : List Str), FnOk P w K mg base CX k f fd ps (liftSp K sp) ∧ PySem.W.keepIn K (.ref f) = true ∧ L2.Binds K fd ps []
end
end DL

set_option maxRecDepth 100000
set_option maxHeartbeats 1000000
namespace DL
open PySem
/-! ### written numbers -/
/-! ### texts that a sign parts -/
def sgn (c : Nat) : Str := ⟨#[c]⟩
end DL

set_option maxRecDepth 100000
set_option maxHeartbeats 4000000
namespace DL
open PySem PySem.Spec PyProof.Rows L2
/-! ### list.insert -/
section
variable {X : Cx} {K : PySem.W.Frag} {F0 : FZ} {o e e2 : Expr} {to : TE} {to' : DTE} {ta : TA} {ta' : DTA} {apos cpos : Pos}
end
end DL

set_option maxRecDepth 100000
set_option maxHeartbeats 4000000
/-! ### tuples whose objects are known -/
namespace L2
open PySem PySem.Spec PyProof.Rows HT
/-- a new tuple, its object known -/
def NewT (ys : List V) (Q : VK) (H : Hp) : Prop := ∀ (p : Addr) (o : Obj), H p = none → o.dict = none → Q (.ref p) (upd H p (.frz o (.tup ys)))
section
variable {X : Cx}
theorem newT_laid {pins : List (Addr × Obj)} {σ : St} {H : Hp} {s : Shared} {ys : List V} {its : List Value} {Q : VK} (I : Inv X pins σ H s) (hz : ys.length ≤ sizeLine) (r : Vals ys its) (q : NewT ys Q H) :
    EP X pins σ Q (.ref s.heap.objs.size) { s with heap := s.heap.push { cls := .type "tuple", data := .seq its.toArray } } := by
  refine ⟨.ref s.heap.objs.size, _, I.laid (t' := s.toks) (o := .frz { cls := .type "tuple", data := .seq its.toArray } (.tup ys)) (fun b u e => Heap.get?_push_of_some _ e) (Nat.le_refl _) ?_, rfl, q _ _ (I.hok.fresh (Nat.le_refl _)) rfl⟩
  exact ⟨Heap.get?_push_size _ rfl, hz, its, r, IsTup.new _ _⟩
def rTupleK (K : PySem.W.Frag) : List V → Hp → VK → Prop := fun xs H Q => ∃ p ys, xs = [.ref p] ∧ ((SqL K H p ys ∧ NewT ys Q H) ∨ (SqT K H p ys ∧ Q (.ref p) H))
theorem call_tupleK : CallR X (.type "tuple") (rTupleK X.K) := by
  intro pins s σ H xs us Q I r h
  obtain ⟨p, ys, rfl, h⟩ := h
  obtain ⟨u, rfl, rx⟩ := vals1 r
  cases rx
  rcases h with ⟨hq, q⟩ | ⟨hq, q⟩
  · obtain ⟨its, r', pl, hz⟩ := I.list hq
    have hlen := r'.length
    refine call_tuple_list pl.isList (fun h' kp => ?_) (by simp only [List.size_toArray] <;> omega)
    have I1 : Inv X pins σ H { s with heap := h' } := I.kept (t' := s.toks) kp
    exact newT_laid I1 hz r' q
  · obtain ⟨its, r', pl, hz⟩ := I.tuple hq
    exact call_tuple_same pl ⟨.ref p, H, I, rfl, q⟩
def rCatK (K : PySem.W.Frag) : R2 := fun x y H Q => ∃ a b xs ys, x = .ref a ∧ y = .ref b ∧ SqT K H a xs ∧ SqT K H b ys ∧ xs.length + ys.length ≤ sizeLine ∧
  (xs = [] → Q (.ref b) H) ∧ (xs ≠ [] → ys = [] → Q (.ref a) H) ∧ (xs ≠ [] → ys ≠ [] → NewT (xs ++ ys) Q H)
theorem op_catK : OpR X (binaryOp .Add) (rCatK X.K) := by
  intro pins s σ H x y v u Q I rx ry h
  obtain ⟨a, b, xs, ys, rfl, rfl, ha, hb, hz, q0, q1, q2⟩ := h
  by_cases hx : xs = []
  · subst hx
    cases rx
    cases ry
    obtain ⟨its, r1, p1, _⟩ := I.tuple ha
    obtain ⟨its2, r2, p2, _⟩ := I.tuple hb
    cases r1
    exact cat_tup0 p1 p2 ⟨.ref b, H, I, rfl, q0 rfl⟩
  · cases rx
    cases ry
    obtain ⟨its, r1, p1, _⟩ := I.tuple ha
    obtain ⟨its2, r2, p2, _⟩ := I.tuple hb
    refine HT.cat_tup p1 p2 (fun z => hx (r1.nil_iff.mp z)) (fun z => ⟨.ref a, H, I, rfl, q1 hx (r2.nil_iff.mp z)⟩) (fun z => ?_) (by rw [← r1.length, ← r2.length]; exact hz)
    exact newT_laid I (by rw [List.length_append]; exact hz) (r1.append r2) (q2 hx fun w => z (r2.nil_iff.mpr w))
def rSlK (K : PySem.W.Frag) : V → Option Int → Option Int → Hp → VK → Prop := fun x lo hi H Q => ∃ a xs, x = .ref a ∧ SqT K H a xs ∧
  (HT.sIx xs.length 0 lo = 0 ∧ HT.sIx xs.length xs.length hi = xs.length → Q (.ref a) H) ∧ (¬ (HT.sIx xs.length 0 lo = 0 ∧ HT.sIx xs.length xs.length hi = xs.length) → NewT (cutV xs lo hi) Q H)
theorem sl_tupK : SlR X (rSlK X.K) := by
  intro pins s σ H x v vl vu lo hi sl Q I rx hs pl pu h
  obtain ⟨a, xs, rfl, hx, q1, q2⟩ := h
  cases rx
  obtain ⟨its, r, ht, hz⟩ := I.tuple hx
  have hlen : its.toArray.size = xs.length := by rw [List.size_toArray]; exact r.length.symm
  refine ⟨"tuple", _, PyProof.Rows.slot_tuple_getitem.lookup, ht.typeIs, ?_⟩
  by_cases hw : HT.sIx xs.length 0 lo = 0 ∧ HT.sIx xs.length xs.length hi = xs.length
  · exact getItem_tuple_whole ht hs pl pu (by rw [hlen]; exact hw) ⟨.ref a, H, I, rfl, q1 hw⟩
  · refine HT.getItem_tuple_cut ht hs pl pu (by rw [hlen]; exact hw) ?_ (by rw [hlen]; exact hz)
    rw [hlen]
    exact newT_laid I (Nat.le_trans (cutV_length xs lo hi) hz) ((r.drop (HT.sIx xs.length 0 lo)).take (HT.sIx xs.length xs.length hi - HT.sIx xs.length 0 lo)) (q2 hw)
/-- t.index(x): the first place of an equal one -/
def rIdxK (K : PySem.W.Frag) : V → List V → Hp → VK → Prop := fun x xs H Q => ∃ (a : Addr) (y : V) (d : PyData) (ds : List PyData) (j : Nat) (z : PyData), x = V.ref a ∧ xs = [y] ∧ Dp K H (V.ref a) (.tuple ds) ∧ Dp K H y d ∧
  SeqAt.shaped (.tuple ds) = true ∧ SeqAt.shaped d = true ∧ ds[j]? = some z ∧ PyData.eqv z d = true ∧ (∀ (m : Nat) (z' : PyData), m < j → ds[m]? = some z' → PyData.eqv z' d = false) ∧ Q (.int (j : Nat)) H
theorem mt_idxK (hu : X.A.units + 65 < cLine) : MtR X "tuple.index" (rIdxK X.K) := by
  intro pins s σ H x xs v us Q I rx rxs h
  obtain ⟨a, y, d, ds, j, z, rfl, rfl, hl, hy, sl, sd, hz, hzj, hno, q⟩ := h
  cases rx
  cases rxs with
  | cons ry rt =>
    rename_i uy ut
    cases rt
    obtain ⟨bs, r1⟩ := Dp.reads I d y uy hy ry
    have hxs : PyData.canLayAll0 ds = true := SeqAt.canLay_of_shaped sl
    have hroom : X.A.units + 1 + min (PyData.depthAll ds) d.depth < cLine := room_in_shaped sd hu
    cases hl with
    | tup hs ha =>
      obtain ⟨its, rv, ⟨⟨cls, dd, data, sls⟩, ho, hc, n, hdt⟩, hlen⟩ := I.tuple hs
      simp only at hc hdt
      subst hc hdt
      obtain ⟨as, h4⟩ := Dp.readsAll I ds _ its ha rv
      have hn : its.length = ds.length := SeqAt.ReadsAll.length ds its as h4
      have hmap : its.map (SeqAt.readOf s.heap) = ds := SeqAt.readsAll_map ds its as hxs h4
      have hvl := rv.length
      obtain ⟨hjd, _⟩ := List.getElem?_eq_some_iff.mp hz
      have hjl : j < its.length := by omega
      have hj : j < its.toArray.size := by simpa using hjl
      have at_ : ∀ (m : Nat) (hm : m < its.toArray.size) (z' : PyData), ds[m]? = some z' → SeqAt.readOf s.heap its.toArray[m] = z' := by
        intro m hm z' hz'
        have hml : m < its.length := by simpa using hm
        rw [← hmap, List.getElem?_map, List.getElem?_eq_getElem hml] at hz'
        have e1 : SeqAt.readOf s.heap its[m] = z' := Option.some.inj (show some (SeqAt.readOf s.heap its[m]) = some z' from hz')
        simpa using e1
      refine call_meets PySem.F.slot_tuple_index ⟨_, ho, rfl⟩ PySem.F.entry_tuple_index (PySem.F.args_tuple_index_2 _ _)
        (TI.tuple_indexAt a its.toArray n dd sls uy (fun u => PyData.eqv (SeqAt.readOf s.heap u) d) j hj ?_ ?_) ⟨ho, SeqAt.items_eqAt (vs := its.toArray) (show ReadsAll s.heap its.toArray.toList ds as from h4) r1 hxs (SeqAt.canLay_of_shaped sd) hroom, ?_⟩
      · show PyData.eqv (SeqAt.readOf s.heap its.toArray[j]) d = true
        rw [at_ j hj z hz]
        exact hzj
      · intro m hm hmj
        have hmd : m < ds.length := by omega
        have hz' : ds[m]? = some ds[m] := List.getElem?_eq_getElem hmd
        show PyData.eqv (SeqAt.readOf s.heap its.toArray[m]) d = false
        rw [at_ m hm _ hz']
        exact hno m _ hmj hz'
      · exact ⟨.int (j : Nat), H, I.tok _, ⟨_, rfl⟩, q⟩
/-- a tuple whose object is known has no attributes of its own -/
def KtV (K : PySem.W.Frag) (x : V) (H : Hp) : Prop := ∃ p, x = .ref p ∧ ((∃ o, K.lookup p = some o ∧ o.cls = .type "tuple" ∧ o.dict = none) ∨ ∃ (o : Obj) (xs : List V), H p = some (.frz o (.tup xs)) ∧ o.dict = none)
theorem ktV_is {pins : List (Addr × Obj)} {σ : St} {H : Hp} {s : Shared} {x : V} {v : Value} (I : Inv X pins σ H s) (r : RelV x v) (ty : KtV X.K x H) :
    s.TypeIs v "tuple" ∧ ∀ a, v = .ref a → ∃ ob, s.heap.get? a = some ob ∧ ob.dict = none := by
  obtain ⟨p, rfl, ty⟩ := ty
  cases r
  rcases ty with ⟨o, hk, hc, hd⟩ | ⟨o, xs, hk, hd⟩
  · refine ⟨⟨o, I.kIn p o hk, hc⟩, fun a e => ?_⟩
    cases e
    exact ⟨o, I.kIn _ o hk, hd⟩
  · obtain ⟨e1, _, _, _, t⟩ := (show ObjOk X.prog X.w H s.heap p (.frz o (.tup xs)) from I.hok p _ hk)
    refine ⟨t.typeIs, fun a e => ?_⟩
    cases e
    exact ⟨o, e1, hd⟩
def tBMT (K : PySem.W.Frag) (r : V → List V → Hp → VK → Prop) (to : TE) (t : TA) : TE := fun σ H Q => to σ H fun x H1 => KtV K x H1 ∧ t σ H1 fun xs H2 => r x xs H2 Q
theorem pe_bmT {o e : Expr} {es : List Expr} {to : TE} {t : TA} {name : Str} {apos cpos : Pos} {id : String} {r : V → List V → Hp → VK → Prop} (slot : Slot "tuple" name id) (hty : typeOf (.builtin id) = pure (.type "method_descriptor")) (hm : MtR X id r) (ho : PE X o to) (ha : PA X (e :: es) t)
    (hbase : attributeBase o name X.env (eval o X.env) = eval o X.env := by rfl)
    (hfew : ((backTo cpos (starEach (e :: es) X.env)).all (fun x => !x.1) && (backToKw cpos (keywordEach [] X.env)).all (fun x => x.1.isSome)
      && decide ((e :: es).length + ([] : List Keyword).length + (if ([] : List Keyword).isEmpty then 0 else 1) < 30)) = true := by rfl)
    (hline : (apos.endLine == cpos.line) = true := by rfl) (hs : starEach (e :: es) X.env = (false, eval e X.env) :: starEach es X.env := by rfl) (hplain : (backTo cpos (starEach es X.env)).any (·.1) = false := by rfl) :
    PE X (.Call (.Attribute o name apos) (e :: es) [] cpos) (tBMT X.K r to t) := by
  refine ⟨fun pins s σ H Q I h => ?_⟩
  refine wpAny_Call_method_late hbase hfew hline rfl (thn (ho.run pins s σ H _ I h) fun v s1 ⟨x, H1, I1, r1, ty, q1⟩ => ?_)
  obtain ⟨h1, h2⟩ := ktV_is I1 r1 ty
  refine ⟨"tuple", id, PySem.F.plainAttrs_tuple, slot, hty, h1, h2, ?_⟩
  have hA := ha.run cpos pins s1 σ H1 _ I1 q1
  rw [hs] at hA ⊢
  refine Calls.callWith_builtin (by show (false || (backTo cpos (starEach es X.env)).any (·.1)) = false; rw [hplain] <;> rfl) (Calls.evalArgs_plain ?_)
  exact thn hA fun us s2 ⟨vs, H2, I2, r2, q2⟩ => hm pins s2 σ H2 x vs v us Q I2 r1 r2 q2
end
end L2
namespace DL
open PySem PySem.Spec PyProof.Rows L2
section
variable {X : Cx} {K : PySem.W.Frag} {F0 : FZ} {a b o e : Expr} {es : List Expr} {ta tb te to : TE} {ta' tb' te' to' : DTE} {t : TA} {t' : DTA} {pos apos cpos : Pos}
/-- a new tuple as data -/
theorem newT_d {F : FZ} {M : Mp} {H : Hp} {ys : List V} {l : List D} {Q' : DK} {Q : VK} (s : SR K F M H) (r : RpL K F l ys) (hz : ys.length ≤ sizeLine) (q : Q' (.kt l) M)
    (k : ∀ (F1 : FZ) (d : D) (v : V) (M1 : Mp) (H1 : Hp), FLe F F1 → SR K F1 M1 H1 → Rp K F1 d v → Q' d M1 → Q v H1) : NewT ys Q H := fun p ob hp hd => by
  have e2 := same_upd (o := .frz ob (.tup ys)) (s.freeF hp)
  exact k _ _ _ _ _ e2 (s.newF hp hz) (.kt (.inr ⟨ob, upd_same, hd⟩) (r.mono e2)) q
def dTupleK : DRC := fun ds M Q => match ds with
  | [.lst l] => Q (.kt l) M
  | [.kt l] => Q (.kt l) M
  | [.ref p] => (match M p with
    | some (.lst l) => Q (.kt l) M
    | _ => False)
  | _ => False
theorem lc_tupleK : LC K F0 dTupleK (rTupleK K) := by
  intro F M H ds vs Q' Q e0 s r q k
  unfold dTupleK at q
  split at q
  · cases r with
    | cons r1 r2 =>
      cases r2
      cases r1 with
      | lst a b => exact ⟨_, _, rfl, .inl ⟨SqL.of (s.fz _ _ a), newT_d s b (s.lenL (SqL.of a)) q k⟩⟩
  · cases r with
    | cons r1 r2 =>
      cases r2
      cases r1 with
      | kt a b => exact ⟨_, _, rfl, .inr ⟨s.sqK a, k F _ _ M H (FLe.refl F) s (.kt a b) q⟩⟩
  · cases r with
    | cons r1 r2 =>
      cases r2
      cases r1
      split at q
      · rename_i l hm
        obtain ⟨u, h1, h2⟩ := s.mu _ _ hm
        cases h2 with
        | lst rl z => exact ⟨_, _, rfl, .inl ⟨SqL.of h1, newT_d s rl z q k⟩⟩
      · exact q.elim
  · exact q.elim
def dCatK : DR2 := fun x y M Q => match x, y with
  | .kt l, .kt m => l.length + m.length ≤ sizeLine ∧ Q (.kt (l ++ m)) M
  | _, _ => False
theorem l2_catK : L2r K F0 dCatK (rCatK K) := by
  intro F M H d e x y Q' Q e0 s r1 r2 q k
  unfold dCatK at q
  split at q
  · obtain ⟨hz, q⟩ := q
    cases r1 with
    | kt a1 b1 =>
      cases r2 with
      | kt a2 b2 =>
        rename_i xs _ ys
        have hz2 := hz
        rw [b1.length, b2.length] at hz2
        refine ⟨_, _, _, _, rfl, rfl, s.sqK a1, s.sqK a2, hz2, fun e => ?_, fun h1 e => ?_, fun h1 h2 => newT_d s (b1.append b2) (by rw [List.length_append]; exact hz2) q k⟩
        · subst e
          cases b1
          exact k F _ _ M H (FLe.refl F) s (.kt a2 b2) q
        · subst e
          cases b2
          rw [List.append_nil] at q
          exact k F _ _ M H (FLe.refl F) s (.kt a1 b1) q
  · exact q.elim
theorem de_catK (ha : DE X F0 a ta ta') (hb : DE X F0 b tb tb') : DE X F0 (.BinOp a .Add b pos) (tOp (rCatK X.K) ta tb) (dOp dCatK ta' tb') := de_op op_catK l2_catK ha hb
def dIdxK : DRM := fun x ds M Q => match x, ds with
  | .kt l, [y] => ∃ (j : Nat) (z : D), D.ok (.kt l) 60 = true ∧ y.ok 60 = true ∧ l[j]? = some z ∧ D.eq z y = true ∧ (∀ m z', m < j → l[m]? = some z' → D.eq z' y = false) ∧ Q (.int (j : Int)) M
  | _, _ => False
def D.isKt : D → Bool
  | .kt _ => true
  | _ => false
def dBMT (r : DRM) (to : DTE) (t : DTA) : DTE := fun γ M Q => to γ M fun x M1 => x.isKt = true ∧ t γ M1 fun xs M2 => r x xs M2 Q
theorem lm_idxK : LM K F0 dIdxK (rIdxK K) := by
  intro F M H o x ds vs Q' Q e0 s r rs q k
  unfold dIdxK at q
  split at q
  · rename_i l y
    obtain ⟨j, z, ok, oky, hj, hz, hno, q⟩ := q
    cases r with
    | kt h1 h2 =>
      cases rs with
      | cons r1 r2 =>
        cases r2
        have okl : D.okL l 59 = true := by simpa [D.ok] using ok
        obtain ⟨i1, i2⟩ := index_py hj hno
        have sh := D.ok_shaped ok
        simp only [D.py] at sh
        exact ⟨_, _, y.py, D.pyL l, j, z.py, rfl, rfl, .tup (s.sqK h1) (RpL.dp s.fz h2 okl), r1.dp s.fz oky, sh, D.ok_shaped oky, i1, hz, i2, k F _ _ M H (FLe.refl F) s (.int _) q⟩
  · exact q.elim
theorem isKt_rp {F : FZ} {M : Mp} {H : Hp} {d : D} {v : V} (s : SR K F M H) (r : Rp K F d v) (h : d.isKt = true) : KtV K v H := by
  cases r with
  | kt a b =>
    rcases a with ⟨o, its, n, z, c, _, _, _, hd⟩ | ⟨o, z, hd⟩
    · exact ⟨_, rfl, .inl ⟨o, z, c, hd⟩⟩
    · exact ⟨_, rfl, .inr ⟨o, _, s.fz _ _ z, hd⟩⟩
  | _ => cases h
theorem de_idxK {j : Nat} (hr : Room j X.A) (ho : DE X F0 o to to') (ha : DA X F0 [e] t t') (hbase : attributeBase o "index" X.env (eval o X.env) = eval o X.env := by rfl)
    (hfew : ((backTo cpos (starEach [e] X.env)).all (fun x => !x.1) && (backToKw cpos (keywordEach [] X.env)).all (fun x => x.1.isSome) && decide ([e].length + ([] : List Keyword).length + (if ([] : List Keyword).isEmpty then 0 else 1) < 30)) = true := by rfl)
    (hline : (apos.endLine == cpos.line) = true := by rfl) (hs : starEach [e] X.env = (false, eval e X.env) :: starEach [] X.env := by rfl) : DE X F0 (.Call (.Attribute o "index" apos) [e] [] cpos) (tBMT X.K (rIdxK X.K) to t) (dBMT dIdxK to' t') :=
  ⟨pe_bmT PySem.F.slot_tuple_index PySem.F.type_tuple_index (mt_idxK (by have := hr.un; omega)) ho.pe ha.pa hbase hfew hline hs rfl, fun F γ M σ H Q' Q e0 s g q k => ho.le F γ M σ H _ _ e0 s g q fun F1 d v M1 H1 e1 s1 r1 q1 =>
    ⟨isKt_rp s1 r1 q1.1, ha.le F1 γ M1 σ H1 _ _ (e0.tr e1) s1 (g.mono e1) q1.2 fun F2 ds vs M2 H2 e2 s2 r2 q2 => lm_idxK F2 M2 H2 d v ds vs _ _ ((e0.tr e1).tr e2) s2 (r1.mono e2) r2 q2 fun F3 d3 v3 M3 H3 e3 s3 r3 q3 => k F3 d3 v3 M3 H3 ((e1.trans e2).trans e3) s3 r3 q3⟩⟩
def dSlK (te : DTE) (tl th : DTO) : DTE := fun γ M Q => te γ M fun x M1 => tl γ M1 fun l M2 => th γ M2 fun u M3 => match x with
  | .kt xs => Q (.kt (cutD xs l u)) M3
  | _ => False
theorem de_sliceK {lo hi : Option Expr} {tl th : TO} {tl' th' : DTO} {p2 : Pos} (he : DE X F0 e te te') (hl : DO X F0 lo tl tl') (hu : DO X F0 hi th th') : DE X F0 (.Subscript e (.Slice lo hi none p2) pos) (tSl (rSlK X.K) te tl th) (dSlK te' tl' th') := ⟨pe_slice sl_tupK he.pe hl.po hu.po, fun F γ M σ H Q' Q e0 s g q k => by
  refine he.le F γ M σ H _ _ e0 s g q fun F1 d1 v1 M1 H1 e1 s1 r1 q1 => ?_
  refine hl.le F1 γ M1 σ H1 _ _ (e0.tr e1) s1 (g.mono e1) q1 fun F2 l M2 H2 e2 s2 q2 => ?_
  refine hu.le F2 γ M2 σ H2 _ _ ((e0.tr e1).tr e2) s2 (g.mono (e1.trans e2)) q2 fun F3 u M3 H3 e3 s3 q3 => ?_
  have r3 := r1.mono (e2.trans e3)
  have ee := (e1.trans e2).trans e3
  split at q3
  · cases r3 with
    | kt a b =>
      rename_i xs
      refine ⟨_, xs, rfl, s3.sqK a, fun w => ?_, fun w => ?_⟩
      · have hc := cut_rp b l u
        rw [cutV_whole w] at hc
        exact k F3 _ _ M3 H3 ee s3 (.kt a hc) q3
      · exact newT_d s3 (cut_rp b l u) (Nat.le_trans (cutV_length xs l u) (s3.lenK a)) q3 fun F4 d v M4 H4 e4 => k F4 d v M4 H4 (ee.trans e4)
  · exact q3.elim⟩
end
end DL
namespace L2
open PySem PySem.Spec PyProof.Rows HT
def tRevK (K : PySem.W.Frag) (te : TE) : TE := fun σ H Q => te σ H fun x H1 => ∃ a xs, x = .ref a ∧ SqT K H1 a xs ∧ NewT xs.reverse Q H1
section
variable {X : Cx} {e : Expr} {te : TE} {k : Nat} {p1 p2 p3 pos : Pos}
theorem pe_revK (he : PE X e te) : PE X (.Subscript e (.Slice none none (some (.UnaryOp .USub (.Constant (.int 1) k p1) p2)) p3) pos) (tRevK X.K te) := by
  refine ⟨fun pins s σ H Q I h => ?_⟩
  refine Subscript_ (thn (he.run pins s σ H _ I h) fun v s1 ⟨x, H1, I1, r1, q1⟩ => ?_)
  obtain ⟨a, xs, ex, hx, q⟩ := q1
  subst ex
  cases r1
  have hst : PO X (some (.UnaryOp .USub (.Constant (.int 1) k p1) p2)) (tPart (tUn (rU fun i => .int (-i)) (tC (.int 1)))) := po_some (pe_un un_neg pe_int)
  refine wpAny_Slice (thn (po_none.run pins s1 σ H1 (fun o H2 => o = none ∧ H2 = H1) I1 ⟨rfl, rfl⟩) fun vl s2 ⟨l, H2, I2, pl, el, e2⟩ => ?_)
  subst el e2
  refine thn (po_none.run pins s2 σ H2 (fun o H3 => o = none ∧ H3 = H2) I2 ⟨rfl, rfl⟩) fun vu s3 ⟨u, H3, I3, pu, eu, e3⟩ => ?_
  subst eu e3
  refine thn (hst.run pins s3 σ H3 (fun o H4 => o = some (-1) ∧ H4 = H3) I3 ⟨1, rfl, -1, rfl, rfl, rfl⟩) fun vs s4 ⟨o, H4, I4, ps, eo, e4⟩ => ?_
  subst eo e4
  cases pl
  cases pu
  cases ps with | int _ tk => ?_
  have I5 : Inv X pins σ H4 { s4 with heap := s4.heap.push { cls := .type "slice", data := .fields #[.none, .none, .int (-1) tk] } } := I4.kept (t' := s4.toks) fun b ob q => Heap.get?_push_of_some _ q
  obtain ⟨its, r, ht, hz⟩ := I5.tuple hx
  have hlen := r.length
  show wpAny (model X.prog X.w) X.A (subscriptTail e (.Slice none none (some (.UnaryOp .USub (.Constant (.int 1) k p1) p2)) p3) (.ref a) (.ref s4.heap.objs.size)) (EP X pins σ Q) X.xe { s4 with heap := s4.heap.push { cls := .type "slice", data := .fields #[.none, .none, .int (-1) tk] } }
  refine tail_any (ops := [.ref a, .ref s4.heap.objs.size]) ht.typeIs (PyProof.Rows.slot_tuple_getitem.lookup) ?_ (by with_unfolding_all rfl)
  refine HT.getItem_tuple_rev ht (Heap.IsSliceOf.new _ .none .none (.int (-1) tk)) ?_ (by rw [List.size_toArray]; omega)
  have := newT_laid I5 (by rw [List.length_reverse]; exact hz) r.reverse q
  simpa using this
end
end L2
namespace DL
open PySem PySem.Spec PyProof.Rows L2
section
variable {X : Cx} {F0 : FZ} {e : Expr} {te : TE} {te' : DTE} {k : Nat} {p1 p2 p3 pos : Pos}
def dRevK (ta : DTE) : DTE := fun γ M Q => ta γ M fun x M1 => match x with
  | .kt l => Q (.kt l.reverse) M1
  | _ => False
theorem de_revK (he : DE X F0 e te te') : DE X F0 (.Subscript e (.Slice none none (some (.UnaryOp .USub (.Constant (.int 1) k p1) p2)) p3) pos) (tRevK X.K te) (dRevK te') := ⟨pe_revK he.pe, fun F γ M σ H Q' Q e0 s g q k => by
  refine he.le F γ M σ H _ _ e0 s g q fun F1 d1 v1 M1 H1 e1 s1 r1 q1 => ?_
  split at q1
  · cases r1 with
    | kt h1 h2 =>
      exact ⟨_, _, rfl, s1.sqK h1, newT_d s1 h2.reverse (by rw [List.length_reverse]; exact s1.lenK h1) q1 fun F2 d v M2 H2 e2 => k F2 d v M2 H2 (e1.trans e2)⟩
  · exact q1.elim⟩
end
end DL

set_option maxRecDepth 100000
set_option maxHeartbeats 2000000
namespace DL
open PySem PySem.Spec PyProof.Rows L2 HotX

/-! ### walks and unpackings while an error is handled -/
section
variable {prog : Program} {w : World} {A : Around} {E : Value → Shared → Prop} {s : Shared}
end
section
variable {X : Cx} {pos : Pos}
end
/-! ### lists and tuples walked there -/
end DL

set_option maxRecDepth 100000
set_option maxHeartbeats 2000000
namespace DL
open PySem PySem.Spec PyProof.Rows L2 HotX

/-! ### a list comprehension while an error is handled -/
/-- the block's context: it bears the pins of the code around it -/
abbrev blkH (X : Cx) (s : Shared) (H : Hp) (scope : Scope) (cenv : Env) (fp : List Addr) : Cx := { X with s_0 := s, H_0 := H, env := cenv, outer := X.stack, ex := fp, fn := fun x => scope.names.lookup x == some .cell, xe := fun _ _ => False }
section
variable {X : Cx} {pins : List (Addr × Obj)} {σ : L2.St} {H : Hp} {s : Shared}
end
section
variable {X : Cx}
end
/-! ### as data -/
abbrev BlkH (X : Cx) (scope : Scope) (p : Cx → Prop) : Prop := ∀ (s : Shared) (H : Hp) (C : Addr) (cl : List (Str × Addr)) (fp : List Addr), p (blkH X s H scope (compEnvC scope cl C X.env) fp)
structure DIH (X : Cx) (F0 : FZ) (tg iter : Expr) (wi : TI) (wi' : DTI) : Prop where
  pi : L2H.PIH X tg iter wi
  le : LI X.K F0 wi' wi
section
variable {X : Cx} {F0 : FZ} {e tg elt iter : Expr} {te : TE} {te' : DTE} {ifs : List Expr} {scope : Scope} {own : List (Str × Nat)} {pos : Pos} {wi : TI} {wi' : DTI} {g' : DTG} {tt' : DTT}
end
end DL

set_option maxRecDepth 100000
set_option maxHeartbeats 2000000
namespace DL
open PySem PySem.Spec PyProof.Rows L2 HotX

/-! ### a def that is called in an except suite, with the error -/
/-- a: the error that is handled; Dc: its class; it has no fields -/
structure HotE (K : PySem.W.Frag) (A : Around) (a Dc : Addr) (oe : Obj) : Prop where
  hx : ExcC K Dc
  hz : L2N.Zn (.ref Dc) none oe
  hf : ∃ vs, oe.data = .fields vs
  hh : A.handled = some (.ref a)
abbrev HSp := Addr → Addr → DSp
def HtOk (P : Program) (w : World) (K : PySem.W.Frag) (mg : Str → Option Value) (base : Heap) (k : Nat) (f : Addr) (fd : FuncData) (ps : List Str) (sp : Addr → Addr → Sp) : Prop :=
  ∀ (A : Around) (outer : List Env) (s : Shared) (H : Hp) (args : Args) (us : List Value) (vs : List V) (Q : VK) (E : XK) (a Dc : Addr) (oe : Obj), HotE K A a Dc oe → L2H.RoomH k A → L2H.PinOk outer H s (a, oe) → Env0 P w K mg base A outer s H → BindsTo s fd args (ps.zip us) → Vals vs us → sp a Dc vs H Q E →
    codeAny (model P w) A (.call (.ref f) args) (CR CX0 outer P w H s Q E) s
theorem HtOk.mono {P : Program} {w : World} {K : PySem.W.Frag} {mg : Str → Option Value} {base : Heap} {j k : Nat} {f : Addr} {fd : FuncData} {ps : List Str} {sp : Addr → Addr → Sp} (h : HtOk P w K mg base k f fd ps sp) (hk : k ≤ j) : HtOk P w K mg base j f fd ps sp := fun A outer s H args us vs Q E a Dc oe he hr => h A outer s H args us vs Q E a Dc oe he (hr.mono hk)
section
variable {P : Program} {w : World} {K : PySem.W.Frag} {mg : Str → Option Value} {base : Heap}
end
section
variable {X : Cx} {F0 : FZ} {k j : Nat} {f : Addr} {fd : FuncData} {ps : List Str} {x : Str} {p pos : Pos} {e : Expr} {es : List Expr}
/-- such a def as called -/
structure DCalH (P : Program) (w : World) (K : PySem.W.Frag) (mg : Str → Option Value) (base : Heap) (k : Nat) (x : Str) (sp : HSp) : Prop where
  ex : ∃ (f : Addr) (fd : FuncData) (ps : List Str), HtOk P w K mg base k f fd ps (fun a Dc => liftSp K (sp a Dc)) ∧ (∀ a Dc ds M Q E, sp a Dc ds M Q E → ds.length = ps.length) ∧ mg x = some (.ref f) ∧ PySem.W.keepIn K (.ref f) = true ∧ L2.Binds K fd ps []
end
section
variable {P : Program} {w : World} {K : PySem.W.Frag} {mg : Str → Option Value} {base : Heap}
end
/-! ### what stands in such a body -/
section
variable {X : Cx} {F0 : FZ}
end
end DL

set_option maxRecDepth 100000
set_option maxHeartbeats 4000000
namespace DL
open PySem PySem.Spec PyProof.Rows L2
/-! ### own methods that may raise, within a try or a def that raises -/
section
variable {X : Cx} {F0 : FZ} {e o : Expr} {es : List Expr} {to : TE} {to' : DTE} {t : TA} {t' : DTA} {m : Str} {pos apos : Pos} {C : Addr}
end
end DL

set_option maxRecDepth 100000
set_option maxHeartbeats 4000000
namespace DL
open PySem PySem.Spec PyProof.Rows L2
/-! ### == and != in an except suite -/
section
variable {X : Cx} {F0 : FZ} {a b : Expr} {ta tb : TE} {ta' tb' : DTE} {pos : Pos}
end
end DL

set_option maxRecDepth 100000
set_option maxHeartbeats 2000000
namespace DL
open PySem PySem.Spec PyProof.Rows L2
/-! ### the program's top by one run in the kernel, the facts read off the heap -/
/-- a def: where it stands, its names, parameters, body, scope -/
structure HdFn where
  adr : PySem.W.Frag → Addr
  name : Str
  qual : Str
  params : Arguments
  body : List Stmt
  scope : Scope
def HdFn.val (d : HdFn) : He.FnV := some (d.name, d.qual, d.params, .stmts d.body, d.scope, mainGlobals, [], .none, builtinsNs)
def HdFn.code (K : PySem.W.Frag) (d : HdFn) : Bool := match K.lookup (d.adr K) with
  | some ⟨_, _, .func fd, _⟩ => PySem.W.codeIn K fd.code d.qual
  | _ => false
/-! ### what the facts name -/
/-! ### the hook -/
abbrev HAl : Type := Bool × List He.FnV
section
variable {bs : PySem.W.Frag → List Bool} {fs : List HdFn} {K : PySem.W.Frag}
end
/-! ### the ends -/
end DL

set_option maxRecDepth 100000
set_option maxHeartbeats 2000000
namespace DL
open PySem PySem.Spec PyProof.Rows L2
/-! ### the facts told in parts, the top run for each -/
end DL

set_option maxRecDepth 100000
set_option maxHeartbeats 2000000
namespace DL
open PySem PySem.Spec PyProof.Rows L2
/-! ### one of two readings -/
section
variable {X : Cx} {F0 : FZ} {e : Expr} {st : Stmt} {t1 t2 : TE} {t1' t2' : DTE} {u1 u2 : TS} {u1' u2' : DTS}
end
end DL

set_option maxRecDepth 100000
set_option maxHeartbeats 4000000
namespace DL
open PySem PySem.Spec PyProof.Rows L2
/-! ### dict(zip(t, u)) of two tuples, the keys tuples -/
section
variable {prog : Program} {w : World} {A : Around} {E : Value → Shared → Prop} {s : Shared}
/-- a turn of zip over two tuples of one length, the pair told last being held -/
theorem zt_next {z ti tu t p q a b : Addr} {fl : Bool} {ot : Obj} {k : Nat} {xs ys : Array Value} {Q : Option Value → Shared → Prop} (nh : A.handled = none) (ap : ZipApart z ti tu p q a b)
    (zz : IsZipHeld s.heap z ti tu t fl) (tt : s.heap.get? t = some ot) (pp : IsPair s.heap ti (.ref p) (.ref q)) (ip : s.heap.IsTupleIter p a k) (iq : s.heap.IsTupleIter q b k) (ta : s.heap.IsTuple a xs) (tb : s.heap.IsTuple b ys) (len : xs.size = ys.size)
    (yes : ∀ (x y : Value) (h' : Heap), xs[k]? = some x → ys[k]? = some y → IsZipHeld h' z ti tu t true → h'.IsTupleIter p a (k + 1) → h'.IsTupleIter q b (k + 1) → IsPair h' s.heap.objs.size x y →
      (∀ c o, c ≠ z → c ≠ p → c ≠ q → s.heap.get? c = some o → h'.get? c = some o) → Q (some (.ref s.heap.objs.size)) { s with heap := h' })
    (no : xs[k]? = none → ∀ h' : Heap, (∀ c o, c ≠ z → c ≠ p → c ≠ q → s.heap.get? c = some o → h'.get? c = some o) → Q none { s with heap := h' }) :
    wpAny (model prog w) A (pyNext (.ref z)) Q E s := by
  have ty : s.TypeIs (.ref z) "zip" := ⟨_, zz, rfl⟩
  unfold pyNext
  refine wpAny_bind (wpAny_attempt (wpAny_callSpecial?_slot (name := Str.ofString "__next__") ty F.slot_zip_next (wpAny_call_entry F.slot_zip_next ty F.entry_zip_next ?_ (F.args_zip_next_1 _))))
  show wpAny _ A.in1 (field (Value.ref z) 2 >>= _) _ _ s
  apply wpAny_bind
  refine wpAny_field zz rfl (x := .bool false) rfl ?_
  show wpAny _ A.in1 (field (Value.ref z) 3 >>= _) _ _ s
  apply wpAny_bind
  refine wpAny_field zz rfl (x := .ref ti) rfl ?_
  apply wpAny_bind
  refine wpAny_seqItems pp rfl ?_
  show wpAny _ A.in1 (Builtin.SmallTypes.ownedTupleIsFree (Value.ref z) >>= _) _ _ s
  apply wpAny_bind
  refine wpAny_tupleHeld_zip zz tt fun g1 z1 b1 => ?_
  simp only [if_false, Bool.false_eq_true]
  apply wpAny_bind
  rw [← Array.forIn_toList]
  simp only [List.forIn_nil, List.forIn_cons]
  apply wpAny_bind
  apply wpAny_bind
  apply wpAny_holding
  show wpAny _ _ (Builtin.SmallTypes.nextOf (.ref p) >>= _) _ _ _
  apply wpAny_bind
  have ip1 := ip.extBut b1.extBut ap.i1z
  have ta1 := ta.extBut b1.extBut ap.l1z
  cases ex : xs[k]? with
  | none =>
    refine RZ.nextOf_tuple_end (s := { s with heap := g1 }) nh ip1 ta1 ex fun g2 e b2 hE => ?_
    obtain ⟨oe, he, hc⟩ := hE
    refine wpAny_bind (wpAny_isInstance (T := "StopIteration") (b := true) ⟨oe, he, hc⟩ isSubtype_stop ?_)
    exact wpAny_pure (no ex _ fun c o c1 c2 _ g => b2 _ _ c2 (b1.extBut _ _ c1 g))
  | some x =>
    obtain ⟨y, ey⟩ : ∃ y, ys[k]? = some y := ⟨_, Array.getElem?_eq_getElem (by have := (Array.getElem?_eq_some_iff.mp ex).1; omega)⟩
    refine RZ.nextOf_tuple_item (s := { s with heap := g1 }) ip1 ta1 ex fun g2 ip2 b2 => ?_
    refine wpAny_pure (wpAny_pure ?_)
    apply wpAny_bind
    apply wpAny_bind
    apply wpAny_holding
    show wpAny _ _ (Builtin.SmallTypes.nextOf (.ref q) >>= _) _ _ _
    apply wpAny_bind
    refine RZ.nextOf_tuple_item (s := { s with heap := g2 }) ((iq.extBut b1.extBut ap.i2z).extBut b2.extBut ap.i12.symm) ((tb.extBut b1.extBut ap.l2z).extBut b2.extBut ap.l2i1) ey fun g3 iq3 b3 => ?_
    refine wpAny_pure (wpAny_pure (wpAny_pure ?_))
    show wpAny _ A.in1 (newTuple [x, y] >>= _) _ _ _
    apply wpAny_bind
    refine wpAny_newTuple ?_
    have sz : g3.objs.size = s.heap.objs.size := by rw [b3.1, b2.1, b1.1]
    have fr : ∀ c o, c ≠ z → c ≠ p → c ≠ q → s.heap.get? c = some o → g3.get? c = some o := fun c o c1 c2 c3 g => b3.extBut _ _ c3 (b2.extBut _ _ c2 (b1.extBut _ _ c1 g))
    have zz3 : IsZipHeld g3 z ti tu t true := b3.extBut _ _ ap.i2z.symm (b2.extBut _ _ ap.i1z.symm z1)
    have ip3 := ip2.extBut b3.extBut ap.i12
    have pr : IsPair (g3.push { cls := .type "tuple", data := .seq #[x, y] }) g3.objs.size x y := Heap.get?_push_size _ rfl
    rw [sz] at pr ⊢
    refine wpAny_pure ⟨_, rfl, wpAny_pure ?_⟩
    exact yes x y _ ex ey (Heap.get?_push_of_some _ zz3) (ip3.at fun o g => Heap.get?_push_of_some _ g) (iq3.at fun o g => Heap.get?_push_of_some _ g) pr fun c o c1 c2 c3 g => Heap.get?_push_of_some _ (fr c o c1 c2 c3 g)
end
section
variable {prog : Program} {w : World}
/-- zip of two tuples of one length, as what dict() takes -/
theorem zt_arg (z ti tu p q a b : Addr) (ap : ZipApart z ti tu p q a b) (xs ys : Array Value) (len : xs.size = ys.size) :
    PairArg prog w "zip" z [z, ti, tu, p, q, a, b] [z, tu, p, q] xs.size (fun i u v => xs[i]? = some u ∧ ys[i]? = some v)
      (fun g => IsZip g z ti tu .none ∧ IsPair g ti (.ref p) (.ref q) ∧ (∃ c e, IsPair g tu c e) ∧ g.IsTupleIter p a 0 ∧ g.IsTupleIter q b 0 ∧ g.IsTuple a xs ∧ g.IsTuple b ys) where
  type := fun _ o => ⟨_, o.1, rfl⟩
  notDict := by decide
  keep := fun g g' ⟨o1, o2, ⟨c, e, o3⟩, o4, o5, o6, o7⟩ kp => ⟨kp _ _ o1, kp _ _ o2, ⟨c, e, kp _ _ o3⟩, o4.at fun o => kp _ o, o5.at fun o => kp _ o, o6.at fun o => kp _ o, o7.at fun o => kp _ o⟩
  there := fun g ⟨o1, o2, ⟨c, e, o3⟩, ⟨v4, o4, _⟩, ⟨v5, o5, _⟩, ⟨v6, o6, _⟩, ⟨v7, o7, _⟩⟩ x hx => by
    have : x = z ∨ x = ti ∨ x = tu ∨ x = p ∨ x = q ∨ x = a ∨ x = b := by simpa using hx
    rcases this with r | r | r | r | r | r | r <;> rw [r]
    · exact ⟨_, o1⟩
    · exact ⟨_, o2⟩
    · exact ⟨_, o3⟩
    · exact ⟨_, o4⟩
    · exact ⟨_, o5⟩
    · exact ⟨_, o6⟩
    · exact ⟨_, o7⟩
  sub := fun x hx => by
    have : x = z ∨ x = tu ∨ x = p ∨ x = q := by simpa using hx
    rcases this with r | r | r | r <;> simp [r]
  noKeys := fun A s Q E nh ok k => getAttrOr_miss_zip ok.1 rfl rfl rfl zip_no_keys (by decide +kernel) nh k
  iter := fun A s d Q E nh ok _ off k => by
    obtain ⟨o1, o2, ⟨c, e, o3⟩, o4, o5, o6, o7⟩ := ok
    have dz : d ≠ z := fun r => off (by simp [r])
    have dti : d ≠ ti := fun r => off (by simp [r])
    have dtu : d ≠ tu := fun r => off (by simp [r])
    have dp : d ≠ p := fun r => off (by simp [r])
    have dq : d ≠ q := fun r => off (by simp [r])
    have da : d ≠ a := fun r => off (by simp [r])
    have db : d ≠ b := fun r => off (by simp [r])
    let St : Nat → Heap → Prop := fun i g => (IsPair g ti (.ref p) (.ref q) ∧ g.IsTupleIter p a i ∧ g.IsTupleIter q b i ∧ g.IsTuple a xs ∧ g.IsTuple b ys) ∧
      ((IsZip g z ti tu .none ∧ ∃ c e, IsPair g tu c e) ∨ ∃ t fl ot, IsZipHeld g z ti tu t fl ∧ g.get? t = some ot ∧ t ≠ z ∧ t ≠ p ∧ t ≠ q ∧ t ≠ d)
    have src : PairSrc prog w A z d [z, tu, p, q] xs.size (fun i u v => xs[i]? = some u ∧ ys[i]? = some v) St := by
      refine ⟨fun hm => ?_, fun i g g' ⟨⟨s1, s2, s3, s4, s5⟩, s6⟩ kp => ⟨⟨kp _ _ dti.symm s1, s2.at fun o => kp _ o dp.symm, s3.at fun o => kp _ o dq.symm, s4.at fun o => kp _ o da.symm, s5.at fun o => kp _ o db.symm⟩, ?_⟩, ?_, ?_⟩
      · have : d = z ∨ d = tu ∨ d = p ∨ d = q := by simpa using hm
        rcases this with r | r | r | r
        · exact dz r
        · exact dtu r
        · exact dp r
        · exact dq r
      · rcases s6 with ⟨s6, c, e, s7⟩ | ⟨t, fl, ot, s6, s7, t1, t2, t3, t4⟩
        · exact .inl ⟨kp _ _ dz.symm s6, c, e, kp _ _ dtu.symm s7⟩
        · exact .inr ⟨t, fl, ot, kp _ _ dz.symm s6, kp _ _ t4 s7, t1, t2, t3, t4⟩
      · rintro i s1 Q1 E1 hi ⟨⟨u1, u2, u3, u4, u5⟩, u6⟩ dl hQ
        have fresh : ∀ {x o}, s1.heap.get? x = some o → s1.heap.objs.size ≠ x := fun g => Nat.ne_of_gt (Heap.lt_size g)
        have fp : s1.heap.objs.size ≠ p := by obtain ⟨_, g, _⟩ := u2; exact fresh g
        have fq : s1.heap.objs.size ≠ q := by obtain ⟨_, g, _⟩ := u3; exact fresh g
        have gx := Array.getElem?_eq_getElem hi
        have gy := Array.getElem?_eq_getElem (show i < ys.size by omega)
        rcases u6 with ⟨u6, c, e, u7⟩ | ⟨t, fl, ot, u6, u7, t1, t2, t3, t4⟩
        · refine RZ.pyNext_zipT_item ap u6 u1 u7 u2 u3 u4 u5 gx gy fun h' a1 a2 a3 a4 a5 a6 kp => ?_
          refine hQ s1.heap.objs.size _ _ h' s1.toks ⟨gx, gy⟩ (.inl ⟨_, a5, rfl, _, rfl⟩) ⟨⟨kp _ _ ap.TIz ap.TITO ap.TIi1 ap.TIi2 u1, a3, a4, u4.at fun o => kp _ o ap.l1z ap.l1TO ap.l1i1 ap.l1i2, u5.at fun o => kp _ o ap.l2z ap.l2TO ap.l2i1 ap.l2i2⟩, .inr ⟨s1.heap.objs.size, false, _, a1, a5, fresh u6, fp, fq, Nat.ne_of_gt dl⟩⟩ fun x o hx g => ?_
          have : x ≠ z ∧ x ≠ tu ∧ x ≠ p ∧ x ≠ q := by simpa using hx
          exact kp x o this.1 this.2.1 this.2.2.1 this.2.2.2 g
        · refine zt_next nh ap u6 u7 u1 u2 u3 u4 u5 len (fun x y h' ex ey b1 b2 b3 b4 kp => ?_) (fun h _ _ => by rw [gx] at h; cases h)
          refine hQ s1.heap.objs.size _ _ h' s1.toks ⟨ex, ey⟩ (.inl ⟨_, b4, rfl, _, rfl⟩) ⟨⟨kp _ _ ap.TIz ap.TIi1 ap.TIi2 u1, b2, b3, u4.at fun o => kp _ o ap.l1z ap.l1i1 ap.l1i2, u5.at fun o => kp _ o ap.l2z ap.l2i1 ap.l2i2⟩, .inr ⟨t, true, ot, b1, kp _ _ t1 t2 t3 u7, t1, t2, t3, t4⟩⟩ fun x o hx g => ?_
          have : x ≠ z ∧ x ≠ tu ∧ x ≠ p ∧ x ≠ q := by simpa using hx
          exact kp x o this.1 this.2.2.1 this.2.2.2 g
      · rintro s1 Q1 E1 ⟨⟨u1, u2, u3, u4, u5⟩, u6⟩ hQ
        have gx : xs[xs.size]? = none := Array.getElem?_eq_none (Nat.le_refl _)
        rcases u6 with ⟨u6, c, e, u7⟩ | ⟨t, fl, ot, u6, u7, t1, t2, t3, t4⟩
        · refine RZ.pyNext_zipT_end nh ap u6 u1 u7 u2 u3 u4 u5 (.inl gx) fun h' kp => hQ h' s1.toks fun x o hx g => ?_
          have : x ≠ z ∧ x ≠ tu ∧ x ≠ p ∧ x ≠ q := by simpa using hx
          exact kp x o this.1 this.2.1 this.2.2.1 this.2.2.2 g
        · refine zt_next nh ap u6 u7 u1 u2 u3 u4 u5 len (fun x y h' ex => by rw [gx] at ex; cases ex) fun _ h' kp => hQ h' s1.toks fun x o hx g => ?_
          have : x ≠ z ∧ x ≠ tu ∧ x ≠ p ∧ x ≠ q := by simpa using hx
          exact kp x o this.1 this.2.2.1 this.2.2.2 g
    exact wpAny_pyIter_zip o1 (k z [z, tu, p, q] St s.heap s.toks src ⟨⟨o2, o4, o5, o6, o7⟩, .inl ⟨o1, c, e, o3⟩⟩ (fun _ _ g => g) fun x hx => .inl hx)
end
end DL

set_option maxRecDepth 100000
set_option maxHeartbeats 4000000
namespace DL
open PySem PySem.Spec PyProof.Rows L2
/-! ### dict(zip(t, u)): the rule -/
def tDictZ (K : PySem.W.Frag) (ta : TA) : TE := fun σ H Q => ta σ H fun vs H1 => ∃ (a b : Addr) (xs ys : List V) (ks : List (List Key)), vs = [.ref a, .ref b] ∧ SqT K H1 a xs ∧ SqT K H1 b ys ∧ xs.length = ys.length ∧ ks.length = xs.length ∧
  (∀ (i : Nat) (v : V) (k : List Key), xs[i]? = some v → ks[i]? = some k → ∃ t : Addr, v = .ref t ∧ H1 t = some (.tup (k.map kV))) ∧ ks.Nodup ∧ (∀ k ∈ ks, k.length ≤ sizeLine) ∧ ∀ d, H1 d = none → Q (.ref d) (upd H1 d (.dT (ks.zip ys)))
theorem keyed_as {H : Hp} : ∀ {xs : List V} {ia : List Value} {ks : List (List Key)}, Vals xs ia → ks.length = xs.length → (∀ (i : Nat) (v : V) (k : List Key), xs[i]? = some v → ks[i]? = some k → ∃ t : Addr, v = .ref t ∧ H t = some (.tup (k.map kV))) →
    ∃ as : List Addr, ia = as.map Value.ref ∧ as.length = ks.length ∧ ∀ x ∈ ks.zip as, H x.2 = some (.tup (x.1.map kV))
  | _, _, [], .nil, _, _ => ⟨[], rfl, rfl, fun _ h => by cases h⟩
  | _, _, k :: ks, .cons r rr, hl, h => by
    obtain ⟨t, rfl, ht⟩ := h 0 _ k rfl rfl
    cases r
    obtain ⟨as, e, el, ha⟩ := keyed_as (ks := ks) rr (by simpa using hl) fun i v k h1 h2 => h (i + 1) v k h1 h2
    refine ⟨t :: as, by rw [e]; rfl, by rw [List.length_cons, List.length_cons, el], fun x hx => ?_⟩
    rw [List.zip_cons_cons] at hx
    rcases List.mem_cons.mp hx with z | z
    · rw [z]; exact ht
    · exact ha x z
theorem kt_zip {H : Hp} : ∀ {ks : List (List Key)} {as : List Addr} {ys : List V} {ib : List Value}, as.length = ks.length → Vals ys ib → (∀ x ∈ ks.zip as, H x.2 = some (.tup (x.1.map kV))) → KT H (ks.zip ys) (ks.zip (as.zip ib))
  | [], _, _, _, _, _, _ => by rw [List.zip_nil_left, List.zip_nil_left]; exact .nil
  | k :: ks, [], _, _, h, _, _ => by simp at h
  | k :: ks, a :: as, _, _, _, .nil, _ => by rw [List.zip_nil_right, List.zip_nil_right, List.zip_nil_right]; exact .nil
  | k :: ks, a :: as, _, _, h, .cons r rr, ha => by
    rw [List.zip_cons_cons, List.zip_cons_cons, List.zip_cons_cons]
    exact .cons ⟨rfl, ha (k, a) (by rw [List.zip_cons_cons]; exact List.mem_cons_self), r⟩ (kt_zip (by simpa using h) rr fun x hx => ha x (by rw [List.zip_cons_cons]; exact List.mem_cons_of_mem _ hx))
section
variable {X : Cx} {F0 : FZ} {e e2 : Expr} {ta : TA} {ta' : DTA} {p p2 pos pos2 : Pos}
theorem pe_dictZ (hu : X.A.units + 64 < cLine) (hd : X.mg "dict" = none) (hz : X.mg "zip" = none) (ha : PA X [e, e2] ta) (gd : Gl X "dict" := by rfl) (gz : Gl X "zip" := by rfl) (hc : X.calm = true := by rfl)
    (hs : starEach [e, e2] X.env = (false, eval e X.env) :: starEach [e2] X.env := by rfl) (hpl : (backTo pos2 (starEach [e2] X.env)).any (·.1) = false := by rfl)
    (na : starEach [.Call (.Name "zip" p2) [e, e2] [] pos2] X.env = (false, eval (.Call (.Name "zip" p2) [e, e2] [] pos2) X.env) :: starEach [] X.env := by rfl) :
    PE X (.Call (.Name "dict" p) [.Call (.Name "zip" p2) [e, e2] [] pos2] [] pos) (tDictZ X.K ta) := by
  refine ⟨fun pins s σ H Q I h => Call_ (ld_blt I gd hd PyProof.Rows.boot_dict (PyProof.Rows.callWith_type1 (PyProof.Rows.args_cons (Call_ (ld_blt I gz hz PyProof.Rows.boot_zip (PyProof.Rows.callWith_type1 (thn (ha.run pos2 pins s σ H _ I h) fun us s1 ⟨vs, H1, I1, r1, q1⟩ => ?_) hs hpl))) na) na rfl))⟩
  obtain ⟨a, b, xs, ys, ks, rfl, ea, eb, lxy, lkx, hk, nd, kl, q1⟩ := q1
  cases r1 with
  | cons ra rr =>
    cases rr with
    | cons rb rr =>
      cases rr
      cases ra
      cases rb
      obtain ⟨ia, va, pa, za⟩ := I1.tuple ea
      obtain ⟨ib, vb, pb, _⟩ := I1.tuple eb
      obtain ⟨oa, ga, _⟩ := id pa
      obtain ⟨ob, gb, _⟩ := id pb
      have la : ia.length = xs.length := va.length.symm
      have lb : ib.length = ys.length := vb.length.symm
      refine RZ.call_zipT (show s1.heap.IsTuple a ia.toArray from pa) (show s1.heap.IsTuple b ib.toArray from pb) fun h' hz hTI hTO h1 h2 hsz kp => PyProof.Rows.args_nil ?_
      have I2 : Inv X pins σ H1 { s1 with heap := h' } := I1.kept (t' := s1.toks) kp
      obtain ⟨as, rfl, el, hka⟩ := keyed_as va lkx hk
      have lm : (as.map Value.ref).length = as.length := List.length_map _
      have ll : ib.length = as.length := by omega
      have key1 : ∀ x ∈ ks.zip (as.zip ib), (tupleKind (mixKind X.prog X.w)).is s1.heap x.1 x.2.1 := fun x hx => by
        obtain ⟨i, hi⟩ := List.mem_iff_getElem?.mp hx
        obtain ⟨h1, h2⟩ := List.getElem?_zip_eq_some.mp hi
        obtain ⟨h3, h4⟩ := List.getElem?_zip_eq_some.mp h2
        exact key_of I1.hok (hka (x.1, x.2.1) (List.mem_of_getElem? (List.getElem?_zip_eq_some.mpr ⟨h1, h3⟩)))
      have low : ∀ {c o}, s1.heap.get? c = some o → c ∉ [s1.heap.objs.size + 4, s1.heap.objs.size + 3, s1.heap.objs.size, s1.heap.objs.size + 1] := fun {c o} g hm => by
        have lt := Heap.lt_size g
        have or : c = s1.heap.objs.size + 4 ∨ c = s1.heap.objs.size + 3 ∨ c = s1.heap.objs.size ∨ c = s1.heap.objs.size + 1 := by simpa using hm
        rcases or with z | z | z | z <;> rw [z] at lt
        · exact absurd lt (Nat.not_lt.mpr (Nat.le_add_right _ _))
        · exact absurd lt (Nat.not_lt.mpr (Nat.le_add_right _ _))
        · exact absurd lt (Nat.lt_irrefl _)
        · exact absurd lt (Nat.not_lt.mpr (Nat.le_add_right _ _))
      refine call_dict_pairsH (knd := tupleKind (mixKind X.prog X.w)) (ps := ks.zip (as.zip ib)) (zt_arg _ _ _ _ _ _ _ (PySem.W.ktu_apart s1.heap.objs.size a b (Heap.lt_size ga) (Heap.lt_size gb)) (as.map Value.ref).toArray ib.toArray (by simp [ll])) (I1.ok.hd hc) (show X.A.units + 1 + 1 < cLine from by omega) ⟨hz, hTI, ⟨_, _, hTO⟩, h1, h2, (show s1.heap.IsTuple a _ from pa).at fun o g => kp _ o g, (show s1.heap.IsTuple b _ from pb).at fun o g => kp _ o g⟩ ⟨?_, fun i u v ⟨g1, g2⟩ => ?_⟩ (fun h2 fr x hx => ?_) ?_ fun h2 tk dd fr => ?_
      · rw [List.length_zip, List.length_zip, List.size_toArray]; omega
      · simp only [List.getElem?_toArray, List.getElem?_map, Option.map_eq_some_iff] at g1 g2
        obtain ⟨c, g1, rfl⟩ := g1
        obtain ⟨k, g3⟩ : ∃ k, ks[i]? = some k := ⟨_, List.getElem?_eq_getElem (by have := (List.getElem?_eq_some_iff.mp g1).1; omega)⟩
        exact ⟨k, c, List.getElem?_zip_eq_some.mpr ⟨g3, List.getElem?_zip_eq_some.mpr ⟨g1, g2⟩⟩, rfl⟩
      · obtain ⟨q, its, n, k1, k2, k3, k4⟩ := key1 x hx
        refine ⟨q, its, n, fr _ _ (fun z => ?_) (low k1) (kp _ _ k1), k2, k3, k4⟩
        have t1 := Heap.lt_size k1
        rw [z] at t1
        exact absurd t1 (Nat.not_lt.mpr (show s1.heap.objs.size ≤ h'.objs.size by omega))
      · simp only [List.size_toArray, List.length_map]
        have := za
        omega
      · have e0 : (Shared.heap { s1 with heap := h' }).objs.size = s1.heap.objs.size + 5 := hsz
        have ekeys : ((ks.zip (as.zip ib)).map (·.1)) = ks := by
          rw [List.map_fst_zip (by rw [List.length_zip]; omega)]
        rw [storedAllH_nil_of_nodup _ (by rw [ekeys]; exact nd)] at dd
        have hn : H1 (s1.heap.objs.size + 5) = none := I1.hok.fresh (by omega)
        have kp2 : ∀ b q, s1.heap.get? b = some q → h2.get? b = some q := fun b q g => fr _ _ (low g) (kp _ _ g)
        rw [e0] at dd ⊢
        refine ⟨.ref (s1.heap.objs.size + 5), _, I1.laid (a := s1.heap.objs.size + 5) (o := .dT (ks.zip ys)) (t' := tk) kp2 (by omega) ?_, rfl, q1 _ hn⟩
        obtain ⟨o, es, ep, d1, d2, d3, d4, d5, d6⟩ := dd
        refine ⟨?_, beq_eq_false_iff_ne.mpr (Nat.ne_of_gt (Nat.lt_of_lt_of_le I1.big (Nat.le_add_right _ _))), _, Paired.mapP (kt_zip el vb hka) fun p q ⟨x1, x2, x3⟩ => ⟨x1, ?_, x3⟩, o, es, ep, d1, d2, d3, d4, d6⟩
        · rw [List.length_zip]
          have := za
          omega
        · rw [upd_ne fun z => ?_]
          · exact x2
          · rw [z, hn] at x2; cases x2
end
/-- the keys that flat tuples are -/
def keysL : List D → Option (List (List Key))
  | [] => some []
  | .tup k :: r => match keysOf k, keysL r with
    | some a, some b => some (a :: b)
    | _, _ => none
  | _ => none
theorem keysL_len : ∀ {l : List D} {ks : List (List Key)}, keysL l = some ks → ks.length = l.length
  | [], _, h => by cases h; rfl
  | .tup k :: r, ks, h => by
    unfold keysL at h
    split at h
    · rename_i a b h1 h2
      cases h
      rw [List.length_cons, List.length_cons, keysL_len h2]
    · cases h
theorem keysL_rp {K : PySem.W.Frag} {F : FZ} {M : Mp} {H : Hp} (s : SR K F M H) : ∀ {l : List D} {xs : List V} {ks : List (List Key)}, RpL K F l xs → keysL l = some ks → (∀ (i : Nat) (v : V) (k : List Key), xs[i]? = some v → ks[i]? = some k → ∃ t : Addr, v = .ref t ∧ H t = some (.tup (k.map kV))) ∧ ∀ k ∈ ks, k.length ≤ sizeLine
  | [], _, _, .nil, h => by
    cases h
    exact ⟨fun i v k h => by simp at h, fun k h => by cases h⟩
  | .tup d :: r, _, ks, .cons (v := v) rv rr, h => by
    unfold keysL at h
    split at h
    · rename_i a b h1 h2
      cases h
      obtain ⟨t1, t2⟩ := keysL_rp s rr h2
      cases rv with
      | @tup q ys _ fa rl =>
        have e := keysOf_rp rl h1
        subst e
        refine ⟨fun i w k g1 g2 => ?_, fun k hk => ?_⟩
        · cases i with
          | zero => cases g1; cases g2; exact ⟨q, rfl, s.fz _ _ fa⟩
          | succ i => exact t1 i w k g1 g2
        · rcases List.mem_cons.mp hk with z | z
          · have := s.lenT fa
            rw [z]; rwa [List.length_map] at this
          · exact t2 k z
    · cases h
def tupOf : D → Option (List D)
  | .tup l => some l
  | .kt l => some l
  | _ => none
theorem tupOf_rp {K : PySem.W.Frag} {F : FZ} {M : Mp} {H : Hp} (s : SR K F M H) {x : D} {v : V} {l : List D} (r : Rp K F x v) (h : tupOf x = some l) : ∃ a xs, v = .ref a ∧ SqT K H a xs ∧ RpL K F l xs := by
  cases r with
  | tup fa rl => cases h; exact ⟨_, _, rfl, SqT.of (s.fz _ _ fa), rl⟩
  | kt fa rl => cases h; exact ⟨_, _, rfl, s.sqK fa, rl⟩
  | _ => cases h
def dDictZ (t : DTA) : DTE := fun γ M Q => t γ M fun ds M1 => ∃ (x : D) (l ys : List D) (ks : List (List Key)), ds = [x, .tup ys] ∧ tupOf x = some l ∧ l.length = ys.length ∧ keysL l = some ks ∧ ks.Nodup ∧ ∀ d, M1 d = none → Q (.ref d) (mset M1 d (.dT (ks.zip ys)))
theorem kvr_zipT {K : PySem.W.Frag} {F : FZ} {κ : Type} : ∀ {ks : List κ} {ys : List D} {vs : List V}, RpL K F ys vs → KVR K F (ks.zip ys) (ks.zip vs)
  | [], _, _, _ => by rw [List.zip_nil_left, List.zip_nil_left]; exact .nil
  | k :: ks, _, _, .nil => by rw [List.zip_nil_right, List.zip_nil_right]; exact .nil
  | k :: ks, _, _, .cons r rr => by
    rw [List.zip_cons_cons, List.zip_cons_cons]
    exact .cons ⟨rfl, r⟩ (kvr_zipT rr)
section
variable {X : Cx} {F0 : FZ} {e e2 : Expr} {ta : TA} {ta' : DTA} {p p2 pos pos2 : Pos} {j : Nat}
theorem de_dictZ (hu : X.A.units + 64 < cLine) (hd : X.mg "dict" = none) (hz : X.mg "zip" = none) (ha : DA X F0 [e, e2] ta ta') (gd : Gl X "dict" := by rfl) (gz : Gl X "zip" := by rfl) (hc : X.calm = true := by rfl)
    (hs : starEach [e, e2] X.env = (false, eval e X.env) :: starEach [e2] X.env := by rfl) (hpl : (backTo pos2 (starEach [e2] X.env)).any (·.1) = false := by rfl)
    (na : starEach [.Call (.Name "zip" p2) [e, e2] [] pos2] X.env = (false, eval (.Call (.Name "zip" p2) [e, e2] [] pos2) X.env) :: starEach [] X.env := by rfl) :
    DE X F0 (.Call (.Name "dict" p) [.Call (.Name "zip" p2) [e, e2] [] pos2] [] pos) (tDictZ X.K ta) (dDictZ ta') := ⟨pe_dictZ hu hd hz ha.pa gd gz hc hs hpl na, fun F γ M σ H Q' Q e0 s g q k => by
  refine ha.le F γ M σ H _ _ e0 s g q fun F1 ds vs M1 H1 e1 s1 r1 q1 => ?_
  obtain ⟨x, l, ys, ks, rfl, hx, hl, hk, nd, q1⟩ := q1
  cases r1 with
  | cons ra rr =>
    cases rr with
    | cons rb rr =>
      cases rr
      obtain ⟨a, xs, rfl, qa, rl⟩ := tupOf_rp s1 ra hx
      cases rb with
      | @tup b us _ fb rm =>
        obtain ⟨h1, h2⟩ := keysL_rp s1 rl hk
        have kl := keysL_len hk
        have rl' := rl.length
        have rm' := rm.length
        refine ⟨a, b, xs, us, ks, rfl, qa, SqT.of (s1.fz _ _ fb), by omega, by omega, h1, nd, h2, fun d hd => ?_⟩
        have zl : us.length ≤ sizeLine := s1.lenT fb
        exact k F1 _ _ _ _ e1 (s1.putN hd (.dT (kvr_zipT rm) (by rw [List.length_zip]; omega) fun p hp => h2 _ (List.of_mem_zip (a := p.1) (b := p.2) hp).1)) (.ref d) (q1 d (s1.freeM hd))⟩
end
end DL

set_option maxRecDepth 100000
set_option maxHeartbeats 4000000
namespace DL
open PySem PySem.Spec PyProof.Rows L2
/-! ### zip of a tuple and a list -/
section
variable {prog : Program} {w : World} {A : Around} {E : Value → Shared → Prop} {s : Shared}
/-- a turn of zip whose sides are a tuple and a list -/
theorem mz_next {z ti tu p q a b : Addr} {c0 e0 : Value} {k : Nat} {xs ys : Array Value} {Q : Option Value → Shared → Prop} (nh : A.handled = none) (ap : ZipApart z ti tu p q a b)
    (zz : IsZip s.heap z ti tu .none) (pp : IsPair s.heap ti (.ref p) (.ref q)) (oo : IsPair s.heap tu c0 e0) (ip : s.heap.IsTupleIter p a k) (iq : s.heap.IsListIter q b k) (ta : s.heap.IsTuple a xs) (tb : s.heap.IsList b ys) (len : xs.size = ys.size)
    (yes : ∀ (x y : Value) (h' : Heap), xs[k]? = some x → ys[k]? = some y → IsZip h' z ti tu (rawInt s.heap.objs.size) → IsPair h' tu x y → h'.IsTupleIter p a (k + 1) → h'.IsListIter q b (k + 1) → IsPair h' s.heap.objs.size x y → h'.objs.size = s.heap.objs.size + 1 →
      (∀ c o, c ≠ z → c ≠ tu → c ≠ p → c ≠ q → s.heap.get? c = some o → h'.get? c = some o) → Q (some (.ref s.heap.objs.size)) { s with heap := h' })
    (no : xs[k]? = none → ∀ h' : Heap, (∀ c o, c ≠ z → c ≠ tu → c ≠ p → c ≠ q → s.heap.get? c = some o → h'.get? c = some o) → Q none { s with heap := h' }) :
    wpAny (model prog w) A (pyNext (Value.ref z)) Q E s := by
  have ty : s.TypeIs (.ref z) "zip" := ⟨_, zz, rfl⟩
  unfold pyNext
  refine wpAny_bind (wpAny_attempt (wpAny_callSpecial?_slot (name := Str.ofString "__next__") ty F.slot_zip_next (wpAny_call_entry F.slot_zip_next ty F.entry_zip_next ?_ (F.args_zip_next_1 _))))
  show wpAny _ A.in1 (field (Value.ref z) 2 >>= _) _ _ s
  apply wpAny_bind
  refine wpAny_field zz rfl (x := .bool false) rfl ?_
  show wpAny _ A.in1 (field (Value.ref z) 3 >>= _) _ _ s
  apply wpAny_bind
  refine wpAny_field zz rfl (x := .ref ti) rfl ?_
  apply wpAny_bind
  refine wpAny_seqItems pp rfl ?_
  show wpAny _ A.in1 (Builtin.SmallTypes.ownedTupleIsFree (Value.ref z) >>= _) _ _ s
  apply wpAny_bind
  unfold Builtin.SmallTypes.ownedTupleIsFree
  apply wpAny_bind
  refine wpAny_field zz rfl (x := Value.none) rfl ?_
  apply wpAny_pure
  simp only [if_true]
  apply wpAny_bind
  apply wpAny_rule
  apply wpAny_bind
  refine wpAny_field zz rfl (x := .ref tu) rfl ?_
  apply wpAny_bind
  refine wpAny_setField_rec zz (by simp) fun g1 z1 b1 => ?_
  replace z1 : IsZip g1 z ti tu .ellipsis := z1
  apply wpAny_bind
  simp only [List.forIn_cons, List.zipIdx_cons, List.forIn_nil, List.zipIdx_nil]
  apply wpAny_bind
  apply wpAny_bind
  apply wpAny_onRaise
  show wpAny _ _ (Builtin.SmallTypes.nextOf (Value.ref p) >>= _) _ _ _
  apply wpAny_bind
  have ip1 := ip.extBut b1.extBut ap.i1z
  have ta1 := ta.extBut b1.extBut ap.l1z
  cases ex : xs[k]? with
  | none =>
    refine RZ.nextOf_tuple_end nh ip1 ta1 ex fun g2 e b2 hE => ?_
    obtain ⟨oe, he, hc⟩ := hE
    have z2 : IsZip g2 z ti tu .ellipsis := b2 _ _ ap.i1z.symm z1
    have ne : e ≠ z := fun r => by rw [r, z2] at he; cases he; simp at hc
    refine wpAny_setField_rec z2 (by simp) fun g3 _ b3 => ?_
    refine wpAny_bind (wpAny_isInstance (T := "StopIteration") (b := true) ⟨oe, b3.extBut _ _ ne he, hc⟩ isSubtype_stop ?_)
    exact wpAny_pure (no ex _ fun c o c1 c2 c3 c4 g => b3.extBut _ _ c1 (b2 _ _ c3 (b1.extBut _ _ c1 g)))
  | some x =>
    obtain ⟨y, ey⟩ : ∃ y, ys[k]? = some y := ⟨_, Array.getElem?_eq_getElem (by have := (Array.getElem?_eq_some_iff.mp ex).1; omega)⟩
    refine RZ.nextOf_tuple_item ip1 ta1 ex fun g2 ip2 b2 => ?_
    apply wpAny_pure
    have oo2 : IsPair g2 tu c0 e0 := b2.extBut _ _ ap.TOi1 (b1.extBut _ _ ap.TOz oo)
    apply wpAny_bind
    refine wpAny_seqItems oo2 rfl ?_
    apply wpAny_bind
    refine wpAny_updateSeq_pair oo2 fun g3 oo3 b3 => ?_
    replace oo3 : IsPair g3 tu x e0 := oo3
    apply wpAny_bind
    refine wpAny_letGo (wpAny_pure ?_)
    apply wpAny_bind
    apply wpAny_bind
    apply wpAny_onRaise
    show wpAny _ _ (Builtin.SmallTypes.nextOf (Value.ref q) >>= _) _ _ _
    apply wpAny_bind
    refine wpAny_nextOf_list_item (((iq.extBut b1.extBut ap.i2z).extBut b2.extBut ap.i12.symm).extBut b3.extBut ap.TOi2.symm) (((tb.extBut b1.extBut ap.l2z).extBut b2.extBut ap.l2i1).extBut b3.extBut ap.l2TO) ey fun g4 iq4 b4 => ?_
    apply wpAny_pure
    have oo4 : IsPair g4 tu x e0 := b4.extBut _ _ ap.TOi2 oo3
    apply wpAny_bind
    refine wpAny_seqItems oo4 rfl ?_
    apply wpAny_bind
    refine wpAny_updateSeq_pair oo4 fun g5 oo5 b5 => ?_
    replace oo5 : IsPair g5 tu x y := oo5
    apply wpAny_bind
    refine wpAny_letGo (wpAny_pure (wpAny_pure ?_))
    apply wpAny_bind
    refine wpAny_seqItems oo5 rfl ?_
    apply wpAny_bind
    refine wpAny_newTuple ?_
    have sz : g5.objs.size = s.heap.objs.size := by rw [b5.1, b4.1, b3.1, b2.1, b1.1]
    have zz5 : IsZip g5 z ti tu .ellipsis := b5.extBut _ _ ap.TOz.symm (b4.extBut _ _ ap.i2z.symm (b3.extBut _ _ ap.TOz.symm (b2.extBut _ _ ap.i1z.symm z1)))
    have fr : ∀ c o, c ≠ z → c ≠ tu → c ≠ p → c ≠ q → s.heap.get? c = some o → g5.get? c = some o := fun c o c1 c2 c3 c4 g => b5.extBut _ _ c2 (b4.extBut _ _ c4 (b3.extBut _ _ c2 (b2.extBut _ _ c3 (b1.extBut _ _ c1 g))))
    have ip5 : g5.IsTupleIter p a (k + 1) := ((ip2.extBut b3.extBut ap.TOi1.symm).extBut b4.extBut ap.i12).extBut b5.extBut ap.TOi1.symm
    have iq5 : g5.IsListIter q b (k + 1) := iq4.extBut b5.extBut ap.TOi2.symm
    have zl : z < g5.objs.size := Heap.lt_size zz5
    show wpAny _ _ (Builtin.SmallTypes.ownedTupleHandOut (Value.ref z) (Value.ref g5.objs.size) >>= _) _ _ _
    apply wpAny_bind
    unfold Builtin.SmallTypes.ownedTupleHandOut
    have zz6 : IsZip (g5.push { cls := .type "tuple", data := .seq #[x, y] }) z ti tu .ellipsis := Heap.get?_push_of_some _ zz5
    apply wpAny_bind
    refine wpAny_setField_rec zz6 (by simp) fun g7 z7 b7 => ?_
    replace z7 : IsZip g7 z ti tu (rawInt g5.objs.size) := z7
    refine wpAny_setField_rec z7 (by simp) fun g8 z8 b8 => ?_
    replace z8 : IsZip g8 z ti tu (rawInt g5.objs.size) := z8
    have up : ∀ c o, c ≠ z → g5.get? c = some o → g8.get? c = some o := fun c o c1 g => b8.extBut _ _ c1 (b7.extBut _ _ c1 (Heap.get?_push_of_some _ g))
    have pr : IsPair g8 g5.objs.size x y := b8.extBut _ _ (Nat.ne_of_gt zl) (b7.extBut _ _ (Nat.ne_of_gt zl) (Heap.get?_push_size _ rfl))
    have sz8 : g8.objs.size = g5.objs.size + 1 := by rw [b8.1, b7.1, Heap.size_push]
    rw [sz] at z8 pr sz8
    refine wpAny_pure ⟨_, rfl, wpAny_pure ?_⟩
    rw [sz]
    exact yes x y g8 ex ey z8 (up _ _ ap.TOz oo5) (ip5.at fun o g => up _ o ap.i1z g) (iq5.at fun o g => up _ o ap.i2z g) pr sz8 fun c o c1 c2 c3 c4 g => up c o c1 (fr c o c1 c2 c3 c4 g)
end
/-- the heaps behind each piece of zip(t, l) -/
abbrev mzA (g : Heap) (a : Addr) : Heap := g.push { cls := .type "tuple_iterator", data := .fields #[.ref a, .int 0 0] }
abbrev mzB (g : Heap) (a b : Addr) : Heap := (mzA g a).push { cls := .type "list_iterator", data := .fields #[.ref b, .int 0 0] }
abbrev mzC (g : Heap) (a b : Addr) : Heap := (mzB g a b).push { cls := .type "tuple", data := .seq #[.ref g.objs.size, .ref (mzA g a).objs.size] }
abbrev mzD (g : Heap) (a b : Addr) : Heap := (mzC g a b).push { cls := .type "tuple", data := .seq #[Value.none, Value.none] }
abbrev mzE (g : Heap) (a b : Addr) : Heap := (mzD g a b).push { cls := .type "zip", data := .fields #[Value.none, .bool false, .bool false, .ref (mzB g a b).objs.size, .ref (mzC g a b).objs.size] }
theorem mz_new (a b : Addr) (xs ys : Array Value) :
    Meets (Builtin.«zip.__new__» ⟨[.type "zip", .ref a, .ref b], []⟩) (fun _ R s => s.heap.IsTuple a xs ∧ s.heap.IsList b ys ∧ R (.ok (.ret (.ref (mzD s.heap a b).objs.size))) { s with heap := (mzE s.heap a b) }) :=
  .of_wp fun P w A R s hyp => by
    obtain ⟨hp, g, d, tk, os⟩ := s
    obtain ⟨ta, tb, hyp⟩ := hyp
    have hsub := sub_zip
    have one : Heap.IsTuple (Shared.heap ⟨hp, g, d, tk, os⟩) a xs := ta
    have two : Heap.IsList (Shared.heap ⟨hp.push { cls := .type "tuple_iterator", data := .fields #[.ref a, .int 0 0] }, g, d, tk, os⟩) b ys := Heap.IsList.push tb _
    wp_walk using wpAny_pyIter_tuple one, wpAny_pyIter_list two
    exact ⟨_, rfl, hyp⟩
section
variable {prog : Program} {w : World} {A : Around} {E : Value → Shared → Prop} {s : Shared}
theorem call_mz {a b : Addr} {xs ys : Array Value} {Q : Value → Shared → Prop} (ta : s.heap.IsTuple a xs) (tb : s.heap.IsList b ys)
    (k : ∀ h', IsZip h' (s.heap.objs.size + 4) (s.heap.objs.size + 2) (s.heap.objs.size + 3) .none → IsPair h' (s.heap.objs.size + 2) (.ref s.heap.objs.size) (.ref (s.heap.objs.size + 1)) → IsPair h' (s.heap.objs.size + 3) .none .none →
      h'.IsTupleIter s.heap.objs.size a 0 → h'.IsListIter (s.heap.objs.size + 1) b 0 → (∀ c o, s.heap.get? c = some o → h'.get? c = some o) → Q (.ref (s.heap.objs.size + 4)) { s with heap := h' }) :
    wpAny (model prog w) A (call (.type "zip") [.ref a, .ref b]) Q E s := by
  refine callType_new F.called_zip (by decide) (F.typeCall_zip_2 _ _) (F.newCall_zip_2 _ _) (fun o => F.args_object_init_3 o _ _) F.entry_zip_new (mz_new a b xs ys) ⟨ta, tb, ?_⟩
  have n1 : (mzA s.heap a).objs.size = s.heap.objs.size + 1 := Heap.size_push ..
  have n2 : (mzB s.heap a b).objs.size = s.heap.objs.size + 2 := (Heap.size_push ..).trans (by rw [n1])
  have n3 : (mzC s.heap a b).objs.size = s.heap.objs.size + 3 := (Heap.size_push ..).trans (by rw [n2])
  have n4 : (mzD s.heap a b).objs.size = s.heap.objs.size + 4 := (Heap.size_push ..).trans (by rw [n3])
  have u1 : ∀ c o, s.heap.get? c = some o → (mzA s.heap a).get? c = some o := fun c o g => Heap.get?_push_of_some _ g
  have u2 : ∀ c o, (mzA s.heap a).get? c = some o → (mzB s.heap a b).get? c = some o := fun c o g => Heap.get?_push_of_some _ g
  have u3 : ∀ c o, (mzB s.heap a b).get? c = some o → (mzC s.heap a b).get? c = some o := fun c o g => Heap.get?_push_of_some _ g
  have u4 : ∀ c o, (mzC s.heap a b).get? c = some o → (mzD s.heap a b).get? c = some o := fun c o g => Heap.get?_push_of_some _ g
  have u5 : ∀ c o, (mzD s.heap a b).get? c = some o → (mzE s.heap a b).get? c = some o := fun c o g => Heap.get?_push_of_some _ g
  have p1 : (mzE s.heap a b).get? s.heap.objs.size = some _ := u5 _ _ (u4 _ _ (u3 _ _ (u2 _ _ (Heap.get?_push_size _ rfl))))
  have p2 : (mzE s.heap a b).get? (mzA s.heap a).objs.size = some _ := u5 _ _ (u4 _ _ (u3 _ _ (Heap.get?_push_size _ rfl)))
  have p3 : (mzE s.heap a b).get? (mzB s.heap a b).objs.size = some _ := u5 _ _ (u4 _ _ (Heap.get?_push_size _ rfl))
  have p4 : (mzE s.heap a b).get? (mzC s.heap a b).objs.size = some _ := u5 _ _ (Heap.get?_push_size _ rfl)
  have p5 : (mzE s.heap a b).get? (mzD s.heap a b).objs.size = some _ := Heap.get?_push_size _ rfl
  show _ ∧ _
  rw [n2, n3, n4] at p5
  rw [n1, n2] at p3
  rw [n3] at p4
  rw [n1] at p2
  rw [n4]
  exact ⟨⟨_, p5, rfl⟩, k _ p5 p3 p4 ⟨_, p1, rfl, rfl⟩ ⟨_, p2, rfl, rfl⟩ fun c o g => u5 _ _ (u4 _ _ (u3 _ _ (u2 _ _ (u1 _ _ g))))⟩
end
/-- the tuple at a and the list at b as they stand at each turn, in new pairs -/
def ItM (K : PySem.W.Frag) (a b : Addr) : It where
  go := fun i H => ∃ (xs ys : List V) (x y : V), SqT K H a xs ∧ SqL K H b ys ∧ xs.length = ys.length ∧ xs[i]? = some x ∧ ys[i]? = some y
  yld := fun i H v H' => ∃ t x y, v = .ref t ∧ H t = none ∧ H' = upd H t (.tup [x, y]) ∧ (∀ xs, SqT K H a xs → xs[i]? = some x) ∧ ∀ ys, SqL K H b ys → ys[i]? = some y
  stop := fun i H => ∃ xs ys : List V, SqT K H a xs ∧ SqL K H b ys ∧ xs.length = ys.length ∧ xs.length ≤ i
theorem turn_mz {P : Program} {w : World} {K : PySem.W.Frag} {elts : List Expr} {kk : Nat} {tpos : Pos} {a b z ti tu p q : Addr} (ap : ZipApart z ti tu p q a b) :
    Turn P w K (.Tuple elts kk tpos) (ItM K a b) [z, ti, tu, p, q] z (fun i g => IsZip g z ti tu .none ∧ IsPair g ti (.ref p) (.ref q) ∧ (∃ c e, IsPair g tu c e) ∧ g.IsTupleIter p a i ∧ g.IsListIter q b i) where
  mem := List.mem_cons_self
  obj := fun i g ⟨o1, o2, ⟨c, e, o3⟩, ⟨v4, o4, _, d4⟩, ⟨v5, o5, _, d5⟩⟩ x hx => by
    have : x = z ∨ x = ti ∨ x = tu ∨ x = p ∨ x = q := by simpa using hx
    rcases this with r | r | r | r | r <;> rw [r]
    · exact ⟨_, o1, fun v e => nomatch e⟩
    · exact ⟨_, o2, fun v e => nomatch e⟩
    · exact ⟨_, o3, fun v e => nomatch e⟩
    · exact ⟨_, o4, fun v e => by rw [d4] at e; cases e⟩
    · exact ⟨_, o5, fun v e => by rw [d5] at e; cases e⟩
  keep := fun i g g' ⟨o1, o2, ⟨c, e, o3⟩, o4, o5⟩ kp => ⟨kp _ (by simp) _ o1, kp _ (by simp) _ o2, ⟨c, e, kp _ (by simp) _ o3⟩, o4.at fun o => kp _ (by simp) o, o5.at fun o => kp _ (by simp) o⟩
  item := by
    intro X eP ew eK hc i pins s σ H E I hf ⟨o1, o2, ⟨c, e, o3⟩, o4, o5⟩ ⟨xs, ys, x, y, qa, qb, hl, hx, hy⟩
    subst eP ew eK
    obtain ⟨ia, va, pa, _⟩ := I.tuple qa
    obtain ⟨ib, vb, pb, _⟩ := I.list qb
    obtain ⟨u, hu, ru⟩ := va.get hx
    obtain ⟨u2, hu2, ru2⟩ := vb.get hy
    have zl : z < s.heap.objs.size := Heap.lt_size o1
    have l1 := va.length
    have l2 := vb.length
    refine mz_next (I.ok.hd hc) ap o1 o2 o3 o4 o5 pa pb.isList (by simp; omega) (fun x1 y1 h' e1 e2 z1 t1 i1 i2 pr sz fr => ?_) (fun e1 => by simp at e1; have := (List.getElem?_eq_some_iff.mp hu).1; omega)
    have ex : u = x1 := by
      have : ia.toArray[i]? = some u := by simpa using hu
      rw [this] at e1; exact Option.some.inj e1
    have ey : u2 = y1 := by
      have : ib.toArray[i]? = some u2 := by simpa using hu2
      rw [this] at e2; exact Option.some.inj e2
    subst ex ey
    refine ⟨_, rfl, wpAny_letOwnedTupleGo_zip (s := { s with heap := h' }) z1 fun h2 z2 sb => ?_⟩
    have tp : h2.get? s.heap.objs.size = some { cls := .type "tuple", data := .seq #[u, u2] } := (sb.2 _ (Nat.ne_of_gt zl)).trans pr
    have ok : ObjOk X.prog X.w (upd H s.heap.objs.size (.tup [x, y])) h2 s.heap.objs.size (.tup [x, y]) := ⟨(show 2 ≤ sizeLine by decide), [u, u2], .cons ru (.cons ru2 .nil), ⟨_, tp, rfl, _, rfl⟩⟩
    have I1 : Inv X pins σ (upd H s.heap.objs.size (.tup [x, y])) { s with heap := h2 } :=
      I.turnedNew (t' := s.toks) (ch := [z, ti, tu, p, q]) (fun c o hb g => (sb.2 c fun r => hb (by simp [r])).trans (fr c o (fun r => hb (by simp [r])) (fun r => hb (by simp [r])) (fun r => hb (by simp [r])) (fun r => hb (by simp [r])) g)) hf (Nat.le_refl _) ok
    refine ⟨.ref s.heap.objs.size, _, I1, rfl, ⟨_, x, y, rfl, I.hok.fresh (Nat.le_refl _), rfl, fun l h => by rw [I.tuple_inj h qa]; exact hx, fun l h => by rw [I.list_inj h qb]; exact hy⟩, ⟨z2, ?_, ⟨u, u2, ?_⟩, ?_, ?_⟩, fun c hm => ?_⟩
    · exact (sb.2 _ ap.TIz).trans (fr _ _ ap.TIz ap.TITO ap.TIi1 ap.TIi2 o2)
    · exact (sb.2 _ ap.TOz).trans t1
    · exact i1.at fun o g => (sb.2 _ ap.i1z).trans g
    · exact i2.at fun o g => (sb.2 _ ap.i2z).trans g
    · have lt : c < s.heap.objs.size := by
        have : c = z ∨ c = ti ∨ c = tu ∨ c = p ∨ c = q := by simpa using hm
        rcases this with r | r | r | r | r <;> rw [r]
        · exact zl
        · exact Heap.lt_size o2
        · exact Heap.lt_size o3
        · obtain ⟨_, g, _⟩ := o4; exact Heap.lt_size g
        · obtain ⟨_, g, _⟩ := o5; exact Heap.lt_size g
      rw [upd_ne (Nat.ne_of_lt lt)]
      exact (hf c hm).1
  done := by
    intro X eP ew eK hc i pins s σ H E I hf ⟨o1, o2, ⟨c, e, o3⟩, o4, o5⟩ ⟨xs, ys, qa, qb, hl, hi⟩
    subst eP ew eK
    obtain ⟨ia, va, pa, _⟩ := I.tuple qa
    obtain ⟨ib, vb, pb, _⟩ := I.list qb
    have l1 := va.length
    have l2 := vb.length
    refine mz_next (I.ok.hd hc) ap o1 o2 o3 o4 o5 pa pb.isList (by simp; omega) (fun x1 y1 h' e1 => by have := (Array.getElem?_eq_some_iff.mp e1).1; simp at this; omega) fun _ h' fr => ⟨rfl, I.turnedL (t' := s.toks) (ch := [z, ti, tu, p, q]) (fun c o hb g => fr c o (fun r => hb (by simp [r])) (fun r => hb (by simp [r])) (fun r => hb (by simp [r])) (fun r => hb (by simp [r])) g) hf⟩
  self := fun _ _ _ _ _ st k => wpAny_pyIter_zip st.1 k
def iZipM (K : PySem.W.Frag) (ta : TA) : TI := fun σ H R => ta σ H fun vs H1 => ∃ a b xs ys, vs = [.ref a, .ref b] ∧ SqT K H1 a xs ∧ SqL K H1 b ys ∧ R (ItM K a b) H1
section
variable {X : Cx} {e e2 : Expr} {ta : TA} {p pos tpos : Pos} {elts : List Expr} {kk : Nat}
theorem pi_zipM (hg : Gl X "zip") (hm : X.mg "zip" = none) (ha : PA X [e, e2] ta) (hs : starEach [e, e2] X.env = (false, eval e X.env) :: starEach [e2] X.env := by rfl) (hpl : (backTo pos (starEach [e2] X.env)).any (·.1) = false := by rfl) :
    PI X (.Tuple elts kk tpos) (.Call (.Name "zip" p) [e, e2] [] pos) (iZipM X.K ta) := by
  refine ⟨fun pins s σ H R I h => Call_ (ld_blt I hg hm PyProof.Rows.boot_zip (PyProof.Rows.callWith_type1 (thn (ha.run pos pins s σ H _ I h) fun us s1 ⟨vs, H1, I1, r1, q1⟩ => ?_) hs hpl))⟩
  obtain ⟨a, b, xs, ys, rfl, qa, qb, q⟩ := q1
  cases r1 with
  | cons ra rr =>
    cases rr with
    | cons rb rr =>
      cases rr
      cases ra
      cases rb
      have young : ∀ c, c ∈ [s1.heap.objs.size + 4, s1.heap.objs.size + 2, s1.heap.objs.size + 3, s1.heap.objs.size, s1.heap.objs.size + 1] → FpOk X pins H1 c := fun c hm => by
        have : c = s1.heap.objs.size + 4 ∨ c = s1.heap.objs.size + 2 ∨ c = s1.heap.objs.size + 3 ∨ c = s1.heap.objs.size ∨ c = s1.heap.objs.size + 1 := by simpa using hm
        have le : s1.heap.objs.size ≤ c := by
          rcases this with r | r | r | r | r <;> rw [r] <;> first | exact Nat.le_refl _ | exact Nat.le_add_right _ _
        exact I1.fpOk le (I1.hok.fresh le)
      obtain ⟨ia, va, pa, _⟩ := I1.tuple qa
      obtain ⟨ib, vb, pb, _⟩ := I1.list qb
      obtain ⟨oa, ga, _⟩ := id pa
      refine call_mz (show s1.heap.IsTuple a ia.toArray from pa) pb.isList fun h' z1 z2 z3 z4 z5 kp => wpAny_pyIter_zip z1 ?_
      exact ⟨s1.heap.objs.size + 4, _, _, _, H1, rfl, I1.kept (t' := s1.toks) kp, turn_mz (PySem.W.ktu_apart s1.heap.objs.size a b (Heap.lt_size ga) pb.lt), ⟨z1, z2, ⟨_, _, z3⟩, z4, z5⟩, young, q⟩
end
def jZipM (ta : DTA) : DTI := fun γ M R => ta γ M fun ds M1 => match ds with
  | [a, b] => (match seqOf a, seqOf b with
    | some (true, l), some (false, m) => l.length = m.length ∧ R (zipD l m) M1
    | _, _ => False)
  | _ => False
theorem walk_zipM {K : PySem.W.Frag} {a b : Addr} {xs ys : List V} (hl : xs.length = ys.length) : Walk (ItM K a b) xs.length (fun H => SqT K H a xs ∧ SqL K H b ys) (YPair (fun i => xs[i]?) (fun i => ys[i]?)) := by
  refine ⟨fun i _ hi q => ?_, fun _ q => ⟨xs, ys, q.1, q.2, hl, Nat.le_refl _⟩, fun i H v H' _ q y => ?_⟩
  · exact ⟨xs, ys, xs[i], ys[i], q.1, q.2, hl, by simp [hi], by simp [← hl, hi]⟩
  · obtain ⟨T, x, z, h1, h2, h3, h4, h5⟩ := y
    exact ⟨T, x, z, h1, h2, h3, h4 xs q.1, h5 ys q.2⟩
section
variable {X : Cx} {F0 : FZ} {e e2 : Expr} {ta : TA} {ta' : DTA} {p pos tpos : Pos} {elts : List Expr} {kk : Nat}
theorem di_zipM (hm : X.mg "zip" = none) (ha : DA X F0 [e, e2] ta ta') (hg : Gl X "zip" := by rfl)
    (hs : starEach [e, e2] X.env = (false, eval e X.env) :: starEach [e2] X.env := by rfl) (hpl : (backTo pos (starEach [e2] X.env)).any (·.1) = false := by rfl) :
    DI X F0 (.Tuple elts kk tpos) (.Call (.Name "zip" p) [e, e2] [] pos) (iZipM X.K ta) (jZipM ta') := ⟨pi_zipM hg hm ha.pa hs hpl, fun F γ M σ H R' R e0 s g q k => by
  refine ha.le F γ M σ H _ _ e0 s g q fun F1 ds vs M1 H1 e1 s1 r1 q1 => ?_
  split at q1
  · rename_i a b
    split at q1
    · rename_i l m h1 h2
      obtain ⟨hlm, q1⟩ := q1
      cases r1 with
      | cons r1 r2 =>
        cases r2 with
        | cons r2 r3 =>
          cases r3
          obtain ⟨p1, xs, rfl, a1, a2⟩ := seqOf_t r1 h1
          obtain ⟨p2, ys, rfl, b1, b2⟩ := seqOf_l r2 h2
          have hl := a2.length
          have hm := b2.length
          refine ⟨p1, p2, xs, ys, rfl, a1 _ s1.fz, s1.fz.seq b1, k F1 _ _ M1 H1 e1 s1 ?_ q1⟩
          refine jr_of (G := fun H => SqT X.K H p1 xs ∧ SqL X.K H p2 ys) (by rw [show (zipD l m).length = xs.length by rw [zipD_len]; omega]; exact walk_zipM (by omega)) (fun F1 M1 H1 e s => ⟨a1 _ (e.f.1.trans s.fz), s.fz.seq (e.f.1.seq b1)⟩) (fun i H hi q => ⟨xs, ys, q.1, q.2, by omega, by rw [zipD_len] at hi; omega⟩) fun i d F2 M2 H2 x H3 e s hd y => zip_new s (RpL.monoS e.f a2) (RpL.monoS e.f b2) hd y
    · exact q1.elim
  · exact q1.elim⟩
end
end DL

set_option maxRecDepth 100000
set_option maxHeartbeats 4000000
namespace DL
open PySem PySem.Spec PyProof.Rows L2
/-! ### sorted(t), t a tuple of ints -/
section
variable {prog : Program} {w : World} {A : Around} {E : Value → Shared → Prop} {s : Shared}
theorem collect_t {l : Addr} {vs : List Value} {Q : List Value → Shared → Prop} (tt : s.heap.IsTuple l vs.toArray) (sz : vs.length ≤ sizeLine)
    (k : Q vs { s with heap := (s.heap.push (seqObj "list" #[] 0)).update s.heap.objs.size (Obj.mapSeq (· ++ vs.toArray)) }) : wpAny (model prog w) A (collect (.ref l)) Q E s := by
  obtain ⟨o, g, gc, n, gd⟩ := id tt
  unfold collect
  apply wpAny_bind
  refine wpAny_runValue (codeAny_builtin entry_proto_collect' ?_)
  show wpAny _ _ (do again (.builtin "list.__iadd__" ⟨[← newList [], Value.ref l], []⟩)) _ _ s
  apply wpAny_bind
  refine wpAny_newList (wpAny_pure ⟨Code.quiet_builtin _ (by decide +kernel), codeAny_builtin entry_list_iadd' ?_⟩)
  show wpAny _ _ (Builtin.List.listExtendWith (Value.ref s.heap.objs.size) (Value.ref l) (Value.ref s.heap.objs.size)) _ _ { s with heap := s.heap.push (seqObj "list" #[] 0) }
  unfold Builtin.List.listExtendWith
  have g' : (s.heap.push (seqObj "list" #[] 0)).get? l = some o := Heap.get?_push_of_some _ g
  apply wpAny_bind
  refine wpAny_typeOf (T := "tuple") ⟨o, g', gc⟩ ?_
  have same : (Value.type "tuple" == Value.type "tuple") = true := rfl
  rw [if_pos (by rw [same]; simp)]
  apply wpAny_bind
  refine listItems_at g' gd ?_
  apply wpAny_bind
  refine listItems_at (xs := #[]) (n := 0) (Heap.get?_push_size _ rfl) rfl ?_
  rw [if_neg (by simp)]
  apply wpAny_bind
  refine listUpdate_at (xs := #[]) (n := 0) (Heap.get?_push_size _ rfl) rfl ?_ (Nat.zero_le _) (by show (#[] ++ vs.toArray).size ≤ sizeLine + 1; simp; omega)
  apply wpAny_pure
  show wpAny (model prog w) A (do
      let o ← load s.heap.objs.size
      match o.data with
      | .seq xs _ => pure xs.toList
      | _ => unsupported "internal:collect") Q E { s with heap := (s.heap.push (seqObj "list" #[] 0)).update s.heap.objs.size (Obj.mapSeq (· ++ vs.toArray)) }
  apply wpAny_bind
  refine wpAny_load (get?_update_seq (Heap.get?_push_size _ rfl) _) ?_
  show wpAny _ _ (pure ((#[] : Array Value) ++ vs.toArray).toList) Q E _
  have e : ((#[] : Array Value) ++ vs.toArray).toList = vs := by simp
  rw [e]
  exact wpAny_pure k
theorem sorted_t {l : Addr} {vs : List Value} {ns : List Int} {Q : Value → Shared → Prop} (tt : s.heap.IsTuple l vs.toArray) (hi : IntsAre vs ns) (few : vs.length < 64)
    (k : ∀ (out : Array Value) (ms : List Int), IntsAre out.toList ms → ms.Perm ns → ms.Pairwise (· ≤ ·) → Q (.ref (s.heap.objs.size + 1)) { s with heap := sortedAll s.heap vs out }) :
    wpAny (model prog w) A (call (.builtin "sorted") [.ref l]) Q E s := by
  have sl : vs.length ≤ sizeLine := by rw [sizeLine_eq]; omega
  refine Calls.call_function_entry kind_sorted plain_sorted entry_sorted (args_sorted1 _) ?_
  unfold Builtin.«sorted»
  refine wpAny_bind (m := checkCount "sorted" 1 1 _) (wpAny_pure ?_)
  apply wpAny_bind
  refine collect_t tt sl ?_
  apply wpAny_bind
  refine wpAny_newList ?_ sl
  have sz : ((s.heap.push (seqObj "list" #[] 0)).update s.heap.objs.size (Obj.mapSeq (· ++ vs.toArray))).objs.size = s.heap.objs.size + 1 := (Heap.size_update ..).trans (size_push' ..)
  have gl : (((s.heap.push (seqObj "list" #[] 0)).update s.heap.objs.size (Obj.mapSeq (· ++ vs.toArray))).push (seqObj "list" vs.toArray 0)).get? (s.heap.objs.size + 1) = some (seqObj "list" vs.toArray 0) := by
    have := Heap.get?_push_size ((s.heap.push (seqObj "list" #[] 0)).update s.heap.objs.size (Obj.mapSeq (· ++ vs.toArray))) (o := seqObj "list" vs.toArray 0) rfl
    rwa [sz] at this
  show wpAny _ _ _ _ _ { s with heap := ((s.heap.push (seqObj "list" #[] 0)).update s.heap.objs.size (Obj.mapSeq (· ++ vs.toArray))).push (seqObj "list" vs.toArray 0) }
  rw [sz]
  apply wpAny_bind
  apply wpAny_holding
  refine wpAny_call_entry slot_list_sort ⟨_, gl, rfl⟩ entry_list_sort (list_sort_tree gl hi few fun out ms a1 a2 a3 => ⟨_, rfl, ?_⟩) (args_list_sort _)
  exact wpAny_pure ⟨_, rfl, k out ms a1 a2 a3⟩
end
def rSortTI (K : PySem.W.Frag) : List V → Hp → VK → Prop := fun vs H Q => ∃ (a : Addr) (ns : List Int), vs = [V.ref a] ∧ SqT K H a (ns.map V.int) ∧ ns.length < 64 ∧
  ∀ (ms : List Int) (p : Addr), ms.Perm ns → ms.Pairwise (· ≤ ·) → H p = none → Q (.ref p) (upd H p (.lst (ms.map V.int)))
section
variable {X : Cx} {K : PySem.W.Frag} {F0 : FZ} {e : Expr} {pos : Pos}
theorem cr_sortTI : CallR X (.builtin "sorted") (rSortTI X.K) := by
  intro pins s σ H vs us Q I r h
  obtain ⟨a, ns, rfl, hs, few, q⟩ := h
  obtain ⟨its, rv, tl, hz⟩ := I.tuple hs
  rw [Vals.ref1 r]
  have hl := rv.length
  rw [List.length_map] at hl hz
  refine sorted_t (show s.heap.IsTuple a its.toArray from tl) rv.ints (by omega) fun out ms k1 k2 k3 => ?_
  obtain ⟨ep, g⟩ := PyProof.Rows.sortedAll_at s.heap its out
  have sl : (ms.map V.int).length ≤ sizeLine := by rw [List.length_map, k2.length_eq]; exact hz
  exact ⟨.ref _, upd H (s.heap.objs.size + 1) (.lst (ms.map V.int)), I.laid (t' := s.toks) (fun _ _ => PyProof.Rows.sortedAll_old) (Nat.le_succ _) ⟨sl, out.toList, ep, vals_of_ints k1, by simpa using g⟩, rfl, q _ _ k2 k3 (I.hok.fresh (Nat.le_succ _))⟩
def dSortTI : DRC := fun ds M Q => match ds with
  | [d] => ∃ ns : List Int, tupOf d = some (ns.map .int) ∧ ns.length < 64 ∧ ∀ ms : List Int, ms.Perm ns → ms.Pairwise (· ≤ ·) → Q (.lst (ms.map .int)) M
  | _ => False
theorem lc_sortTI : LC K F0 dSortTI (rSortTI K) := by
  intro F M H ds vs Q' Q e0 s r q k
  unfold dSortTI at q
  split at q
  · obtain ⟨ns, hd, few, q⟩ := q
    cases r with
    | cons r1 r2 =>
      cases r2
      obtain ⟨a, xs, rfl, qa, rl⟩ := tupOf_rp s r1 hd
      have e := RpL.int ns rl
      subst e
      refine ⟨a, ns, rfl, qa, few, fun ms p h1 h2 hp => ?_⟩
      have e2 := same_upd (o := .lst (ms.map V.int)) (s.freeF hp)
      exact k _ _ _ _ _ e2 (s.newF hp (by show (ms.map V.int).length ≤ sizeLine; rw [List.length_map, h1.length_eq, sizeLine_eq]; omega)) (.lst upd_same (RpL.ofInt ms)) (q ms h1 h2)
  · exact q.elim
theorem de_sortTI {t : TA} {t' : DTA} {p : Pos} (hm : X.mg "sorted" = none) (ha : DA X F0 [e] t t') (hg : Gl X "sorted" := by rfl) (he : starEach [e] X.env = (false, eval e X.env) :: starEach [] X.env := by rfl) : DE X F0 (.Call (.Name "sorted" p) [e] [] pos) (tCB (rSortTI X.K) t) (dCB dSortTI t') :=
  de_blt cr_sortTI lc_sortTI hm ha (by decide +kernel) hg (by decide) (by decide) he rfl
end
end DL

set_option maxRecDepth 100000
set_option maxHeartbeats 4000000
namespace DL
open PySem PySem.Spec PyProof.Rows L2
/-! ### enumerate(t), t a tuple, its object known or not -/
section
variable {X : Cx} {K : PySem.W.Frag} {F0 : FZ} {e : Expr} {p pos : Pos}
def jEnumU (ta : DTA) : DTI := fun γ M R => ta γ M fun ds M1 => ∃ x l, ds = [x] ∧ tupOf x = some l ∧ R (enumD l) M1
theorem di_enumU {ta : TA} {ta' : DTA} {tpos : Pos} {elts : List Expr} {kk : Nat} (hm : X.mg "enumerate" = none) (ha : DA X F0 [e] ta ta') (hg : Gl X "enumerate" := by rfl)
    (hs : starEach [e] X.env = [(false, eval e X.env)] := by rfl) : DI X F0 (.Tuple elts kk tpos) (.Call (.Name "enumerate" p) [e] [] pos) (iEnumT X.K ta) (jEnumU ta') := ⟨pi_enumT hg hm ha.pa hs, fun F γ M σ H R' R e0 s g q k => by
  refine ha.le F γ M σ H _ _ e0 s g q fun F1 ds vs M1 H1 e1 s1 r1 q1 => ?_
  obtain ⟨y, l, rfl, hy, q1⟩ := q1
  cases r1 with
  | cons r1 r2 =>
    cases r2
    cases r1 with
    | tup a b =>
      cases hy
      rename_i p1 xs
      have hl := b.length
      refine ⟨p1, xs, rfl, s1.sqT a, k F1 _ _ M1 H1 e1 s1 ?_ q1⟩
      refine jr_of (G := fun H => SqT X.K H p1 xs) (by rw [enumD_len, hl]; exact walk_enumT) (fun F1 M1 H1 e s => s.sqT (e.f.1 _ _ a)) (fun i H hi q => ⟨xs, q, by rw [enumD_len] at hi; omega⟩) fun i d F2 M2 H2 x H3 e s hd y => ?_
      obtain ⟨x1, hx, rfl⟩ := enumD_get hd
      obtain ⟨T, u, w, rfl, hT, rfl, h1, h2⟩ := y
      obtain ⟨w', b1, b2⟩ := (RpL.monoS e.f b).get hx
      simp only at h1 h2
      rw [h2] at b1; cases b1
      cases h1
      have e2 := same_upd (o := .tup [.int (i : Nat), w]) (s.freeF hT)
      exact ⟨_, e2, s.newF hT (show 2 ≤ sizeLine by decide), .tup upd_same (.cons (.int _) (.cons (b2.mono e2) .nil))⟩
    | kt a b =>
      cases hy
      rename_i p1 xs
      have hl := b.length
      refine ⟨p1, xs, rfl, s1.sqK a, k F1 _ _ M1 H1 e1 s1 ?_ q1⟩
      refine jr_of (G := fun H => SqT X.K H p1 xs) (by rw [enumD_len, hl]; exact walk_enumT) (fun F1 M1 H1 e s => s.sqK (a.mono e.f)) (fun i H hi q => ⟨xs, q, by rw [enumD_len] at hi; omega⟩) fun i d F2 M2 H2 x H3 e s hd y => ?_
      obtain ⟨x1, hx, rfl⟩ := enumD_get hd
      obtain ⟨T, u, w, rfl, hT, rfl, h1, h2⟩ := y
      obtain ⟨w', b1, b2⟩ := (RpL.monoS e.f b).get hx
      simp only at h1 h2
      rw [h2] at b1; cases b1
      cases h1
      have e2 := same_upd (o := .tup [.int (i : Nat), w]) (s.freeF hT)
      exact ⟨_, e2, s.newF hT (show 2 ≤ sizeLine by decide), .tup upd_same (.cons (.int _) (.cons (b2.mono e2) .nil))⟩
    | _ => cases hy⟩
end
end DL

set_option maxRecDepth 100000
set_option maxHeartbeats 4000000
namespace DL
open PySem PySem.Spec PyProof.Rows L2
/-! ### min(xs) of a list of data -/
section
variable {X : Cx}
end
section
variable {X : Cx} {K : PySem.W.Frag} {F0 : FZ} {e : Expr} {t : TA} {t' : DTA} {pos : Pos}
end
end DL

set_option maxRecDepth 100000
set_option maxHeartbeats 4000000
namespace DL
/-! ### the rounds of a function -/
section
variable {α : Type}
/-- a round of f: behind each element stands its image, behind the last one the first -/
structure Cyc (f : α → α) (r : List α) : Prop where
  ne : r ≠ []
  nd : r.Nodup
  st : ∀ (i : Nat) (x : α), r[i]? = some x → r[(i + 1) % r.length]? = some (f x)
/-- a walk from x to y, that has seen r -/
structure Wlk (f : α → α) (x : α) (r : List α) (y : α) : Prop where
  nd : r.Nodup
  hd : (r ++ [y])[0]? = some x
  st : ∀ (i : Nat) (a : α), r[i]? = some a → (r ++ [y])[i + 1]? = some (f a)
variable {f : α → α}
theorem Cyc.pos {r : List α} (h : Cyc f r) : 0 < r.length := List.length_pos_iff.mpr h.ne
theorem Wlk.nil (x : α) : Wlk f x [] x := ⟨List.nodup_nil, rfl, fun i a h => by simp at h⟩
theorem Wlk.step {x y : α} {r : List α} (h : Wlk f x r y) (hy : y ∉ r) : Wlk f x (r ++ [y]) (f y) := by
  refine ⟨List.nodup_append.mpr ⟨h.nd, by simp, fun a ha b hb => ?_⟩, ?_, fun i a hi => ?_⟩
  · rw [List.mem_singleton.mp hb]
    exact fun e => hy (e ▸ ha)
  · rw [List.getElem?_append_left (by simp)]; exact h.hd
  · by_cases e : i < r.length
    · rw [List.getElem?_append_left e] at hi
      rw [List.getElem?_append_left (by simp; omega)]
      exact h.st i a hi
    · have hl := (List.getElem?_eq_some_iff.mp hi).1
      have : i = r.length := by simp at hl; omega
      subst this
      simp at hi
      subst hi
      simp
theorem Wlk.last {x y : α} {r : List α} (h : Wlk f x r y) (hr : r ≠ []) : ∃ a, a ∈ r ∧ r[r.length - 1]? = some a ∧ y = f a := by
  have hp := List.length_pos_iff.mpr hr
  have h1 : r[r.length - 1]? = some r[r.length - 1] := List.getElem?_eq_getElem (by omega)
  have h2 := h.st _ _ h1
  rw [show r.length - 1 + 1 = r.length by omega, List.getElem?_append_right (Nat.le_refl _), Nat.sub_self] at h2
  exact ⟨_, List.mem_of_getElem? h1, h1, Option.some.inj h2⟩
theorem Wlk.head {x y : α} {r : List α} (h : Wlk f x r y) (hr : r ≠ []) : r[0]? = some x := by
  have hp := List.length_pos_iff.mpr hr
  have := h.hd
  rwa [List.getElem?_append_left hp] at this
theorem Wlk.close {x : α} {r : List α} (h : Wlk f x r x) (hr : r ≠ []) : Cyc f r := by
  have hp := List.length_pos_iff.mpr hr
  refine ⟨hr, h.nd, fun i a hi => ?_⟩
  have il := (List.getElem?_eq_some_iff.mp hi).1
  have h1 := h.st i a hi
  by_cases e : i + 1 < r.length
  · rw [Nat.mod_eq_of_lt e]
    rwa [List.getElem?_append_left e] at h1
  · have e2 : i + 1 = r.length := by omega
    rw [e2, Nat.mod_self, h.head hr]
    rw [e2, List.getElem?_append_right (Nat.le_refl _), Nat.sub_self] at h1
    exact h1
theorem Wlk.back {S : α → Prop} (inj : ∀ a b, S a → S b → f a = f b → a = b) {x y : α} {r : List α} (h : Wlk f x r y) (hS : ∀ a ∈ r, S a) (hy : y ∈ r) : y = x := by
  have hr : r ≠ [] := List.ne_nil_of_mem hy
  obtain ⟨a, am, al, ya⟩ := h.last hr
  obtain ⟨k, hk⟩ := List.mem_iff_getElem?.mp hy
  cases k with
  | zero =>
    rw [h.head hr] at hk
    exact (Option.some.inj hk).symm
  | succ k =>
    have kl := (List.getElem?_eq_some_iff.mp hk).1
    have h1 : r[k]? = some r[k] := List.getElem?_eq_getElem (by omega)
    have h2 := h.st k _ h1
    rw [List.getElem?_append_left kl, hk] at h2
    have h3 : r[k] = a := inj _ _ (hS _ (List.mem_of_getElem? h1)) (hS _ am) (by rw [← ya]; exact (Option.some.inj h2).symm)
    rw [h3, ← al] at h1
    have := (List.getElem?_inj (by omega) h.nd).mp h1
    omega
theorem Cyc.pred {r : List α} (h : Cyc f r) {y : α} (hy : y ∈ r) : ∃ a, a ∈ r ∧ y = f a := by
  have hp := h.pos
  obtain ⟨k, hk⟩ := List.mem_iff_getElem?.mp hy
  have kl := (List.getElem?_eq_some_iff.mp hk).1
  have ml : (k + (r.length - 1)) % r.length < r.length := Nat.mod_lt _ hp
  have h1 : r[(k + (r.length - 1)) % r.length]? = some r[(k + (r.length - 1)) % r.length] := List.getElem?_eq_getElem ml
  refine ⟨_, List.mem_of_getElem? h1, ?_⟩
  have h2 := h.st _ _ h1
  rw [Nat.mod_add_mod, show k + (r.length - 1) + 1 = k + r.length by omega, Nat.add_mod_right, Nat.mod_eq_of_lt kl, hk] at h2
  exact Option.some.inj h2
theorem Cyc.next {r : List α} (h : Cyc f r) {y : α} (hy : y ∈ r) : f y ∈ r := by
  obtain ⟨k, hk⟩ := List.mem_iff_getElem?.mp hy
  exact List.mem_of_getElem? (h.st k y hk)
theorem Cyc.go {r : List α} (h : Cyc f r) {P : α → Prop} {y : α} (hy : y ∈ r) (p0 : P y) (ps : ∀ a, a ∈ r → P a → P (f a)) : ∀ z ∈ r, P z := by
  have hp := h.pos
  obtain ⟨k, hk⟩ := List.mem_iff_getElem?.mp hy
  have kl := (List.getElem?_eq_some_iff.mp hk).1
  have key : ∀ (j : Nat) (a : α), r[(k + j) % r.length]? = some a → P a := fun j => by
    induction j with
    | zero =>
      intro a ha
      rw [Nat.add_zero, Nat.mod_eq_of_lt kl, hk] at ha
      exact Option.some.inj ha ▸ p0
    | succ j ih =>
      intro a ha
      have ml : (k + j) % r.length < r.length := Nat.mod_lt _ hp
      have h1 : r[(k + j) % r.length]? = some r[(k + j) % r.length] := List.getElem?_eq_getElem ml
      have h2 := h.st _ _ h1
      rw [Nat.mod_add_mod, show k + j + 1 = k + (j + 1) by omega, ha] at h2
      rw [Option.some.inj h2]
      exact ps _ (List.mem_of_getElem? h1) (ih _ h1)
  intro z hz
  obtain ⟨m, hm⟩ := List.mem_iff_getElem?.mp hz
  have ml := (List.getElem?_eq_some_iff.mp hm).1
  refine key (m + (r.length - k)) z ?_
  rw [show k + (m + (r.length - k)) = m + r.length by omega, Nat.add_mod_right, Nat.mod_eq_of_lt ml]
  exact hm
theorem Cyc.sub {r u : List α} (h : Cyc f r) (g : Cyc f u) {y : α} (hy : y ∈ r) (gy : y ∈ u) : ∀ z ∈ r, z ∈ u := h.go hy gy fun a _ ha => g.next ha
theorem Cyc.eq {r u : List α} (h : Cyc f r) (g : Cyc f u) (e : r[0]? = u[0]?) : r = u := by
  have hp := h.pos
  have gp := g.pos
  have key : ∀ i : Nat, i < r.length → i < u.length → r[i]? = u[i]? := fun i => by
    induction i with
    | zero => exact fun _ _ => e
    | succ i ih =>
      intro h1 h2
      have z := ih (by omega) (by omega)
      have a1 : r[i]? = some r[i] := List.getElem?_eq_getElem (by omega)
      have b1 := h.st _ _ a1
      have b2 := g.st _ _ (z ▸ a1)
      rw [Nat.mod_eq_of_lt h1] at b1
      rw [Nat.mod_eq_of_lt h2] at b2
      rw [b1, b2]
  have lem : ∀ {r u : List α}, Cyc f r → Cyc f u → r[0]? = u[0]? → (∀ i : Nat, i < r.length → i < u.length → r[i]? = u[i]?) → ¬ r.length < u.length := fun {r u} h g e key lt => by
    have hp := h.pos
    have a1 : r[r.length - 1]? = some r[r.length - 1] := List.getElem?_eq_getElem (by omega)
    have b1 := h.st _ _ a1
    have b2 := g.st _ _ ((key (r.length - 1) (by omega) (by omega)) ▸ a1)
    rw [show r.length - 1 + 1 = r.length by omega] at b1 b2
    rw [Nat.mod_self] at b1
    rw [Nat.mod_eq_of_lt lt] at b2
    have := (List.getElem?_inj (by omega) g.nd).mp ((e ▸ b1).trans b2.symm)
    omega
  have l1 := lem h g e key
  have l2 := lem g h e.symm fun i a b => (key i b a).symm
  refine List.ext_getElem? fun i => ?_
  by_cases hi : i < r.length
  · exact key i hi (by omega)
  · rw [List.getElem?_eq_none (by omega), List.getElem?_eq_none (by omega)]
theorem rot_get {r : List α} {k i : Nat} (hk : k ≤ r.length) (hi : i < r.length) : (r.drop k ++ r.take k)[i]? = r[(i + k) % r.length]? := by
  by_cases h : i < r.length - k
  · rw [List.getElem?_append_left (by rw [List.length_drop]; exact h), List.getElem?_drop, Nat.mod_eq_of_lt (by omega), Nat.add_comm]
  · rw [List.getElem?_append_right (by rw [List.length_drop]; omega), List.length_drop, List.getElem?_take, if_pos (by omega)]
    rw [show i + k = (i - (r.length - k)) + r.length by omega, Nat.add_mod_right, Nat.mod_eq_of_lt (by omega)]
theorem rot_perm (r : List α) (k : Nat) : (r.drop k ++ r.take k).Perm r := by
  have := (List.perm_append_comm (l₁ := r.drop k) (l₂ := r.take k))
  rwa [List.take_append_drop] at this
theorem Cyc.rot {r : List α} (h : Cyc f r) {k : Nat} (hk : k ≤ r.length) : Cyc f (r.drop k ++ r.take k) := by
  have hl : (r.drop k ++ r.take k).length = r.length := (rot_perm r k).length_eq
  have hp := h.pos
  refine ⟨fun e => ?_, (rot_perm r k).nodup_iff.mpr h.nd, fun i x hi => ?_⟩
  · rw [e] at hl; simp at hl; omega
  · have il := (List.getElem?_eq_some_iff.mp hi).1
    rw [hl] at il ⊢
    rw [rot_get hk il] at hi
    have h2 := h.st _ _ hi
    rw [rot_get hk (Nat.mod_lt _ hp), Nat.mod_add_mod, show i + 1 + k = i + k + 1 by omega]
    rwa [Nat.mod_add_mod] at h2
/-- rounds that together are S, each element once -/
structure Rnd (f : α → α) (S : α → Prop) (rows : List (List α)) : Prop where
  cyc : ∀ r ∈ rows, Cyc f r
  nd : rows.flatten.Nodup
  all : ∀ x, x ∈ rows.flatten ↔ S x
theorem flat_nd {rows : List (List α)} (h : ∀ r ∈ rows, r ≠ []) (nd : rows.flatten.Nodup) : rows.Nodup := by
  induction rows with
  | nil => exact List.nodup_nil
  | cons r rows ih =>
    rw [List.flatten_cons, List.nodup_append] at nd
    refine List.nodup_cons.mpr ⟨fun hm => ?_, ih (fun r hr => h r (List.mem_cons_of_mem _ hr)) nd.2.1⟩
    obtain ⟨x, hx⟩ := List.exists_mem_of_ne_nil r (h r List.mem_cons_self)
    exact nd.2.2 x hx x (List.mem_flatten.mpr ⟨r, hm, hx⟩) rfl
theorem Rnd.rows_nd {S : α → Prop} {rows : List (List α)} (h : Rnd f S rows) : rows.Nodup := flat_nd (fun r hr => (h.cyc r hr).ne) h.nd
theorem Rnd.one {S : α → Prop} {rows : List (List α)} (h : Rnd f S rows) {r u : List α} (hr : r ∈ rows) (hu : u ∈ rows) {x : α} (xr : x ∈ r) (xu : x ∈ u) : r = u := by
  have key : ∀ {rows : List (List α)}, rows.flatten.Nodup → r ∈ rows → u ∈ rows → r = u := fun {rows} nd => by
    induction rows with
    | nil => intro h; cases h
    | cons a rows ih =>
      intro h1 h2
      rw [List.flatten_cons, List.nodup_append] at nd
      rcases List.mem_cons.mp h1 with e1 | h1
      · rcases List.mem_cons.mp h2 with e2 | h2
        · rw [e1, e2]
        · exact absurd rfl (nd.2.2 x (e1 ▸ xr) x (List.mem_flatten.mpr ⟨u, h2, xu⟩))
      · rcases List.mem_cons.mp h2 with e2 | h2
        · exact absurd rfl (nd.2.2 x (e2 ▸ xu) x (List.mem_flatten.mpr ⟨r, h1, xr⟩))
        · exact ih nd.2.1 h1 h2
  exact key h.nd hr hu
/-- one more round -/
theorem cyc_more {S : α → Prop} {rows : List (List α)} {x : α} {r : List α} (cyc : ∀ r ∈ rows, Cyc f r) (inj : ∀ a b, S a → S b → f a = f b → a = b) (hS : ∀ a ∈ rows.flatten, S a) {y : α} (w : Wlk f x r y) (rS : ∀ a ∈ r, S a) (dis : ∀ a ∈ r, a ∉ rows.flatten) (hr : r ≠ []) : y ∉ rows.flatten := fun hy => by
  obtain ⟨u, hu, yu⟩ := List.mem_flatten.mp hy
  obtain ⟨b, bu, yb⟩ := (cyc u hu).pred yu
  obtain ⟨a, ar, _, ya⟩ := w.last hr
  have bm : b ∈ rows.flatten := List.mem_flatten.mpr ⟨u, hu, bu⟩
  have := inj a b (rS a ar) (hS b bm) (by rw [← ya, ← yb])
  exact dis a ar (this ▸ bm)
/-- begun with the least -/
def Beg (le : α → α → Prop) (r : List α) : Prop := ∀ x, r[0]? = some x → ∀ y ∈ r, le x y
theorem Rnd.perm {S : α → Prop} {le : α → α → Prop} (anti : ∀ a b, le a b → le b a → a = b) {A B : List (List α)} (ha : Rnd f S A) (hb : Rnd f S B) (la : ∀ r ∈ A, Beg le r) (lb : ∀ r ∈ B, Beg le r) : A.Perm B := by
  have sub : ∀ {A B : List (List α)}, Rnd f S A → Rnd f S B → (∀ r ∈ A, Beg le r) → (∀ r ∈ B, Beg le r) → ∀ r ∈ A, r ∈ B := fun {A B} ha hb la lb r hr => by
    have cr := ha.cyc r hr
    have rp := cr.pos
    have h0 : r[0]? = some r[0] := List.getElem?_eq_getElem rp
    have hm := List.mem_of_getElem? h0
    obtain ⟨u, hu, xu⟩ := List.mem_flatten.mp ((hb.all _).mpr ((ha.all _).mp (List.mem_flatten.mpr ⟨r, hr, hm⟩)))
    have cu := hb.cyc u hu
    have up := cu.pos
    have g0 : u[0]? = some u[0] := List.getElem?_eq_getElem up
    have gm := List.mem_of_getElem? g0
    have e : r[0] = u[0] := anti _ _ (la r hr _ h0 _ (cu.sub cr xu hm _ gm)) (lb u hu _ g0 _ xu)
    rw [cr.eq cu (by rw [h0, g0, e])]
    exact hu
  exact (List.perm_ext_iff_of_nodup ha.rows_nd hb.rows_nd).mpr fun r => ⟨sub ha hb la lb r, sub hb ha lb la r⟩
/-! ### the rounds come in pairs -/
/-- a mirror of f -/
structure Mir (f : α → α) (S : α → Prop) (m : α → α) : Prop where
  to : ∀ x, S x → S (m x)
  inv : ∀ x, S x → m (m x) = x
  fm : ∀ x, S x → f (m (f x)) = m x
  fx : ∀ x, S x → m x ≠ x
  nf : ∀ x, S x → m x ≠ f x
theorem Cyc.mirror {S : α → Prop} {m : α → α} (M : Mir f S m) {r : List α} (h : Cyc f r) (hS : ∀ x ∈ r, S x) : Cyc f (r.map m).reverse := by
  have hp := h.pos
  refine ⟨by simp [h.ne], ?_, fun i y hi => ?_⟩
  · refine List.pairwise_reverse.mpr (List.Pairwise.imp (fun h => Ne.symm h) ?_)
    refine List.pairwise_map.mpr (List.Pairwise.imp_of_mem ?_ h.nd)
    intro a b ha hb ne e
    exact ne (by rw [← M.inv a (hS a ha), e, M.inv b (hS b hb)])
  · have il := (List.getElem?_eq_some_iff.mp hi).1
    rw [List.length_reverse, List.length_map] at il ⊢
    rw [List.getElem?_reverse (by rw [List.length_map]; exact il), List.length_map, List.getElem?_map, Option.map_eq_some_iff] at hi
    obtain ⟨a, ha, rfl⟩ := hi
    rw [List.getElem?_reverse (by rw [List.length_map]; exact Nat.mod_lt _ hp), List.length_map, List.getElem?_map]
    have hc : r[r.length - 1 - (i + 1) % r.length]? = some r[r.length - 1 - (i + 1) % r.length] := List.getElem?_eq_getElem (by omega)
    rw [hc]
    have h2 := h.st _ _ hc
    have e : (r.length - 1 - (i + 1) % r.length + 1) % r.length = r.length - 1 - i := by
      by_cases z : i + 1 < r.length
      · rw [Nat.mod_eq_of_lt z, Nat.mod_eq_of_lt (by omega)]; omega
      · rw [show i + 1 = r.length by omega, Nat.mod_self, show r.length - 1 - 0 + 1 = r.length by omega, Nat.mod_self]; omega
    rw [e, ha] at h2
    have h3 := Option.some.inj h2
    have := M.fm _ (hS _ (List.mem_of_getElem? hc))
    rw [← h3] at this
    rw [Option.map_some, this]
theorem Mir.inj {S : α → Prop} {m : α → α} (M : Mir f S m) : ∀ a b, S a → S b → f a = f b → a = b := fun a b ha hb e => by
  have h1 := M.fm a ha
  have h2 := M.fm b hb
  rw [e, h2] at h1
  rw [← M.inv a ha, ← h1, M.inv b hb]
theorem Cyc.not_own {S : α → Prop} {m : α → α} (M : Mir f S m) {r : List α} (h : Cyc f r) (hS : ∀ x ∈ r, S x) {x : α} (hx : r[0]? = some x) : m x ∉ r := fun hm => by
  have hp := h.pos
  obtain ⟨k, hk⟩ := List.mem_iff_getElem?.mp hm
  have kl := (List.getElem?_eq_some_iff.mp hk).1
  have key : ∀ (j : Nat) (y : α), j ≤ k → r[j]? = some y → r[k - j]? = some (m y) := fun j => by
    induction j with
    | zero =>
      intro y _ hy
      rw [hx] at hy
      rw [← Option.some.inj hy]; exact hk
    | succ j ih =>
      intro y hj hy
      have h1 : r[j]? = some r[j] := List.getElem?_eq_getElem (by omega)
      have h2 := ih _ (by omega) h1
      have h3 := h.st _ _ h1
      rw [Nat.mod_eq_of_lt (by omega), hy] at h3
      have h3 := Option.some.inj h3
      have h4 : r[k - (j + 1)]? = some r[k - (j + 1)] := List.getElem?_eq_getElem (by omega)
      have h5 := h.st _ _ h4
      rw [Nat.mod_eq_of_lt (by omega), show k - (j + 1) + 1 = k - j by omega, h2] at h5
      have h5 := Option.some.inj h5
      have s1 := hS _ (List.mem_of_getElem? h1)
      have s4 := hS _ (List.mem_of_getElem? h4)
      have sy := hS _ (List.mem_of_getElem? hy)
      have h6 := M.fm _ s1
      rw [← h3, h5] at h6
      rw [h4, M.inj _ _ s4 (M.to _ sy) h6.symm]
  by_cases ev : k % 2 = 0
  · have h1 : r[k / 2]? = some r[k / 2] := List.getElem?_eq_getElem (by omega)
    have h2 := key _ _ (by omega) h1
    rw [show k - k / 2 = k / 2 by omega, h1] at h2
    exact M.fx _ (hS _ (List.mem_of_getElem? h1)) (Option.some.inj h2).symm
  · have h1 : r[k / 2]? = some r[k / 2] := List.getElem?_eq_getElem (by omega)
    have h2 := key _ _ (by omega) h1
    have h3 := h.st _ _ h1
    rw [Nat.mod_eq_of_lt (by omega)] at h3
    rw [show k - k / 2 = k / 2 + 1 by omega, h3] at h2
    exact M.nf _ (hS _ (List.mem_of_getElem? h1)) (Option.some.inj h2).symm
end
end DL

set_option maxRecDepth 100000
set_option maxHeartbeats 4000000
namespace DL
open PySem PySem.Spec PyProof.Rows L2
/-! ### sorted(xs) of data alike, the list of its own -/
section
variable {X : Cx} {K : PySem.W.Frag} {F0 : FZ} {e : Expr} {t : TA} {t' : DTA} {pos : Pos}
end
end DL

set_option maxRecDepth 100000
set_option maxHeartbeats 4000000
namespace DL
open PySem PySem.Spec PyProof.Rows L2 SrtO
/-! ### rows of triples in order -/
abbrev Stp := Int × Int × Int
def stpD (s : Stp) : D := .tup [.int s.1, .int s.2.1, .int s.2.2]
def tupS (r : List Stp) : D := .tup (r.map stpD)
def triL (s : Stp) : List Int := [s.1, s.2.1, s.2.2]
def leS (a b : Stp) : Prop := triL a ≤ triL b
theorem triL_inj {s u : Stp} (h : triL s = triL u) : s = u := by
  unfold triL at h
  injection h with h1 h
  injection h with h2 h
  injection h with h3 h
  exact Prod.ext h1 (Prod.ext h2 h3)
theorem leS_anti (a b : Stp) (h1 : leS a b) (h2 : leS b a) : a = b := triL_inj (List.le_antisymm h1 h2)
theorem leS_refl (a : Stp) : leS a a := List.le_refl _
/-- the least of some triples -/
def mnS (s : Stp) (l : List Stp) : Stp := l.foldl (fun a y => if triL y < triL a then y else a) s
theorem mnS_least : ∀ (l : List Stp) (s : Stp), ∀ z ∈ s :: l, leS (mnS s l) z
  | [], s, z, hz => by
    rw [List.mem_singleton.mp hz]; exact leS_refl s
  | y :: l, s, z, hz => by
    show leS (mnS (if triL y < triL s then y else s) l) z
    have h0 := mnS_least l (if triL y < triL s then y else s)
    have h1 := h0 _ List.mem_cons_self
    rcases List.mem_cons.mp hz with rfl | hz
    · refine List.le_trans h1 ?_
      split
      · rename_i h; exact List.le_of_lt h
      · exact List.le_refl _
    · rcases List.mem_cons.mp hz with rfl | hz
      · refine List.le_trans h1 ?_
        split
        · exact List.le_refl _
        · rename_i h; exact List.not_lt.mp h
      · exact h0 z (List.mem_cons_of_mem _ hz)
end DL

set_option maxRecDepth 100000
set_option maxHeartbeats 4000000
namespace DL
open PySem PySem.Spec PyProof.Rows L2
/-! ### min(t), t a tuple of ints, its object known or not -/
section
variable {X : Cx} {K : PySem.W.Frag} {F0 : FZ}
end
end DL

set_option maxRecDepth 100000
set_option maxHeartbeats 4000000
namespace DL
open PySem PySem.Spec PyProof.Rows L2
/-! ### {t: v for ..} with tuple keys, as a value -/
section
variable {X : Cx} {K : PySem.W.Frag} {F0 : FZ} {kx vx tg iter : Expr} {ifs : List Expr} {scope : Scope} {own : List (Str × Nat)} {pos : Pos} {wi : TI} {wi' : DTI} {g' : DTG} {tt' : DTT} {tk' te' : DTE}
end
end DL

set_option maxRecDepth 100000
set_option maxHeartbeats 2000000
namespace DL
open PySem PySem.Spec PyProof.Rows L2

def top (i : Nat) : Stmt := PySem.Challenge.pw_storelands_k44_whole_rims.main.body.getD i (.Pass ⟨0, 0, 0, 0⟩)
abbrev s__law_draw : Stmt := top 31
abbrev s__law_shuffled : Stmt := top 34
abbrev s__law_book : Stmt := top 32
abbrev s__law_dice : Stmt := top 30
abbrev s__law_tied : Stmt := top 33
abbrev s__law_drawing : Stmt := top 35
abbrev s__law_pairs_of_corners : Stmt := top 36
abbrev s__law_rims : Stmt := top 37
abbrev s_is_integer : Stmt := top 1
abbrev s_are_signs : Stmt := top 20
abbrev s_is_turn : Stmt := top 19
abbrev s_tied_of : Stmt := top 16
abbrev s_is_right_drawing : Stmt := top 21
abbrev s_check_drawing : Stmt := top 22
abbrev s_tie_of : Stmt := top 17
abbrev s_steps_behind : Stmt := top 24
abbrev s_rounds_along : Stmt := top 25
abbrev s_signs_by_tie : Stmt := top 23
abbrev s_rounds_of : Stmt := top 26
abbrev s_rims_of : Stmt := top 27
abbrev s_rims : Stmt := top 28
abbrev s_is_within : Stmt := top 2
abbrev s_is_index : Stmt := top 3
abbrev s_is_rising_pair : Stmt := top 4
abbrev s_are_rising_pairs : Stmt := top 5
abbrev s_beside_lists : Stmt := top 6
abbrev s_reached : Stmt := top 7
abbrev s_Book___init__ : Stmt := inClass (top 15) 0
abbrev s_law : Stmt := top 38
structure Bn (mg : Str → Option Value) : Prop where
  abs : mg "abs" = none
  all : mg "all" = none
  any : mg "any" = none
  bool : mg "bool" = none
  dict : mg "dict" = none
  enumerate : mg "enumerate" = none
  int : mg "int" = none
  isinstance : mg "isinstance" = none
  len : mg "len" = none
  list : mg "list" = none
  max : mg "max" = none
  min : mg "min" = none
  range : mg "range" = none
  sorted : mg "sorted" = none
  tuple : mg "tuple" = none
  zip : mg "zip" = none
structure Gs (mg : Str → Option Value) : Prop where
  MOST_CONTENTS : ∃ t, mg "MOST_CONTENTS" = some (.int (8) t)
  MOST_TIES : ∃ t, mg "MOST_TIES" = some (.int (28) t)

theorem map_bl (b : Bool) : ∀ l : List D, l.map (fun _ => D.bl b) = (List.replicate l.length b).map .bl
  | [] => rfl
  | x :: l => by rw [List.map_cons, map_bl b l]; rfl
def prOk (n : Int) (p : Int × Int) : Prop := 0 ≤ p.1 ∧ p.1 < p.2 ∧ p.2 < n
def prLt (p q : Int × Int) : Prop := p.1 < q.1 ∨ (p.1 = q.1 ∧ p.2 < q.2)
/-- pushes, ties: right pairs, strictly ascending -/
structure PrsOk (n : Int) (ps : List (Int × Int)) : Prop where
  ok : ∀ p ∈ ps, prOk n p
  lt : ps.Pairwise prLt
theorem len_ok {n : Nat} (h : n ≤ 10000000) : n ≤ sizeLine := by rw [sizeLine_eq]; omega
theorem len_lt {n : Nat} (h : n ≤ 10000000) : n < sizeLine := by rw [sizeLine_eq]; omega
theorem atI_at {l : List D} {i : Int} {k : Nat} {d : D} (hi : i = (k : Int)) (h : l[k]? = some d) : atI l i = some d := by
  subst hi; exact atI_nat h
theorem get_pr {ps : List (Int × Int)} {k : Nat} {d : D} (h : (ps.map prD)[k]? = some d) : ∃ p, ps[k]? = some p ∧ d = prD p := by
  rw [List.getElem?_map] at h
  obtain ⟨p, hp, e⟩ := Option.map_eq_some_iff.mp h
  exact ⟨p, hp, e.symm⟩
theorem get_int {ps : List Int} {k : Nat} {d : D} (h : (ps.map D.int)[k]? = some d) : ∃ p, ps[k]? = some p ∧ d = .int p := by
  rw [List.getElem?_map] at h
  obtain ⟨p, hp, e⟩ := Option.map_eq_some_iff.mp h
  exact ⟨p, hp, e.symm⟩
theorem pw_next {α : Type} {r : α → α → Prop} {l : List α} (h : l.Pairwise r) {k : Nat} {p q : α} (hp : l[k]? = some p) (hq : l[k + 1]? = some q) : r p q := by
  obtain ⟨a, ha⟩ := List.getElem?_eq_some_iff.mp hp
  obtain ⟨b, hb⟩ := List.getElem?_eq_some_iff.mp hq
  rw [← ha, ← hb]
  exact List.pairwise_iff_getElem.mp h k (k + 1) a b (by omega)
/-! ### who is beside whom -/
def nbr (ps : List (Int × Int)) (i : Int) : List Int := ps.flatMap fun p => (if p.1 = i then [p.2] else []) ++ (if p.2 = i then [p.1] else [])
def rowsOf (n : Int) (ps : List (Int × Int)) : List (List Int) := (List.range n.toNat).map fun (i : Nat) => srt (nbr ps (i : Int))
def rowsD (n : Int) (ps : List (Int × Int)) : List D := (rowsOf n ps).map fun r => .tup (r.map .int)
theorem nbr_mem {ps : List (Int × Int)} {i j : Int} : j ∈ nbr ps i ↔ (i, j) ∈ ps ∨ (j, i) ∈ ps := by
  unfold nbr
  rw [List.mem_flatMap]
  constructor
  · rintro ⟨⟨a, b⟩, h, q⟩
    rcases List.mem_append.mp q with q | q
    · by_cases e : a = i
      · simp only [e, if_true, List.mem_singleton] at q
        subst q; subst e; exact .inl h
      · simp [e] at q
    · by_cases e : b = i
      · simp only [e, if_true, List.mem_singleton] at q
        subst q; subst e; exact .inr h
      · simp [e] at q
  · rintro (h | h)
    · exact ⟨_, h, by simp⟩
    · exact ⟨_, h, by simp⟩
theorem nbr_symm {ps : List (Int × Int)} {i j : Int} : j ∈ nbr ps i ↔ i ∈ nbr ps j := by rw [nbr_mem, nbr_mem]; exact Or.comm
theorem nbr_snoc {ps : List (Int × Int)} {a b i : Int} : nbr (ps ++ [(a, b)]) i = nbr ps i ++ ((if a = i then [b] else []) ++ (if b = i then [a] else [])) := by
  unfold nbr
  rw [List.flatMap_append]
  simp
theorem rowsOf_get {n : Int} {ps : List (Int × Int)} {i : Int} (h0 : 0 ≤ i) (h1 : i < n) : (rowsOf n ps)[i.toNat]? = some (srt (nbr ps i)) := by
  unfold rowsOf
  rw [List.getElem?_map, List.getElem?_range (by omega)]
  simp only [Option.map_some]
  rw [Int.toNat_of_nonneg h0]
theorem rowsD_get {n : Int} {ps : List (Int × Int)} {i : Int} (h0 : 0 ≤ i) (h1 : i < n) : atI (rowsD n ps) i = some (.tup ((srt (nbr ps i)).map .int)) := by
  refine atI_at (k := i.toNat) (by omega) ?_
  unfold rowsD
  rw [List.getElem?_map, rowsOf_get h0 h1]
  rfl
theorem nbr_len (ps : List (Int × Int)) (i : Int) : (nbr ps i).length ≤ 2 * ps.length := by
  induction ps with
  | nil => simp [nbr]
  | cons p ps ih =>
    have e : nbr (p :: ps) i = ((if p.1 = i then [p.2] else []) ++ (if p.2 = i then [p.1] else [])) ++ nbr ps i := by unfold nbr; rw [List.flatMap_cons]
    rw [e, List.length_append, List.length_append, List.length_cons]
    by_cases h1 : p.1 = i <;> by_cases h2 : p.2 = i <;> simp [h1, h2] <;> omega
theorem dForI_of {g : DTG} {tb : DTS} {D0 : DEnds} {γ : G} {items : List D} {M1 : Mp} (I : Nat → G → Mp → Prop) (h0 : I 0 γ M1) (step : ∀ i d γ M, items[i]? = some d → I i γ M → g d γ M fun γ1 M1 => tb { D0 with nx := I (i + 1), ct := I (i + 1), bk := D0.nx } γ1 M1)
    (done : ∀ γ M, I items.length γ M → D0.nx γ M) : dForI g tb D0 γ items M1 := ⟨I, h0, step, done⟩
theorem dLcI_idx {g : DTG} {te : DTE} {vs : List Nat} {γ : G} {items : List D} {M : Mp} {Q : DK} (f : Nat → D) (h : ∀ (i : Nat) (d : D), items[i]? = some d → ∀ Q2 : DK, Q2 (f i) M → g d (dwipe γ vs) M fun γ2 M2 => te γ2 M2 Q2) (q : Q (.lst ((List.range items.length).map f)) M) : dLcI g dYes te vs γ items M Q := by
  refine ⟨fun i acc M' => M' = M ∧ acc = (List.range i).map f, ⟨rfl, rfl⟩, ?_, ?_⟩
  · rintro i d acc M' hd ⟨rfl, rfl⟩
    refine h i d hd _ ⟨rfl, ?_⟩
    rw [List.range_succ, List.map_append]
    rfl
  · rintro acc M' ⟨rfl, rfl⟩
    exact q
theorem rows_upd {n : Nat} {f g : Nat → List D} {k : Nat} (hg : ∀ j, j ≠ k → g j = f j) : ((List.range n).map f).set k (g k) = (List.range n).map g := by
  apply List.ext_getElem?
  intro j
  rw [List.getElem?_set]
  by_cases e : k = j
  · subst e
    rw [List.length_map, List.length_range]
    by_cases hk : k < n
    · simp [hk]
    · simp [hk]
  · rw [if_neg e, List.getElem?_map, List.getElem?_map]
    by_cases hk : j < n
    · rw [List.getElem?_range hk]
      simp [hg j fun z => e z.symm]
    · rw [List.getElem?_eq_none (by simpa using hk)]; rfl
/-- one entry more in the rows -/
theorem RowsAt.push {M : Mp} {as : List Addr} {n : Nat} {f g : Nat → List D} {k : Nat} {d : D} (h : RowsAt M as ((List.range n).map f)) (hk : k < n) (hg : ∀ j, g j = if j = k then f j ++ [d] else f j) :
    ∃ a, as[k]? = some a ∧ M a = some (.lst (f k)) ∧ RowsAt (mset M a (.lst (f k ++ [d]))) as ((List.range n).map g) := by
  obtain ⟨a, h1, h2⟩ := h.get (k := k) (r := f k) (by rw [List.getElem?_map, List.getElem?_range hk]; rfl)
  refine ⟨a, h1, h2, ?_⟩
  have e := h.set h1 (f k ++ [d])
  have e2 : f k ++ [d] = g k := by rw [hg, if_pos rfl]
  rw [e2, rows_upd fun j hj => by rw [hg, if_neg hj]] at e
  rw [e2]
  exact e
theorem ref_at {as : List Addr} {k : Nat} {a : Addr} {i : Int} (hi : i = (k : Int)) (h : as[k]? = some a) : atI (as.map D.ref) i = some (.ref a) := atI_at hi (by rw [List.getElem?_map, h]; rfl)
theorem take_succ_of {α : Type} {l : List α} {i : Nat} {p : α} (h : l[i]? = some p) : l.take (i + 1) = l.take i ++ [p] := by
  rw [List.take_add_one, h]; rfl
/-! ### the dice -/
def diceL (r : Int) (ns : List Int) (a m c : Int) : List (Key × D) := [(.inr "rest", .int r), (.inr "cells", .lst (ns.map .int)), (.inr "at", .int a), (.inr "mixed", .int m), (.inr "count", .int c)]
section
variable {r : Int} {ns : List Int} {a m c x : Int}
variable {M : Mp} {p : Addr}
theorem ix_dK {kvs : List (Key × D)} {k : Str} (h : M p = some (.dK kvs)) : dIxV M (.ref p) (.str k) = dval kvs (.inr k) := by
  simp only [dIxV, h, dLook, keyOf, Option.map_some, Option.bind_some, id]
end
structure DiceAt (M : Mp) (p : Addr) : Prop where
  ex : ∃ (r : Int) (ns : List Int) (a m c : Int), M p = some (.dK (diceL r ns a m c)) ∧ 0 ≤ r ∧ 0 ≤ a
theorem dSeq_gen {t u : DTS} {D0 : DEnds} {γ : G} {M : Mp} (P : G → Mp → Prop) (h2 : ∀ γ' M', P γ' M' → u D0 γ' M') (h1 : ∀ nx : G → Mp → Prop, (∀ γ' M', P γ' M' → nx γ' M') → t { D0 with nx := nx } γ M) : dSeq t u D0 γ M := h1 (u D0) h2
theorem cmulR {i j : Int} (h : j.natAbs ≤ 1000000000000) : CMul i j := .inr (by omega)
theorem cmulL {i j : Int} (h : i.natAbs ≤ 1000000000000) : CMul i j := .inl (by omega)
/-- all but a few are as they were -/
def Agree (M M' : Mp) (S : List Addr) : Prop := ∀ q, q ∉ S → M' q = M q
theorem Agree.refl (M : Mp) (S : List Addr) : Agree M M S := fun _ _ => rfl
theorem Agree.trans {M M1 M2 : Mp} {S : List Addr} (a : Agree M M1 S) (b : Agree M1 M2 S) : Agree M M2 S := fun q h => (b q h).trans (a q h)
theorem Agree.mset {M : Mp} {S : List Addr} {p : Addr} {o : MO} (h : p ∈ S) : Agree M (mset M p o) S := fun q hq => mset_ne fun e => hq (e ▸ h)
theorem Agree.at {M M' : Mp} {S : List Addr} (h : Agree M M' S) {q : Addr} (hq : q ∉ S) : M' q = M q := h q hq
theorem DiceAt.keep {M M' : Mp} {S : List Addr} {p : Addr} (h : DiceAt M p) (a : Agree M M' S) (hp : p ∉ S) : DiceAt M' p := ⟨by rw [a p hp]; exact h.ex⟩
/-- what was there is there -/
def Ext (M M' : Mp) (S : List Addr) : Prop := ∀ q o, q ∉ S → M q = some o → M' q = some o
theorem Ext.refl (M : Mp) (S : List Addr) : Ext M M S := fun _ _ _ h => h
theorem Ext.trans {M M1 M2 : Mp} {S : List Addr} (a : Ext M M1 S) (b : Ext M1 M2 S) : Ext M M2 S := fun q o h e => b q o h (a q o h e)
theorem Agree.ext {M M' : Mp} {S : List Addr} (a : Agree M M' S) : Ext M M' S := fun q o h e => (a q h).trans e
theorem Ext.mset {M M' : Mp} {S : List Addr} {l : Addr} {o : MO} (a : Ext M M' S) (h : M l = none) : Ext M (mset M' l o) S := fun q u hq e => by
  rw [mset_ne fun z => ?_]
  · exact a q u hq e
  · rw [z, h] at e; cases e
theorem Ext.mdel {M M' : Mp} {S : List Addr} {l : Addr} (a : Ext M M' S) (h : M l = none) : Ext M (mdel M' l) S := fun q u hq e => by
  rw [mdel_ne fun z => ?_]
  · exact a q u hq e
  · rw [z, h] at e; cases e
theorem Ext.fresh {M M' : Mp} {S : List Addr} {l : Addr} (a : Ext M M' S) (hs : l ∉ S) (h : M' l = none) : M l = none := by
  cases e : M l with
  | none => rfl
  | some o => rw [a l o hs e] at h; cases h
theorem DiceAt.ne {M : Mp} {p l : Addr} {x : List D} (h : DiceAt M p) (hl : M l = some (.lst x)) : l ≠ p := fun e => by
  obtain ⟨r, ns, a, m, c, hp, _⟩ := h.ex
  rw [e, hp] at hl; cases hl
theorem DiceAt.some {M : Mp} {p l : Addr} (h : DiceAt M p) (hl : M l = none) : l ≠ p := fun e => by
  obtain ⟨r, ns, a, m, c, hp, _⟩ := h.ex
  rw [e, hp] at hl; cases hl
theorem DiceAt.mset {M : Mp} {p l : Addr} {o : MO} (h : DiceAt M p) (hl : l ≠ p) : DiceAt (mset M l o) p := ⟨by rw [mset_ne (Ne.symm hl)]; exact h.ex⟩
theorem DiceAt.mdel {M : Mp} {p l : Addr} (h : DiceAt M p) (hl : l ≠ p) : DiceAt (mdel M l) p := ⟨by rw [mdel_ne (Ne.symm hl)]; exact h.ex⟩
/-- a list of right pairs under way -/
structure WSt (M : Mp) (p : Addr) (n : Int) (b : Nat) (M' : Mp) (l : Addr) (ps : List (Int × Int)) : Prop where
  dice : DiceAt M' p
  ext : Ext M M' [p]
  fr : M l = none
  lst : M' l = some (.lst (ps.map prD))
  ok : ∀ q ∈ ps, prOk n q
  len : ps.length ≤ b
theorem WSt.new {M : Mp} {p : Addr} {n : Int} {b : Nat} {M' : Mp} {l' : Addr} {ps' : List (Int × Int)} (hd : DiceAt M' p) (he : Ext M M' [p]) (hl : M' l' = none) (ok : ∀ q ∈ ps', prOk n q) (len : ps'.length ≤ b) : WSt M p n b (mset M' l' (.lst (ps'.map prD))) l' ps' :=
  have ne : l' ≠ p := hd.some hl
  have fr : M l' = none := he.fresh (by simpa using ne) hl
  ⟨hd.mset ne, he.mset fr, fr, mset_same, ok, len⟩
theorem dSeq_then {t u : DTS} {D0 : DEnds} {γ : G} {M : Mp} (P : G → Mp → Prop) (h1 : ∀ nx : G → Mp → Prop, (∀ γ' M', P γ' M' → nx γ' M') → t { D0 with nx := nx } γ M) (h2 : ∀ γ' M', P γ' M' → u D0 γ' M') : dSeq t u D0 γ M := h1 (u D0) h2
/-! ### dicts of pairs -/
def kvP (p : Int × Int) : List Key × D := ([.inl p.1, .inl p.2], .bl true)
theorem keyP_inj {p q : Int × Int} : ([.inl p.1, .inl p.2] : List Key) = [.inl q.1, .inl q.2] ↔ p = q := by
  constructor
  · intro h
    injection h with h1 h2
    injection h2 with h2 _
    injection h1 with h1
    injection h2 with h2
    exact Prod.ext h1 h2
  · rintro rfl; rfl
theorem dval_kvP {ks : List (Int × Int)} {p : Int × Int} : dval (ks.map kvP) [.inl p.1, .inl p.2] = if p ∈ ks then some (.bl true) else none := by
  induction ks with
  | nil => rfl
  | cons q ks ih =>
    rw [List.map_cons]
    show dval (([.inl q.1, .inl q.2], D.bl true) :: ks.map kvP) _ = _
    rw [dval_cons, ih]
    by_cases e : q = p
    · subst e; simp
    · rw [if_neg (fun z => e (keyP_inj.mp z))]
      have e2 : ¬ p = q := fun z => e z.symm
      simp [e2]
theorem dput_kvP {ks : List (Int × Int)} {p : Int × Int} : dput (ks.map kvP) [.inl p.1, .inl p.2] (.bl true) = (if p ∈ ks then ks else ks ++ [p]).map kvP := by
  unfold dput
  rw [dval_kvP]
  by_cases h : p ∈ ks
  · simp only [if_pos h, Option.isSome_some, if_true]
    rw [List.map_map]
    apply List.map_congr_left
    intro q hq
    show (if (kvP q).1 = _ then ((kvP q).1, D.bl true) else kvP q) = kvP q
    split <;> rfl
  · simp only [if_neg h, Option.isSome_none, Bool.false_eq_true, if_false]
    rw [List.map_append]; rfl
theorem srtd_lt {qs : List (Int × Int)} (h : SrtO.Srtd SrtO.lexB qs) (nd : qs.Nodup) : qs.Pairwise prLt := by
  have h' : qs.Pairwise fun a b => SrtO.lexB b a = false := h
  refine (h'.and nd).imp ?_
  rintro ⟨a, b⟩ ⟨c, d⟩ ⟨h1, h2⟩
  rw [SrtO.lexB_no] at h1
  unfold prLt
  simp only at h1 ⊢
  by_cases e : a = c
  · subst e
    by_cases e2 : b = d
    · subst e2; exact absurd rfl h2
    · omega
  · omega
/-! ### webs -/
structure Cl_TW (K : PySem.W.Frag) (mg : Str → Option Value) (C : Addr) : Prop where
  cl : Cls K C
  n_kept_size : NoAttr K C "kept_size"
  n_kept_pushes : NoAttr K C "kept_pushes"
  n_kept_facts : NoAttr K C "kept_facts"
def webF (n : Int) (ps : List (Int × Int)) (d : Addr) : List (Str × D) := [("kept_size", .int n), ("kept_pushes", .kt (ps.map prD)), ("kept_facts", .ref d)]
structure WebOk (n : Int) (ps : List (Int × Int)) : Prop where
  lo : 1 ≤ n
  hi : n ≤ 10000
  pr : PrsOk n ps
  len : ps.length ≤ 100000
structure WebAt (C : Addr) (M : Mp) (p : Addr) (n : Int) (ps : List (Int × Int)) (d : Addr) : Prop where
  ob : M p = some (.ins C (webF n ps d))
  fc : ∃ kvs, M d = some (.dK kvs) ∧ (kvs = [] ∨ kvs = [(.inr "beside", .lst (rowsD n ps))])
  ok : WebOk n ps
theorem WebAt.ne {C : Addr} {M : Mp} {p : Addr} {n : Int} {ps : List (Int × Int)} {d : Addr} (h : WebAt C M p n ps d) : p ≠ d := fun e => by
  obtain ⟨kvs, h1, _⟩ := h.fc
  have := h.ob
  rw [e, h1] at this
  cases this
theorem WebAt.keep {C : Addr} {M M' : Mp} {S : List Addr} {p : Addr} {n : Int} {ps : List (Int × Int)} {d : Addr} (h : WebAt C M p n ps d) (a : Agree M M' S) (hp : p ∉ S) (hd : d ∉ S) : WebAt C M' p n ps d :=
  ⟨by rw [a p hp]; exact h.ob, by rw [a d hd]; exact h.fc, h.ok⟩
/-! ### reaching -/
theorem snoc_cases {α : Type} (l : List α) : l = [] ∨ ∃ m a, l = m ++ [a] := by
  rcases List.eq_nil_or_concat l with h | ⟨m, a, h⟩
  · exact .inl h
  · exact .inr ⟨m, a, by rw [h, List.concat_eq_append]⟩
def Wk (ps : List (Int × Int)) (S : List Int) (s : Int) : Nat → Int → Prop
  | 0, x => x = s
  | t + 1, y => ∃ x, Wk ps S s t x ∧ y ∈ nbr ps x ∧ y ∈ S
def Rch (ps : List (Int × Int)) (S : List Int) (s x : Int) : Prop := ∃ t, Wk ps S s t x
def Dst (ps : List (Int × Int)) (S : List Int) (s : Int) (t : Nat) (x : Int) : Prop := Wk ps S s t x ∧ ∀ j, j < t → ¬ Wk ps S s j x
section
variable {ps : List (Int × Int)} {S : List Int} {s x y : Int} {t : Nat}
theorem Rch.refl : Rch ps S s s := ⟨0, rfl⟩
theorem Rch.step (h : Rch ps S s x) (hy : y ∈ nbr ps x) (hS : y ∈ S) : Rch ps S s y := let ⟨t, h⟩ := h; ⟨t + 1, x, h, hy, hS⟩
theorem Wk.mem : ∀ {t : Nat} {x : Int}, s ∈ S → Wk ps S s t x → x ∈ S
  | 0, _, h, e => by rw [show _ = s from e]; exact h
  | _ + 1, _, _, ⟨_, _, _, h⟩ => h
theorem Rch.mem (hs : s ∈ S) (h : Rch ps S s x) : x ∈ S := let ⟨_, h⟩ := h; Wk.mem hs h
theorem Wk.trans {a b c : Int} : ∀ {t j : Nat} {c : Int}, Wk ps S a t b → Wk ps S b j c → Rch ps S a c
  | _, 0, _, h, e => by rw [show _ = b from e]; exact ⟨_, h⟩
  | _, _ + 1, _, h, ⟨_, h1, h2, h3⟩ => (Wk.trans (c := c) h h1).step h2 h3
theorem Rch.trans {a b c : Int} (h : Rch ps S a b) (g : Rch ps S b c) : Rch ps S a c := let ⟨_, h⟩ := h; let ⟨_, g⟩ := g; Wk.trans (c := c) h g
theorem Wk.symm : ∀ {t : Nat} {x : Int}, s ∈ S → Wk ps S s t x → Rch ps S x s
  | 0, _, _, e => by rw [show _ = s from e]; exact .refl
  | _ + 1, _, hs, ⟨_, h1, h2, h3⟩ => ((Rch.refl).step (nbr_symm.mp h2) (Wk.mem hs h1)).trans (Wk.symm hs h1)
theorem Rch.symm (hs : s ∈ S) (h : Rch ps S s x) : Rch ps S x s := let ⟨_, h⟩ := h; Wk.symm hs h
theorem Rch.congr {S' : List Int} (h : ∀ x, x ∈ S → x ∈ S') : Rch ps S s x → Rch ps S' s x := by
  rintro ⟨t, ht⟩
  induction t generalizing x with
  | zero => exact ⟨0, ht⟩
  | succ t ih =>
    obtain ⟨z, h1, h2, h3⟩ := ht
    exact (ih h1).step h2 (h _ h3)
theorem Dst.uniq {t j : Nat} (h : Dst ps S s t x) (g : Dst ps S s j x) : t = j := by
  rcases Nat.lt_trichotomy t j with l | l | l
  · exact absurd h.1 (g.2 t l)
  · exact l
  · exact absurd g.1 (h.2 j l)
theorem Wk.dst : ∀ {t : Nat}, Wk ps S s t x → ∃ j, j ≤ t ∧ Dst ps S s j x := by
  intro t
  induction t using Nat.strongRecOn with
  | _ t ih =>
    intro h
    by_cases e : ∃ j, j < t ∧ Wk ps S s j x
    · obtain ⟨j, hj, w⟩ := e
      obtain ⟨i, hi, d⟩ := ih j hj w
      exact ⟨i, by omega, d⟩
    · exact ⟨t, Nat.le_refl _, h, fun j hj w => e ⟨j, hj, w⟩⟩
theorem Dst.back (h : Dst ps S s (t + 1) y) : ∃ x, Dst ps S s t x ∧ y ∈ nbr ps x ∧ y ∈ S := by
  obtain ⟨⟨x, h1, h2, h3⟩, m⟩ := h
  exact ⟨x, ⟨h1, fun j hj w => m (j + 1) (by omega) ⟨x, w, h2, h3⟩⟩, h2, h3⟩
theorem nodup_len : ∀ {l m : List Int}, l.Nodup → (∀ x, x ∈ l → x ∈ m) → l.length ≤ m.length
  | [], _, _, _ => Nat.zero_le _
  | a :: l, m, nd, h => by
    rw [List.nodup_cons] at nd
    have ha : a ∈ m := h a List.mem_cons_self
    have := nodup_len (l := l) (m := m.erase a) nd.2 fun x hx => (List.mem_erase_of_ne fun e => nd.1 (by rw [← e]; exact hx)).mpr (h x (List.mem_cons_of_mem _ hx))
    have e := List.length_erase_of_mem ha
    have p := List.length_pos_of_mem ha
    rw [List.length_cons]; omega
theorem nodup_eq {l m : List Int} (nl : l.Nodup) (h : ∀ x, x ∈ l → x ∈ m) (e : m.length ≤ l.length) : ∀ x, x ∈ m → x ∈ l := fun x hx => by
  by_cases c : x ∈ l
  · exact c
  · have := nodup_len (l := l) (m := m.erase x) nl fun y hy => (List.mem_erase_of_ne fun z => c (by rw [← z]; exact hy)).mpr (h y hy)
    have e2 := List.length_erase_of_mem hx
    have p := List.length_pos_of_mem hx
    omega
/-- as many unlike standings as the distance and one -/
theorem Dst.chain (hs : s ∈ S) : ∀ {t : Nat} {x : Int}, Dst ps S s t x → ∃ l : List Int, l.length = t + 1 ∧ l.Nodup ∧ (∀ y, y ∈ l → y ∈ S) ∧ ∀ y, y ∈ l → ∃ j, j ≤ t ∧ Dst ps S s j y
  | 0, x, h => ⟨[x], rfl, by simp, fun y hy => by rw [List.mem_singleton.mp hy]; exact Wk.mem hs h.1, fun y hy => by rw [List.mem_singleton.mp hy]; exact ⟨0, Nat.le_refl _, h⟩⟩
  | t + 1, x, h => by
    obtain ⟨z, hz, _, _⟩ := h.back
    obtain ⟨l, h1, h2, h3, h4⟩ := Dst.chain hs hz
    refine ⟨x :: l, by rw [List.length_cons, h1], List.nodup_cons.mpr ⟨fun hx => ?_, h2⟩, fun y hy => ?_, fun y hy => ?_⟩
    · obtain ⟨j, hj, d⟩ := h4 x hx
      have := d.uniq h
      omega
    · rcases List.mem_cons.mp hy with rfl | hy
      · exact Wk.mem hs h.1
      · exact h3 y hy
    · rcases List.mem_cons.mp hy with rfl | hy
      · exact ⟨t + 1, Nat.le_refl _, h⟩
      · obtain ⟨j, hj, d⟩ := h4 y hy
        exact ⟨j, by omega, d⟩
theorem Dst.lt (hs : s ∈ S) (h : Dst ps S s t x) : t < S.length := by
  obtain ⟨l, h1, h2, h3, _⟩ := h.chain hs
  have := nodup_len h2 h3
  omega
def HangsP (ps : List (Int × Int)) (S : List Int) : Prop := ∀ x ∈ S, ∀ y ∈ S, Rch ps S x y
theorem hangs_from (hs : s ∈ S) : HangsP ps S ↔ ∀ x ∈ S, Rch ps S s x := ⟨fun h x hx => h s hs x hx, fun h x hx y hy => ((h x hx).symm hs).trans (h y hy)⟩
theorem HangsP.congr {S' : List Int} (h : ∀ x, x ∈ S ↔ x ∈ S') : HangsP ps S ↔ HangsP ps S' :=
  ⟨fun g x hx y hy => (g x ((h x).mpr hx) y ((h y).mpr hy)).congr fun z => (h z).mp, fun g x hx y hy => (g x ((h x).mp hx) y ((h y).mp hy)).congr fun z => (h z).mpr⟩
theorem HangsP.one : HangsP ps [x] := fun a ha b hb => by
  rw [List.mem_singleton.mp ha, List.mem_singleton.mp hb]; exact .refl
theorem HangsP.more {a : Int} (h : HangsP ps S) (ha : a ∈ S) (hx : x ∈ nbr ps a) : HangsP ps (S ++ [x]) := by
  refine (hangs_from (s := a) (List.mem_append_left _ ha)).mpr fun y hy => ?_
  rcases List.mem_append.mp hy with hy | hy
  · exact (h a ha y hy).congr fun z hz => List.mem_append_left _ hz
  · rw [List.mem_singleton.mp hy]
    exact Rch.refl.step hx (by simp)
end
/-! ### dicts of ints -/
def kvT (x : Int) : Key × D := (.inl x, .bl true)
theorem dval_ints {κ : Int → Key × D} (hk : ∀ x, (κ x).1 = .inl x) {ks : List Int} {x : Int} : (dval (ks.map κ) (.inl x)).isSome = decide (x ∈ ks) := by
  induction ks with
  | nil => rfl
  | cons q ks ih =>
    rw [List.map_cons, show κ q = ((.inl q : Key), (κ q).2) from Prod.ext (hk q) rfl, dval_cons]
    by_cases e : q = x
    · subst e; simp
    · rw [if_neg fun z => e (Sum.inl.inj z), ih]
      have e2 : ¬ x = q := fun z => e z.symm
      simp [e2]
theorem dput_new {κ : Type} [DecidableEq κ] {l : List (κ × D)} {k : κ} {d : D} (h : dval l k = none) : dput l k d = l ++ [(k, d)] := by
  unfold dput
  rw [h]; rfl
theorem none_of {o : Option D} (h : o.isSome = false) : o = none := by cases o <;> first | rfl | cases h
theorem dput_kvT {ks : List Int} {x : Int} (h : x ∉ ks) : dput (ks.map kvT) (.inl x) (.bl true) = (ks ++ [x]).map kvT := by
  rw [dput_new (none_of (by rw [dval_ints (fun _ => rfl), decide_eq_false h])), List.map_append]; rfl
/-- the lot as a dict -/
structure InsAt (M : Mp) (d : Addr) (ns : List Int) : Prop where
  ex : ∃ kvs, M d = some (.dK kvs) ∧ kvs.length = ns.length ∧ ∀ x : Int, (dval kvs (.inl x)).isSome = decide (x ∈ ns)
theorem InsAt.of {M : Mp} {d : Addr} {ns : List Int} (h : M d = some (.dK (ns.map kvT))) : InsAt M d ns := ⟨_, h, by simp, fun x => dval_ints fun _ => rfl⟩
theorem InsAt.keep {M M' : Mp} {d : Addr} {ns : List Int} (h : InsAt M d ns) (e : M' d = M d) : InsAt M' d ns := ⟨by rw [e]; exact h.ex⟩
theorem InsAt.has {M : Mp} {d : Addr} {ns : List Int} (h : InsAt M d ns) (x : Int) : inV' M (.int x) (.ref d) = some (decide (x ∈ ns)) := by
  obtain ⟨kvs, h1, _, h3⟩ := h.ex
  simp only [inV', h1, dLook, keyOf, Option.map_some, h3]
theorem has_kvT {M : Mp} {d : Addr} {ks : List Int} (h : M d = some (.dK (ks.map kvT))) (x : Int) : inV' M (.int x) (.ref d) = some (decide (x ∈ ks)) := (InsAt.of h).has x
theorem fold_kvT : ∀ (ns acc : List Int), (acc ++ ns).Nodup → (ns.map D.int).foldl (fun a d => dput a ((match d with | .int i => .inl i | _ => .inl 0) : Key) (.bl true)) (acc.map kvT) = (acc ++ ns).map kvT
  | [], acc, _ => by simp
  | x :: ns, acc, h => by
    rw [List.map_cons, List.foldl_cons]
    have hx : x ∉ acc := fun z => by
      rw [List.nodup_append] at h
      exact h.2.2 x z x List.mem_cons_self rfl
    have h2 : ((acc ++ [x]) ++ ns).Nodup := by rw [List.append_assoc]; exact h
    show List.foldl _ (dput (acc.map kvT) (.inl x) (.bl true)) _ = _
    rw [dput_kvT hx, fold_kvT ns (acc ++ [x]) h2, List.append_assoc]
    rfl

/-- a right lot -/
structure LotOk (n : Int) (ns : List Int) : Prop where
  ne : ns ≠ []
  nd : ns.Nodup
  rg : ∀ x ∈ ns, 0 ≤ x ∧ x < n
theorem LotOk.len {n : Int} {ns : List Int} (h : LotOk n ns) : (ns.length : Int) ≤ n := by
  have := nodup_len (l := ns) (m := (List.range n.toNat).map fun (i : Nat) => (i : Int)) h.nd fun x hx => by
    have := h.rg x hx
    exact List.mem_map.mpr ⟨x.toNat, List.mem_range.mpr (by omega), by omega⟩
  rw [List.length_map, List.length_range] at this
  obtain ⟨x, hx⟩ := List.exists_mem_of_ne_nil _ h.ne
  have := h.rg x hx
  omega
theorem nodup_perm {l m : List Int} (h : l.Perm m) (nd : m.Nodup) : l.Nodup := h.nodup_iff.mpr nd
theorem ixN_of {n : Nat} {i : Int} {j : Nat} (h : i = (j : Int)) (hj : j < n) : ixN n i = some j := by
  subst h
  unfold ixN
  rw [if_pos (by omega), if_pos (by omega)]
  rfl
theorem eraseIdx_perm {α : Type} : ∀ {l : List α} {j : Nat} {x : α}, l[j]? = some x → (l.eraseIdx j ++ [x]).Perm l
  | y :: l, 0, x, h => by
    simp at h; subst h
    show (l ++ [y]).Perm (y :: l)
    exact List.perm_append_comm
  | y :: l, j + 1, x, h => by
    show (y :: (l.eraseIdx j ++ [x])).Perm (y :: l)
    exact List.Perm.cons _ (eraseIdx_perm (by simpa using h))
  | [], j, x, h => by simp at h

/-- the flood behind t turns -/
structure FlSt (ps : List (Int × Int)) (ns : List Int) (s : Int) (t : Nat) (kt : List (Int × Nat)) (fr : List Int) : Prop where
  nd : (kt.map (·.1)).Nodup
  mem : ∀ x j, (x, j) ∈ kt ↔ j ≤ t ∧ Dst ps ns s j x
  fnd : fr.Nodup
  fmem : ∀ x, x ∈ fr ↔ Dst ps ns s t x
/-- .. within a turn -/
structure FlIn (ps : List (Int × Int)) (ns : List Int) (s : Int) (t : Nat) (kt : List (Int × Nat)) (la : List Int) : Prop where
  nd : (kt.map (·.1) ++ la).Nodup
  lmem : ∀ y, y ∈ la → Dst ps ns s (t + 1) y
section
variable {ps : List (Int × Int)} {ns : List Int} {s x y : Int} {t : Nat} {kt : List (Int × Nat)} {fr la : List Int}
theorem FlSt.new (h : FlSt ps ns s t kt fr) (hx : Dst ps ns s t x) (hy : y ∈ nbr ps x) (hn : y ∈ ns) (hk : y ∉ kt.map (·.1)) : Dst ps ns s (t + 1) y :=
  ⟨⟨x, hx.1, hy, hn⟩, fun j hj w => by
    obtain ⟨i, hi, d⟩ := w.dst
    exact hk (List.mem_map.mpr ⟨(y, i), (h.mem y i).mpr ⟨by omega, d⟩, rfl⟩)⟩
theorem FlIn.len (hs : s ∈ ns) (hst : FlSt ps ns s t kt fr) (h : FlIn ps ns s t kt la) : kt.length + la.length ≤ ns.length := by
  have := nodup_len (l := kt.map (·.1) ++ la) (m := ns) h.nd fun z hz => by
    rcases List.mem_append.mp hz with hz | hz
    · obtain ⟨⟨a, j⟩, ha, rfl⟩ := List.mem_map.mp hz
      exact Wk.mem hs ((hst.mem a j).mp ha).2.1
    · exact Wk.mem hs (h.lmem z hz).1
  rw [List.length_append, List.length_map] at this
  exact this
theorem FlSt.next (hst : FlSt ps ns s t kt fr) (h : FlIn ps ns s t kt la) (hc : ∀ x, x ∈ fr → ∀ y, y ∈ nbr ps x → y ∈ ns → y ∈ kt.map (·.1) ++ la) : FlSt ps ns s (t + 1) (kt ++ la.map fun y => (y, t + 1)) la := by
  have em : (kt ++ la.map fun y => (y, t + 1)).map (·.1) = kt.map (·.1) ++ la := by
    rw [List.map_append, List.map_map]
    congr 1
    exact List.map_id _
  have full : ∀ y, Dst ps ns s (t + 1) y → y ∈ la := fun y hy => by
    obtain ⟨x, hx, h1, h2⟩ := hy.back
    rcases List.mem_append.mp (hc x ((hst.fmem x).mpr hx) y h1 h2) with z | z
    · obtain ⟨⟨a, j⟩, ha, rfl⟩ := List.mem_map.mp z
      have := ((hst.mem a j).mp ha)
      have e := this.2.uniq hy
      omega
    · exact z
  refine ⟨by rw [em]; exact h.nd, fun z j => ?_, (List.nodup_append.mp h.nd).2.1, fun z => ⟨h.lmem z, full z⟩⟩
  rw [List.mem_append, hst.mem, List.mem_map]
  constructor
  · rintro (⟨h1, h2⟩ | ⟨y, hy, e⟩)
    · exact ⟨by omega, h2⟩
    · cases e; exact ⟨Nat.le_refl _, h.lmem _ hy⟩
  · rintro ⟨h1, h2⟩
    by_cases e : j = t + 1
    · subst e; exact .inr ⟨z, full z h2, rfl⟩
    · exact .inl ⟨by omega, h2⟩
end

/-! ### breadth first: behind k turns -/
structure Bfs (ps : List (Int × Int)) (ns : List Int) (s : Int) (kt : List (Int × Nat)) (k : Nat) : Prop where
  nd : (kt.map (·.1)).Nodup
  dst : ∀ x j, (x, j) ∈ kt → Dst ps ns s j x
  srt : kt.Pairwise fun a b => a.2 ≤ b.2
  s0 : s ∈ kt.map (·.1)
  kl : k ≤ kt.length
  cl : ∀ x j, (x, j) ∈ kt.take k → ∀ y, y ∈ nbr ps x → y ∈ ns → y ∈ kt.map (·.1)
  win : ∀ x j, kt[k]? = some (x, j) → (∀ y i, (y, i) ∈ kt → i ≤ j + 1) ∧ ∀ i y, i ≤ j → Dst ps ns s i y → y ∈ kt.map (·.1)
section
variable {ps : List (Int × Int)} {ns : List Int} {s x y : Int} {j k : Nat} {kt : List (Int × Nat)} {la : List Int}
theorem Bfs.zero : Bfs ps ns s [(s, 0)] 0 := by
  refine ⟨by simp, fun x j h => ?_, by simp, by simp, Nat.zero_le _, fun x j h => by simp at h, fun x j h => ?_⟩
  · rw [List.mem_singleton] at h
    cases h
    exact ⟨rfl, fun j hj => absurd hj (Nat.not_lt_zero j)⟩
  · simp at h
    obtain ⟨rfl, rfl⟩ := h
    refine ⟨fun y i h => ?_, fun i y hi h => ?_⟩
    · rw [List.mem_singleton] at h; cases h; omega
    · have : i = 0 := by omega
      subst this
      rw [show y = s from h.1]; simp
theorem Bfs.new (h : Bfs ps ns s kt k) (hk : kt[k]? = some (x, j)) (hy : y ∈ nbr ps x) (hn : y ∈ ns) (hm : y ∉ kt.map (·.1)) : Dst ps ns s (j + 1) y :=
  ⟨⟨x, (h.dst x j (List.mem_of_getElem? hk)).1, hy, hn⟩, fun i hi w => by
    obtain ⟨i', hi', d⟩ := w.dst
    exact hm ((h.win x j hk).2 i' y (by omega) d)⟩
theorem Bfs.len (hs : s ∈ ns) (hb : Bfs ps ns s kt k) (h : FlIn ps ns s j kt la) : kt.length + la.length ≤ ns.length := by
  have := nodup_len (l := kt.map (·.1) ++ la) (m := ns) h.nd fun z hz => by
    rcases List.mem_append.mp hz with hz | hz
    · obtain ⟨⟨a, i⟩, ha, rfl⟩ := List.mem_map.mp hz
      exact Wk.mem hs (hb.dst a i ha).1
    · exact Wk.mem hs (h.lmem z hz).1
  rw [List.length_append, List.length_map] at this
  exact this
theorem keys_app (la : List Int) : (kt ++ la.map fun y => (y, j)).map (·.1) = kt.map (·.1) ++ la := by
  rw [List.map_append, List.map_map]
  congr 1
  exact List.map_id _
theorem Bfs.next (h : Bfs ps ns s kt k) (hk : kt[k]? = some (x, j)) (hf : FlIn ps ns s j kt la) (hc : ∀ y, y ∈ nbr ps x → y ∈ ns → y ∈ kt.map (·.1) ++ la) : Bfs ps ns s (kt ++ la.map fun y => (y, j + 1)) (k + 1) := by
  have hkl : k < kt.length := (List.getElem?_eq_some_iff.mp hk).1
  have xm : (x, j) ∈ kt := List.mem_of_getElem? hk
  have tk : (kt ++ la.map fun y => (y, j + 1)).take (k + 1) = kt.take k ++ [(x, j)] := by
    rw [List.take_append_of_le_length (by omega), take_succ_of hk]
  have sr : (kt ++ la.map fun y => (y, j + 1)).Pairwise fun a b => a.2 ≤ b.2 := by
    rw [List.pairwise_append]
    refine ⟨h.srt, ?_, fun a ha b hb => ?_⟩
    · rw [List.pairwise_map]
      exact List.pairwise_of_forall fun _ _ => Nat.le_refl _
    · obtain ⟨y, _, rfl⟩ := List.mem_map.mp hb
      exact (h.win x j hk).1 a.1 a.2 ha
  refine ⟨by rw [keys_app]; exact hf.nd, fun z i hz => ?_, sr, by rw [keys_app]; exact List.mem_append_left _ h.s0, by rw [List.length_append]; omega, fun z i hz y hy hn => ?_, fun z i hz => ?_⟩
  · rcases List.mem_append.mp hz with hz | hz
    · exact h.dst z i hz
    · obtain ⟨y, hy, e⟩ := List.mem_map.mp hz
      cases e
      exact hf.lmem _ hy
  · rw [keys_app]
    rw [tk] at hz
    rcases List.mem_append.mp hz with hz | hz
    · exact List.mem_append_left _ (h.cl z i hz y hy hn)
    · rw [List.mem_singleton] at hz
      cases hz
      exact hc y hy hn
  · have hk2 : (kt ++ la.map fun y => (y, j + 1))[k]? = some (x, j) := by rw [List.getElem?_append_left hkl]; exact hk
    have lo : j ≤ i := pw_next sr hk2 hz
    have all : ∀ y i, (y, i) ∈ kt ++ la.map (fun y => (y, j + 1)) → i ≤ j + 1 := fun y i hm => by
      rcases List.mem_append.mp hm with hm | hm
      · exact (h.win x j hk).1 y i hm
      · obtain ⟨_, _, e⟩ := List.mem_map.mp hm
        cases e
        exact Nat.le_refl _
    have hi := all z i (List.mem_of_getElem? hz)
    refine ⟨fun y i' hm => Nat.le_trans (all y i' hm) (by omega), fun i' y hi' hd => ?_⟩
    rw [keys_app]
    by_cases e : i' ≤ j
    · exact List.mem_append_left _ ((h.win x j hk).2 i' y e hd)
    · have e2 : i' = j + 1 := by omega
      subst e2
      obtain ⟨u, hu, h1, h2⟩ := hd.back
      obtain ⟨⟨u', j'⟩, hm, rfl⟩ := List.mem_map.mp ((h.win x j hk).2 j u (Nat.le_refl _) hu)
      have e3 : j' = j := (h.dst _ _ hm).uniq hu
      subst e3
      obtain ⟨m, hm2⟩ := List.mem_iff_getElem?.mp hm
      have ml := (List.getElem?_eq_some_iff.mp hm2).1
      by_cases hmk : m < k
      · exact List.mem_append_left _ (h.cl u' j' (List.mem_iff_getElem?.mpr ⟨m, by rw [List.getElem?_take, if_pos hmk]; exact hm2⟩) y h1 h2)
      · by_cases hmk2 : m = k
        · subst hmk2
          rw [hm2] at hk
          cases hk
          exact hc y h1 h2
        · exfalso
          have hm3 : (kt ++ la.map fun y => (y, j' + 1))[m]? = some (u', j') := by rw [List.getElem?_append_left ml]; exact hm2
          obtain ⟨a1, b1⟩ := List.getElem?_eq_some_iff.mp hz
          obtain ⟨a2, b2⟩ := List.getElem?_eq_some_iff.mp hm3
          by_cases hm4 : m = k + 1
          · subst hm4
            rw [b1] at b2
            cases b2
            omega
          · have := List.pairwise_iff_getElem.mp sr (k + 1) m a1 a2 (by omega)
            rw [b1, b2] at this
            simp only at this
            omega
theorem Bfs.full (h : Bfs ps ns s kt kt.length) : ∀ x j, (x, j) ∈ kt ↔ Dst ps ns s j x := fun x j => ⟨h.dst x j, fun hd => by
  have key : ∀ j x, Dst ps ns s j x → x ∈ kt.map (·.1) → (x, j) ∈ kt := fun j x hd hm => by
    obtain ⟨⟨a, i⟩, ha, rfl⟩ := List.mem_map.mp hm
    rw [hd.uniq (h.dst a i ha)]
    exact ha
  refine key j x hd ?_
  induction j generalizing x with
  | zero => rw [show x = s from hd.1]; exact h.s0
  | succ j ih =>
    obtain ⟨z, hz, h1, h2⟩ := hd.back
    exact h.cl z j (by rw [List.take_length]; exact key j z hz (ih z hz)) x h1 h2⟩
theorem ixL_at {M : Mp} {l : List D} {i : Int} {k : Nat} {d : D} (hi : i = (k : Int)) (h : l[k]? = some d) : dIxV M (.lst l) (.int i) = some d := atI_at hi h
theorem ixT_at {M : Mp} {l : List D} {i : Int} {k : Nat} {d : D} (hi : i = (k : Int)) (h : l[k]? = some d) : dIxV M (.tup l) (.int i) = some d := atI_at hi h
/-- the way: each time the least that is one push nearer -/
def IsWay (ps : List (Int × Int)) (ns : List Int) (g : Int) : Nat → Int → List Int → Prop
  | 0, x, l => l = [x]
  | t + 1, x, l => ∃ y r, l = x :: r ∧ IsWay ps ns g t y r ∧ y ∈ nbr ps x ∧ Dst ps ns g t y ∧ ∀ z, z ∈ nbr ps x → Dst ps ns g t z → y ≤ z
theorem IsWay.uniq {g : Int} : ∀ {t : Nat} {x : Int} {l m : List Int}, IsWay ps ns g t x l → IsWay ps ns g t x m → l = m
  | 0, _, _, _, h1, h2 => h1.trans h2.symm
  | t + 1, _, _, _, ⟨y, r, e, h, a, b, c⟩, ⟨y', r', e', h', a', b', c'⟩ => by
    have q : y = y' := Int.le_antisymm (c y' a' b') (c' y a b)
    subst q
    rw [e, e', IsWay.uniq h h']
theorem wk_congr {ms : List Int} (h : ∀ z, z ∈ ns ↔ z ∈ ms) : ∀ {t : Nat} {x : Int}, Wk ps ns s t x ↔ Wk ps ms s t x
  | 0, _ => Iff.rfl
  | t + 1, x => ⟨fun ⟨z, a, b, c⟩ => ⟨z, (wk_congr h).mp a, b, (h x).mp c⟩, fun ⟨z, a, b, c⟩ => ⟨z, (wk_congr h).mpr a, b, (h x).mpr c⟩⟩
theorem dst_congr {ms : List Int} (h : ∀ z, z ∈ ns ↔ z ∈ ms) {t : Nat} {x : Int} : Dst ps ns s t x ↔ Dst ps ms s t x := by
  unfold Dst
  rw [wk_congr h]
  exact and_congr Iff.rfl ⟨fun g j hj w => g j hj ((wk_congr h).mpr w), fun g j hj w => g j hj ((wk_congr h).mp w)⟩
theorem IsWay.congr {ms : List Int} {g : Int} (h : ∀ z, z ∈ ns ↔ z ∈ ms) : ∀ {t : Nat} {x : Int} {l : List Int}, IsWay ps ns g t x l → IsWay ps ms g t x l
  | 0, _, _, h1 => h1
  | t + 1, _, _, ⟨y, r, e, h1, a, b, c⟩ => ⟨y, r, e, IsWay.congr h h1, a, (dst_congr h).mp b, fun z h2 h3 => c z h2 ((dst_congr h).mpr h3)⟩
theorem IsWay.len {g : Int} : ∀ {t : Nat} {x : Int} {l : List Int}, IsWay ps ns g t x l → l.length = t + 1
  | 0, _, _, h => by rw [show _ = _ from h]; rfl
  | t + 1, _, _, ⟨y, r, e, h, _⟩ => by rw [e, List.length_cons, h.len]
theorem IsWay.head {g : Int} : ∀ {t : Nat} {x : Int} {l : List Int}, IsWay ps ns g t x l → l[0]? = some x
  | 0, _, _, h => by rw [show _ = _ from h]; rfl
  | t + 1, _, _, ⟨y, r, e, h, _⟩ => by rw [e]; rfl
end

/-- all but a few as they were -/
theorem Ext.cutL {M M' : Mp} {S : List Addr} (a : Ext M M' S) : ∃ M2, MLe M2 M' ∧ Agree M M2 S ∧ ∀ q, q ∈ S → M2 q = M' q := by
  refine ⟨fun q => if q ∈ S then M' q else M q, fun q o h => ?_, fun q h => if_neg h, fun q h => if_pos h⟩
  by_cases e : q ∈ S
  · simp only [if_pos e] at h; exact h
  · simp only [if_neg e] at h; exact a q o e h
/-! ### books -/
structure Cl_TB (K : PySem.W.Frag) (mg : Str → Option Value) (C : Addr) : Prop where
  cl : Cls K C
  n_kept_size : NoAttr K C "kept_size"
  n_kept_ties : NoAttr K C "kept_ties"
  n_kept_facts : NoAttr K C "kept_facts"
def bookF (n : Int) (ps : List (Int × Int)) (d : Addr) : List (Str × D) := [("kept_size", .int n), ("kept_ties", .kt (ps.map prD)), ("kept_facts", .ref d)]
def allOf (n : Int) : List Int := (List.range n.toNat).map fun (i : Nat) => (i : Int)
theorem allOf_mem {n x : Int} : x ∈ allOf n ↔ 0 ≤ x ∧ x < n := by
  unfold allOf
  rw [List.mem_map]
  constructor
  · rintro ⟨i, hi, rfl⟩
    have := List.mem_range.mp hi
    omega
  · rintro ⟨h0, h1⟩
    exact ⟨x.toNat, List.mem_range.mpr (by omega), by omega⟩
theorem allOf_nodup (n : Int) : (allOf n).Nodup := by
  unfold allOf
  refine List.pairwise_map.mpr ((List.nodup_range (n := n.toNat)).imp ?_)
  intro a b h e
  omega
theorem allOf_len (n : Int) : (allOf n).length = n.toNat := by unfold allOf; simp
theorem rgD_all {n : Int} : rgD 0 n.toNat = (allOf n).map .int := by
  unfold rgD allOf
  rw [List.map_map]
  apply List.map_congr_left
  intro i _
  show D.int (0 + (i : Int)) = D.int (i : Int)
  rw [Int.zero_add]
structure BookOk (n : Int) (ps : List (Int × Int)) : Prop where
  lo : 1 ≤ n
  hi : n ≤ 8
  pr : PrsOk n ps
  hang : HangsP ps (allOf n)
theorem bne : (¬ ("kept_size" : Str) = "kept_ties") ∧ (¬ ("kept_size" : Str) = "kept_facts") ∧ (¬ ("kept_ties" : Str) = "kept_facts") := by decide +kernel
theorem fb_facts (n : Int) (ps : List (Int × Int)) (d : Addr) : (bookF n ps d).lookup ("kept_facts" : Str) = some (.ref d) := rfl
structure BookAt (C : Addr) (M : Mp) (p : Addr) (n : Int) (ps : List (Int × Int)) (d : Addr) : Prop where
  ob : M p = some (.ins C (bookF n ps d))
  fc : M d = some (.dK [(.inr "tied", .lst (rowsD n ps))])
  ok : BookOk n ps
theorem BookAt.ne {C : Addr} {M : Mp} {p : Addr} {n : Int} {ps : List (Int × Int)} {d : Addr} (h : BookAt C M p n ps d) : p ≠ d := fun e => by
  have := h.ob
  rw [e, h.fc] at this
  cases this
theorem BookAt.keep {C : Addr} {M M' : Mp} {S : List Addr} {p : Addr} {n : Int} {ps : List (Int × Int)} {d : Addr} (h : BookAt C M p n ps d) (a : Agree M M' S) (hp : p ∉ S) (hd : d ∉ S) : BookAt C M' p n ps d :=
  ⟨by rw [a p hp]; exact h.ob, by rw [a d hd]; exact h.fc, h.ok⟩
theorem BookAt.ext {C : Addr} {M M' : Mp} {S : List Addr} {p : Addr} {n : Int} {ps : List (Int × Int)} {d : Addr} (h : BookAt C M p n ps d) (a : Ext M M' S) (hp : p ∉ S) (hd : d ∉ S) : BookAt C M' p n ps d :=
  ⟨a _ _ hp h.ob, a _ _ hd h.fc, h.ok⟩
/-- pairs of at most eight -/
def prs8 : List (Int × Int) := (List.range 8).flatMap fun (b : Nat) => (List.range b).map fun (a : Nat) => ((a : Int), (b : Int))
theorem nodup_lenG {α : Type} [BEq α] [LawfulBEq α] : ∀ {l m : List α}, l.Nodup → (∀ x, x ∈ l → x ∈ m) → l.length ≤ m.length
  | [], _, _, _ => Nat.zero_le _
  | a :: l, m, nd, h => by
    rw [List.nodup_cons] at nd
    have ha : a ∈ m := h a List.mem_cons_self
    have := nodup_lenG (l := l) (m := m.erase a) nd.2 fun x hx => (List.mem_erase_of_ne fun e => nd.1 (by rw [← e]; exact hx)).mpr (h x (List.mem_cons_of_mem _ hx))
    have e := List.length_erase_of_mem ha
    have p := List.length_pos_of_mem ha
    rw [List.length_cons]; omega
theorem PrsOk.nodup {n : Int} {ps : List (Int × Int)} (h : PrsOk n ps) : ps.Nodup := h.lt.imp fun {a b} h e => by
  subst e
  unfold prLt at h
  omega
theorem PrsOk.len28 {n : Int} {ps : List (Int × Int)} (h : PrsOk n ps) (hn : n ≤ 8) : ps.length ≤ 28 := by
  have := nodup_lenG (l := ps) (m := prs8) h.nodup fun p hp => by
    obtain ⟨a, b⟩ := p
    have := h.ok _ hp
    unfold prOk at this
    simp only at this
    unfold prs8
    rw [List.mem_flatMap]
    have ea : (a.toNat : Int) = a := Int.toNat_of_nonneg (by omega)
    have eb : (b.toNat : Int) = b := Int.toNat_of_nonneg (by omega)
    exact ⟨b.toNat, List.mem_range.mpr (by omega), List.mem_map.mpr ⟨a.toNat, List.mem_range.mpr (by omega), by rw [ea, eb]⟩⟩
  have e : prs8.length = 28 := by decide +kernel
  omega
theorem nbr_nodup {n : Int} {i : Int} : ∀ {ps : List (Int × Int)}, PrsOk n ps → (nbr ps i).Nodup
  | [], _ => List.nodup_nil
  | p :: ps, h => by
    have hl := h.lt
    rw [List.pairwise_cons] at hl
    have ok := h.ok p List.mem_cons_self
    have ht : PrsOk n ps := ⟨fun q hq => h.ok q (List.mem_cons_of_mem _ hq), hl.2⟩
    have e : nbr (p :: ps) i = ((if p.1 = i then [p.2] else []) ++ (if p.2 = i then [p.1] else [])) ++ nbr ps i := by unfold nbr; rw [List.flatMap_cons]
    rw [e, List.nodup_append]
    have no : ∀ q, q ∈ ps → q ≠ p := fun q hq e2 => by
      have := hl.1 q hq
      subst e2
      unfold prLt at this
      omega
    unfold prOk at ok
    refine ⟨?_, nbr_nodup ht, fun a ha b hb e2 => ?_⟩
    · by_cases h1 : p.1 = i <;> by_cases h2 : p.2 = i <;> simp [h1, h2]
      omega
    · subst e2
      have hb2 := nbr_mem.mp hb
      rcases List.mem_append.mp ha with ha | ha
      · by_cases h1 : p.1 = i
        · rw [if_pos h1, List.mem_singleton] at ha
          subst ha
          rcases hb2 with z | z
          · exact no _ z (Prod.ext h1.symm rfl)
          · have := ht.ok _ z
            unfold prOk at this
            simp only at this
            omega
        · rw [if_neg h1] at ha; cases ha
      · by_cases h1 : p.2 = i
        · rw [if_pos h1, List.mem_singleton] at ha
          subst ha
          rcases hb2 with z | z
          · have := ht.ok _ z
            unfold prOk at this
            simp only at this
            omega
          · exact no _ z (Prod.ext rfl h1.symm)
        · rw [if_neg h1] at ha; cases ha

theorem Rch.more {ps qs : List (Int × Int)} {S : List Int} {s x : Int} (h : ∀ x y, y ∈ nbr ps x → y ∈ nbr qs x) : Rch ps S s x → Rch qs S s x := by
  rintro ⟨t, ht⟩
  induction t generalizing x with
  | zero => exact ⟨0, ht⟩
  | succ t ih =>
    obtain ⟨z, h1, h2, h3⟩ := ht
    exact (ih h1).step (h _ _ h2) h3
/-- pairs of a book under way -/
structure BSt (M : Mp) (p : Addr) (n s : Int) (R : Int → Prop) (b : Nat) (M' : Mp) (l : Addr) (qs : List (Int × Int)) : Prop where
  dice : DiceAt M' p
  ext : Ext M M' [p]
  fr : M l = none
  lst : M' l = some (.lst (qs.map prD))
  ok : ∀ q ∈ qs, (0 ≤ q.1 ∧ q.1 < n) ∧ (0 ≤ q.2 ∧ q.2 < n) ∧ q.1 ≠ q.2
  len : qs.length ≤ b
  rch : ∀ x, R x → Rch qs (allOf n) s x
section
variable {M : Mp} {p : Addr} {n s : Int} {R R' : Int → Prop} {b b' : Nat} {M' M2 : Mp} {l l' : Addr} {qs ms : List (Int × Int)}
theorem BSt.ne (W : BSt M p n s R b M' l qs) : l ≠ p := W.dice.ne W.lst
theorem BSt.to (W : BSt M p n s R b M' l qs) (d : DiceAt M2 p) (a : Agree M' M2 [p]) : BSt M p n s R b M2 l qs :=
  ⟨d, W.ext.trans a.ext, W.fr, by rw [a l (by simpa using W.ne)]; exact W.lst, W.ok, W.len, W.rch⟩
theorem BSt.weak (W : BSt M p n s R b M' l qs) (h : b ≤ b') : BSt M p n s R b' M' l qs := ⟨W.dice, W.ext, W.fr, W.lst, W.ok, Nat.le_trans W.len h, W.rch⟩
/-- min and max of each, strictly ascending: a book's ties -/
theorem BSt.book {rs : List (Int × Int)} (n0 : 1 ≤ n) (n8 : n ≤ 8) (W : BSt M p n s (fun x => 0 ≤ x ∧ x < n) b M' l qs) (hs : 0 ≤ s ∧ s < n) (pw : rs.Pairwise prLt) (mem : ∀ r, r ∈ rs ↔ r ∈ qs.map fun q => (if q.2 < q.1 then q.2 else q.1, if q.1 < q.2 then q.2 else q.1)) : BookOk n rs := by
  have nb : ∀ x y, y ∈ nbr qs x → y ∈ nbr rs x := fun x y h => by
    rw [nbr_mem] at h ⊢
    have key : ∀ a b, (a, b) ∈ qs → (a, b) ∈ rs ∨ (b, a) ∈ rs := fun a b hab => by
      have z := (mem _).mpr (List.mem_map.mpr ⟨_, hab, rfl⟩)
      have o := W.ok _ hab
      simp only at z o
      by_cases e : a < b
      · rw [if_neg (by omega), if_pos e] at z; exact .inl z
      · rw [if_pos (by omega), if_neg e] at z; exact .inr z
    rcases h with h | h
    · exact key _ _ h
    · exact (key _ _ h).symm
  refine ⟨n0, n8, ⟨fun r hr => ?_, pw⟩, ?_⟩
  · obtain ⟨q, hq, rfl⟩ := List.mem_map.mp ((mem r).mp hr)
    have o := W.ok q hq
    unfold prOk
    simp only
    by_cases e : q.1 < q.2
    · rw [if_neg (by omega), if_pos e]; omega
    · rw [if_pos (by omega), if_neg e]; omega
  · refine (hangs_from (s := s) (allOf_mem.mpr hs)).mpr fun x hx => ?_
    exact (W.rch x (allOf_mem.mp hx)).more nb
end

/-! ### the dice as a list -/
def dilL (ns : List Int) (a r m c : Int) : List D := [.lst (ns.map .int), .int a, .int r, .int m, .int c]
structure DiL (M : Mp) (p : Addr) : Prop where
  ex : ∃ (ns : List Int) (a r m c : Int), M p = some (.lst (dilL ns a r m c)) ∧ 0 ≤ a ∧ 0 ≤ r
theorem DiL.keep {M M' : Mp} {S : List Addr} {p : Addr} (h : DiL M p) (a : Agree M M' S) (hp : p ∉ S) : DiL M' p := ⟨by rw [a p hp]; exact h.ex⟩
theorem DiL.ext {M M' : Mp} {S : List Addr} {p : Addr} (h : DiL M p) (a : Ext M M' S) (hp : p ∉ S) : DiL M' p := by
  obtain ⟨ns, a', r, m, c, h1, h2⟩ := h.ex
  exact ⟨ns, a', r, m, c, a _ _ hp h1, h2⟩
theorem DiL.some {M : Mp} {p l : Addr} (h : DiL M p) (hl : M l = none) : l ≠ p := fun e => by
  obtain ⟨ns, a, r, m, c, hp, _⟩ := h.ex
  rw [e, hp] at hl; cases hl
theorem DiL.mset {M : Mp} {p l : Addr} {o : MO} (h : DiL M p) (hl : l ≠ p) : DiL (DL.mset M l o) p := ⟨by rw [mset_ne (Ne.symm hl)]; exact h.ex⟩
theorem DiL.mdel {M : Mp} {p l : Addr} (h : DiL M p) (hl : l ≠ p) : DiL (DL.mdel M l) p := ⟨by rw [mdel_ne (Ne.symm hl)]; exact h.ex⟩
section
variable {M : Mp} {p : Addr} {ns : List Int} {a r m c x : Int} (h : M p = some (.lst (dilL ns a r m c)))
include h
theorem il0 : dIxV M (.ref p) (.int 0) = some (.lst (ns.map .int)) := by simp only [dIxV, h]; rfl
theorem il1 : dIxV M (.ref p) (.int 1) = some (.int a) := by simp only [dIxV, h]; rfl
theorem il2 : dIxV M (.ref p) (.int 2) = some (.int r) := by simp only [dIxV, h]; rfl
theorem il3 : dIxV M (.ref p) (.int 3) = some (.int m) := by simp only [dIxV, h]; rfl
theorem il4 : dIxV M (.ref p) (.int 4) = some (.int c) := by simp only [dIxV, h]; rfl
theorem sl1 : dStore M p (.int 1) (.int x) = some (mset M p (.lst (dilL ns x r m c))) := by simp only [dStore, h]; rfl
theorem sl2 : dStore M p (.int 2) (.int x) = some (mset M p (.lst (dilL ns a x m c))) := by simp only [dStore, h]; rfl
theorem sl3 : dStore M p (.int 3) (.int x) = some (mset M p (.lst (dilL ns a r x c))) := by simp only [dStore, h]; rfl
theorem sl4 : dStore M p (.int 4) (.int x) = some (mset M p (.lst (dilL ns a r m x))) := by simp only [dStore, h]; rfl
end

/-- a dict of right pairs under way -/
structure PSt (M : Mp) (p : Addr) (n : Int) (b : Nat) (M' : Mp) (d : Addr) (ks : List (Int × Int)) : Prop where
  dice : DiL M' p
  ext : Ext M M' [p]
  at_ : M' d = some (.dT (ks.map kvP))
  fr : M d = none
  ne : d ≠ p
  nd : ks.Nodup
  ok : ∀ q ∈ ks, prOk n q
  len : ks.length ≤ b
theorem PSt.to {M : Mp} {p : Addr} {n : Int} {b : Nat} {M' M2 : Mp} {d : Addr} {ks : List (Int × Int)} (W : PSt M p n b M' d ks) (h : DiL M2 p) (a : Agree M' M2 [p]) : PSt M p n b M2 d ks :=
  ⟨h, W.ext.trans a.ext, (a d (by simpa using W.ne)).trans W.at_, W.fr, W.ne, W.nd, W.ok, W.len⟩
theorem PSt.weak {M : Mp} {p : Addr} {n : Int} {b c : Nat} {M' : Mp} {d : Addr} {ks : List (Int × Int)} (W : PSt M p n b M' d ks) (h : b ≤ c) : PSt M p n c M' d ks :=
  ⟨W.dice, W.ext, W.at_, W.fr, W.ne, W.nd, W.ok, Nat.le_trans W.len h⟩
theorem PSt.put {M : Mp} {p : Addr} {n : Int} {b : Nat} {M' : Mp} {d : Addr} {ks : List (Int × Int)} (W : PSt M p n b M' d ks) {x y : Int} (h : prOk n (x, y)) (hb : b ≤ 1000000) : ∃ M2 ks2, dStore M' d (.tup [.int x, .int y]) (.bl true) = some M2 ∧ PSt M p n (b + 1) M2 d ks2 := by
  have wl := W.len
  refine ⟨mset M' d (.dT ((if (x, y) ∈ ks then ks else ks ++ [(x, y)]).map kvP)), if (x, y) ∈ ks then ks else ks ++ [(x, y)], ?_, W.dice.mset W.ne, W.ext.mset W.fr, mset_same, W.fr, W.ne, ?_, fun q hq => ?_, ?_⟩
  · have e := dput_kvP (ks := ks) (p := (x, y))
    simp only [dStore, W.at_, keysOf, keyOf, Option.bind_some]
    rw [if_pos (by rw [List.length_map]; exact len_lt (by omega))]
    exact congrArg (fun z => some (mset M' d (.dT z))) e
  · by_cases hk : (x, y) ∈ ks
    · rw [if_pos hk]; exact W.nd
    · rw [if_neg hk, List.nodup_append]
      exact ⟨W.nd, by simp, fun a ha b hb => by
        rw [List.mem_singleton.mp hb]
        exact fun z => hk (z ▸ ha)⟩
  · by_cases hk : (x, y) ∈ ks
    · rw [if_pos hk] at hq; exact W.ok q hq
    · rw [if_neg hk] at hq
      rcases List.mem_append.mp hq with z | z
      · exact W.ok q z
      · rw [List.mem_singleton.mp z]; exact h
  · by_cases hk : (x, y) ∈ ks
    · rw [if_pos hk]; omega
    · rw [if_neg hk, List.length_append]; simp; omega

def rowsL (n : Int) (ps : List (Int × Int)) : List D := (rowsOf n ps).map fun r => .lst (r.map .int)
theorem Wk.monoP {ps qs : List (Int × Int)} {S : List Int} {s : Int} (h : ∀ p ∈ ps, p ∈ qs) : ∀ {t : Nat} {x : Int}, Wk ps S s t x → Wk qs S s t x
  | 0, _, e => e
  | t + 1, y, ⟨x, h1, h2, h3⟩ => ⟨x, Wk.monoP h h1, by
    rcases nbr_mem.mp h2 with z | z
    · exact nbr_mem.mpr (.inl (h _ z))
    · exact nbr_mem.mpr (.inr (h _ z)), h3⟩
theorem Rch.monoP {ps qs : List (Int × Int)} {S : List Int} {s x : Int} (h : ∀ p ∈ ps, p ∈ qs) (r : Rch ps S s x) : Rch qs S s x := let ⟨t, w⟩ := r; ⟨t, w.monoP h⟩
/-- a tree under way -/
structure Tre (m : Int) (ks : List Int) (fs : List (Int × Int)) : Prop where
  nd : ks.Nodup
  rg : ∀ x ∈ ks, 0 ≤ x ∧ x < m
  k0 : (0 : Int) ∈ ks
  fk : ∀ q ∈ fs, q.1 ∈ ks ∧ q.2 ∈ ks
  ok : ∀ q ∈ fs, prOk m q
  fnd : fs.Nodup
  rc : ∀ x ∈ ks, Rch fs (allOf m) 0 x
theorem Tre.start {m : Int} (h : 1 ≤ m) : Tre m [0] [] := ⟨by simp, fun x hx => by rw [List.mem_singleton.mp hx]; omega, by simp, fun _ h => (by cases h), fun _ h => (by cases h), List.nodup_nil, fun x hx => by rw [List.mem_singleton.mp hx]; exact .refl⟩
theorem Tre.book {m : Int} {ks : List Int} {fs qs : List (Int × Int)} (T : Tre m ks fs) (m1 : 1 ≤ m) (m8 : m ≤ 8) (h : (ks.length : Int) = m) (ok : PrsOk m qs) (sub : ∀ p ∈ fs, p ∈ qs) : BookOk m qs := by
  have all := nodup_eq T.nd (m := allOf m) (fun x hx => allOf_mem.mpr (T.rg x hx)) (by rw [allOf_len]; omega)
  refine ⟨m1, m8, ok, (hangs_from (s := 0) (allOf_mem.mpr ⟨by omega, by omega⟩)).mpr fun x hx => (T.rc x (all x hx)).monoP sub⟩

theorem srt_lt {ns : List Int} (nd : ns.Nodup) : (srt ns).Pairwise (· < ·) := by
  have h1 := srt_pw ns
  have h2 : (srt ns).Nodup := nodup_perm (srt_perm ns) nd
  refine (h1.and h2).imp ?_
  rintro a b ⟨h, h'⟩
  have : a ≠ b := h'
  omega

structure TSt (M : Mp) (p : Addr) (m : Int) (k : Nat) (M' : Mp) (fa kn : Addr) (ks : List Int) (fs : List (Int × Int)) : Prop where
  dice : DiL M' p
  ext : Ext M M' [p]
  ffa : M' fa = some (.lst (fs.map prD))
  fkn : M' kn = some (.lst (ks.map .int))
  ne : fa ≠ kn
  nfp : fa ≠ p
  nkp : kn ≠ p
  mfa : M fa = none
  mkn : M kn = none
  T : Tre m ks fs
  kl : ks.length = k + 1
  fl : fs.length = k
theorem TSt.to {M : Mp} {p : Addr} {m : Int} {k : Nat} {M' M2 : Mp} {fa kn : Addr} {ks : List Int} {fs : List (Int × Int)} (W : TSt M p m k M' fa kn ks fs) (h : DiL M2 p) (a : Agree M' M2 [p]) : TSt M p m k M2 fa kn ks fs :=
  ⟨h, W.ext.trans a.ext, (a fa (by simpa using W.nfp)).trans W.ffa, (a kn (by simpa using W.nkp)).trans W.fkn, W.ne, W.nfp, W.nkp, W.mfa, W.mkn, W.T, W.kl, W.fl⟩
theorem perm_mapD {α : Type} {f : α → D} {ms : List D} : ∀ {l : List α}, ms.Perm (l.map f) → ∃ k : List α, ms = k.map f ∧ k.Perm l := by
  intro l h
  generalize e : l.map f = ns at h
  induction h generalizing l with
  | nil => exact ⟨[], rfl, by rw [List.map_eq_nil_iff.mp e]⟩
  | cons x _ ih =>
    cases l with
    | nil => simp at e
    | cons a l =>
      rw [List.map_cons] at e
      injection e with e1 e2
      obtain ⟨k, rfl, hk⟩ := ih e2
      exact ⟨a :: k, by rw [List.map_cons, e1], hk.cons a⟩
  | swap x y r =>
    match l, e with
    | a :: b :: l, e =>
      rw [List.map_cons, List.map_cons] at e
      injection e with e1 e2
      injection e2 with e2 e3
      exact ⟨b :: a :: l, by rw [List.map_cons, List.map_cons, e1, e2, e3], List.Perm.swap a b l⟩
  | trans _ _ ih1 ih2 =>
    obtain ⟨k2, rfl, h2⟩ := ih2 e
    obtain ⟨k1, rfl, h1⟩ := ih1 rfl
    exact ⟨k1, rfl, h1.trans h2⟩
theorem rgL_all {n : Int} : rgL 0 n = (allOf n).map .int := by
  unfold rgL allOf
  rw [show n - 0 = n by omega, List.map_map, List.map_map]
  exact List.map_congr_left fun i _ => by simp only [Function.comp, Int.zero_add]
/-- every content but 0 is tied to a lesser one -/
def TrT (j : Int) (ks : List (Int × Int)) : Prop := ∀ s, 1 ≤ s → s < j → ∃ r, 0 ≤ r ∧ r < s ∧ (r, s) ∈ ks
theorem PSt.put2 {M : Mp} {p : Addr} {n : Int} {b : Nat} {M' : Mp} {d : Addr} {ks : List (Int × Int)} (W : PSt M p n b M' d ks) {x y : Int} (h : prOk n (x, y)) (hb : b ≤ 1000000) : ∃ M2 ks2, dStore M' d (.tup [.int x, .int y]) (.bl true) = some M2 ∧ PSt M p n (b + 1) M2 d ks2 ∧ (∀ q ∈ ks, q ∈ ks2) ∧ (x, y) ∈ ks2 := by
  have wl := W.len
  refine ⟨mset M' d (.dT ((if (x, y) ∈ ks then ks else ks ++ [(x, y)]).map kvP)), if (x, y) ∈ ks then ks else ks ++ [(x, y)], ?_, ⟨W.dice.mset W.ne, W.ext.mset W.fr, mset_same, W.fr, W.ne, ?_, fun q hq => ?_, ?_⟩, fun q hq => ?_, ?_⟩
  · have e := dput_kvP (ks := ks) (p := (x, y))
    simp only [dStore, W.at_, keysOf, keyOf, Option.bind_some]
    rw [if_pos (by rw [List.length_map]; exact len_lt (by omega))]
    exact congrArg (fun z => some (mset M' d (.dT z))) e
  · by_cases hk : (x, y) ∈ ks
    · rw [if_pos hk]; exact W.nd
    · rw [if_neg hk, List.nodup_append]
      exact ⟨W.nd, by simp, fun a ha b hb => by
        rw [List.mem_singleton.mp hb]
        exact fun z => hk (z ▸ ha)⟩
  · by_cases hk : (x, y) ∈ ks
    · rw [if_pos hk] at hq; exact W.ok q hq
    · rw [if_neg hk] at hq
      rcases List.mem_append.mp hq with z | z
      · exact W.ok q z
      · rw [List.mem_singleton.mp z]; exact h
  · by_cases hk : (x, y) ∈ ks
    · rw [if_pos hk]; omega
    · rw [if_neg hk, List.length_append]; simp; omega
  · by_cases hk : (x, y) ∈ ks
    · rw [if_pos hk]; exact hq
    · rw [if_neg hk]; exact List.mem_append_left _ hq
  · by_cases hk : (x, y) ∈ ks
    · rw [if_pos hk]; exact hk
    · rw [if_neg hk]; simp
/-- a pair told by other numbers -/
def renP (o : List Int) (q : Int × Int) : Int × Int := (if o.getD q.2.toNat 0 < o.getD q.1.toNat 0 then o.getD q.2.toNat 0 else o.getD q.1.toNat 0, if o.getD q.1.toNat 0 < o.getD q.2.toNat 0 then o.getD q.2.toNat 0 else o.getD q.1.toNat 0)
theorem ren_book {n : Int} {ks ps : List (Int × Int)} {o : List Int} (n1 : 1 ≤ n) (n8 : n ≤ 8) (nd : ks.Nodup) (ok : ∀ q ∈ ks, prOk n q) (tr : TrT n ks) (po : o.Perm (allOf n)) (hp : ps.Perm (ks.map (renP o))) (hs : SrtO.Srtd SrtO.lexB ps) : BookOk n ps := by
  have ol : o.length = n.toNat := by rw [po.length_eq, allOf_len]
  have ond : o.Nodup := po.nodup_iff.mpr (allOf_nodup n)
  have gt : ∀ x : Int, 0 ≤ x → x < n → o[x.toNat]? = some (o.getD x.toNat 0) := fun x h0 h1 => by
    rw [List.getD_eq_getElem?_getD, List.getElem?_eq_getElem (by omega)]; rfl
  have rg : ∀ x : Int, 0 ≤ x → x < n → 0 ≤ o.getD x.toNat 0 ∧ o.getD x.toNat 0 < n := fun x h0 h1 => allOf_mem.mp (po.mem_iff.mp (List.mem_of_getElem? (gt x h0 h1)))
  have inj : ∀ x y : Int, 0 ≤ x → x < n → 0 ≤ y → y < n → o.getD x.toNat 0 = o.getD y.toNat 0 → x = y := fun x y x0 x1 y0 y1 e => by
    have h1 := gt x x0 x1
    have h2 := gt y y0 y1
    rw [e] at h1
    have := (List.getElem?_inj (by omega) ond).mp (h1.trans h2.symm)
    omega
  have okm : ∀ q ∈ ks, prOk n (renP o q) := fun q hq => by
    obtain ⟨h0, h1, h2⟩ := ok q hq
    have r1 := rg q.1 h0 (by omega)
    have r2 := rg q.2 (by omega) h2
    have ne : o.getD q.1.toNat 0 ≠ o.getD q.2.toNat 0 := fun e => by
      have := inj q.1 q.2 h0 (by omega) (by omega) h2 e
      omega
    unfold prOk renP
    simp only
    split <;> split <;> omega
  have minj : ∀ a ∈ ks, ∀ b ∈ ks, renP o a = renP o b → a = b := fun a ha b hb e => by
    obtain ⟨a0, a1, a2⟩ := ok a ha
    obtain ⟨b0, b1, b2⟩ := ok b hb
    have e1 := congrArg Prod.fst e
    have e2 := congrArg Prod.snd e
    unfold renP at e1 e2
    simp only at e1 e2
    have i1 := inj a.1 b.1 a0 (by omega) b0 (by omega)
    have i2 := inj a.2 b.2 (by omega) a2 (by omega) b2
    have i3 := inj a.1 b.2 a0 (by omega) (by omega) b2
    have i4 := inj a.2 b.1 (by omega) a2 b0 (by omega)
    have : a.1 = b.1 ∧ a.2 = b.2 := by
      generalize o.getD a.1.toNat 0 = u1 at *
      generalize o.getD a.2.toNat 0 = u2 at *
      generalize o.getD b.1.toNat 0 = v1 at *
      generalize o.getD b.2.toNat 0 = v2 at *
      split at e1 <;> split at e1 <;> split at e2 <;> split at e2 <;> first
        | (exfalso; omega)
        | exact ⟨i1 (by omega), i2 (by omega)⟩
        | (have z1 := i3 (by omega); have z2 := i4 (by omega); omega)
    exact Prod.ext this.1 this.2
  have mnd : (ks.map (renP o)).Nodup := by
    refine List.pairwise_map.mpr (List.Pairwise.imp_of_mem ?_ nd)
    intro a b ha hb hab e
    exact hab (minj a ha b hb e)
  have pnd : ps.Nodup := hp.nodup_iff.mpr mnd
  refine ⟨n1, n8, ⟨fun q hq => ?_, srtd_lt hs pnd⟩, ?_⟩
  · obtain ⟨k, hk, rfl⟩ := List.mem_map.mp (hp.mem_iff.mp hq)
    exact okm k hk
  · have z0 : o.getD (0 : Int).toNat 0 ∈ allOf n := allOf_mem.mpr (rg 0 (by omega) (by omega))
    refine (hangs_from z0).mpr fun x hx => ?_
    obtain ⟨i, hi⟩ := List.mem_iff_getElem?.mp (po.mem_iff.mpr hx)
    have il := (List.getElem?_eq_some_iff.mp hi).1
    have key : ∀ (m : Nat) (c : Int), c.toNat ≤ m → 0 ≤ c → c < n → Rch ps (allOf n) (o.getD (0 : Int).toNat 0) (o.getD c.toNat 0) := fun m => by
      induction m with
      | zero =>
        intro c hc c0 c1
        have : c = 0 := by omega
        rw [this]; exact .refl
      | succ m ih =>
        intro c hc c0 c1
        by_cases z : c = 0
        · rw [z]; exact .refl
        · obtain ⟨r, r0, r1, hr⟩ := tr c (by omega) c1
          have h1 := ih r (by omega) r0 (by omega)
          have hm : renP o (r, c) ∈ ps := hp.mem_iff.mpr (List.mem_map.mpr ⟨_, hr, rfl⟩)
          refine h1.step (nbr_mem.mpr ?_) (allOf_mem.mpr (rg c c0 c1))
          have ne : o.getD r.toNat 0 ≠ o.getD c.toNat 0 := fun e => by
            have := inj r c r0 (by omega) c0 c1 e
            omega
          unfold renP at hm
          simp only at hm
          by_cases lt : o.getD r.toNat 0 < o.getD c.toNat 0
          · rw [if_neg (by omega), if_pos lt] at hm; exact .inl hm
          · rw [if_pos (by omega), if_neg lt] at hm; exact .inr hm
    have := key i (i : Int) (by omega) (by omega) (by omega)
    rw [show ((i : Nat) : Int).toNat = i by omega, List.getD_eq_getElem?_getD (i := i), hi] at this
    exact this

/-! ### drawings -/
/-- the sign of a tie, either way round -/
def sgnOf (ps : List (Int × Int)) (sg : List Int) (a b : Int) : Int := sg.getD (ps.findIdx fun q => decide (q = (if b < a then b else a, if a < b then b else a))) 0
/-- a drawing's turnings and signs -/
structure Drw (n : Int) (ps : List (Int × Int)) (tn : List (List Int)) (sg : List Int) : Prop where
  tl : (tn.length : Int) = n
  tp : ∀ (i : Nat) (r : List Int), tn[i]? = some r → r.Perm (nbr ps (i : Int))
  sl : sg.length = ps.length
  sv : ∀ x ∈ sg, x = 1 ∨ x = -1
theorem nbr_comm {ps : List (Int × Int)} {a b : Int} : a ∈ nbr ps b ↔ b ∈ nbr ps a := by rw [nbr_mem, nbr_mem]; exact Or.comm
theorem tie_mem {n : Int} {ps : List (Int × Int)} (ok : PrsOk n ps) {a b : Int} (h : a ∈ nbr ps b) : ((if b < a then b else a), (if a < b then b else a)) ∈ ps := by
  rcases nbr_mem.mp h with z | z
  · have := ok.ok _ z
    unfold prOk at this
    simp only at this
    rw [if_pos (by omega), if_neg (by omega)]; exact z
  · have := ok.ok _ z
    unfold prOk at this
    simp only at this
    rw [if_neg (by omega), if_pos (by omega)]; exact z
theorem sgn_at {ps : List (Int × Int)} {sg : List Int} {a b : Int} (hl : sg.length = ps.length) (h : ((if b < a then b else a), (if a < b then b else a)) ∈ ps) : ∃ k, k < ps.length ∧ ps[k]? = some ((if b < a then b else a), (if a < b then b else a)) ∧ (∀ (m : Nat) q, m < k → ps[m]? = some q → q ≠ ((if b < a then b else a), (if a < b then b else a))) ∧ sg[k]? = some (sgnOf ps sg a b) := by
  unfold sgnOf
  generalize ((if b < a then b else a), (if a < b then b else a)) = p at *
  have lk : (ps.findIdx fun q => decide (q = p)) < ps.length := List.findIdx_lt_length_of_exists ⟨p, h, by simp⟩
  refine ⟨_, lk, ?_, fun m q hm hq e => ?_, ?_⟩
  · have := List.findIdx_getElem (w := lk)
    rw [List.getElem?_eq_getElem lk]
    exact congrArg some (by simpa using this)
  · have := List.not_of_lt_findIdx hm
    obtain ⟨h1, h2⟩ := List.getElem?_eq_some_iff.mp hq
    rw [h2] at this
    simp [e] at this
  · rw [List.getD_eq_getElem?_getD, List.getElem?_eq_getElem (by omega)]; rfl
theorem idx_at {r : List Int} {x : Int} (h : x ∈ r) : ∃ k, k < r.length ∧ r[k]? = some x ∧ (∀ (m : Nat) y, m < k → r[m]? = some y → y ≠ x) ∧ r.idxOf x = k := by
  have lk := List.idxOf_lt_length_of_mem h
  refine ⟨_, lk, ?_, fun m y hm hy e => ?_, rfl⟩
  · rw [List.getElem?_eq_getElem lk, List.getElem_idxOf]
  · have := List.not_of_lt_findIdx (p := (· == x)) hm
    obtain ⟨h1, h2⟩ := List.getElem?_eq_some_iff.mp hy
    rw [h2] at this
    simp [e] at this
theorem Drw.row {n : Int} {ps : List (Int × Int)} {tn : List (List Int)} {sg : List Int} (R : Drw n ps tn sg) {b : Int} (b0 : 0 ≤ b) (b1 : b < n) : ∃ r, tn[b.toNat]? = some r ∧ r.Perm (nbr ps b) := by
  have := R.tl
  have h : tn[b.toNat]? = some tn[b.toNat] := List.getElem?_eq_getElem (by omega)
  refine ⟨_, h, ?_⟩
  have := R.tp _ _ h
  rwa [Int.toNat_of_nonneg b0] at this
theorem eq_prD_self (p : Int × Int) : (prD p).eq (prD p) = true := by
  simp only [prD, D.eq_tup, D.eqL_cons, D.eqL_nil, D.eq_int, beq_self_eq_true, Bool.and_self]
theorem eq_prD_ne {p q : Int × Int} (h : p ≠ q) : (prD p).eq (prD q) = false := by
  simp only [prD, D.eq_tup, D.eqL_cons, D.eqL_nil, D.eq_int, Bool.and_true]
  rw [Bool.and_eq_false_iff]
  by_cases e : p.1 = q.1
  · right
    simp
    intro e2
    exact h (Prod.ext e e2)
  · left; simpa using e
def krD (r : List Int) : D := .kt (r.map .int)
theorem ok_kr (r : List Int) : (krD r).ok 60 = true := okL_int r 59
theorem any_intS (x : Int) : ∀ ns : List Int, ((ns.map D.int).any fun y => y.eq (D.int x)) = decide (x ∈ ns)
  | [] => by simp
  | y :: ns => by
    rw [List.map_cons, List.any_cons, any_intS x ns, D.eq_int]
    by_cases h : x = y
    · simp [h]
    · simp [h, Ne.symm h, fun z : y = x => h z.symm]
theorem in_tupI {M : Mp} {ns : List Int} {x : Int} : inV' M (.int x) (.tup (ns.map .int)) = some (decide (x ∈ ns)) := by
  simp only [inV', ok_int, D.ok, okL_int, and_self, if_true, any_intS]
theorem rowsL_at {n : Int} {ps : List (Int × Int)} {i : Nat} {d : D} (h : (rowsL n ps)[i]? = some d) : d = .lst ((srt (nbr ps (i : Int))).map .int) := by
  unfold rowsL rowsOf at h
  rw [List.getElem?_map, List.getElem?_map, Option.map_eq_some_iff] at h
  obtain ⟨r, h1, h2⟩ := h
  rw [Option.map_eq_some_iff] at h1
  obtain ⟨j, h3, h4⟩ := h1
  rw [List.getElem?_eq_some_iff] at h3
  obtain ⟨_, h3⟩ := h3
  rw [List.getElem_range] at h3
  rw [← h2, ← h4, ← h3]
theorem zip_kr {tn : List (List Int)} {n : Int} {ps : List (Int × Int)} {i : Nat} {e : D} (h : (zipD (tn.map krD) (rowsD n ps))[i]? = some e) : ∃ r, tn[i]? = some r ∧ e = .tup [krD r, .tup ((srt (nbr ps (i : Int))).map .int)] := by
  unfold zipD rowsD rowsOf at h
  rw [List.getElem?_map, Option.map_eq_some_iff] at h
  obtain ⟨⟨a, b⟩, h1, h2⟩ := h
  rw [List.getElem?_zip_eq_some] at h1
  obtain ⟨h3, h4⟩ := h1
  rw [List.getElem?_map, Option.map_eq_some_iff] at h3
  obtain ⟨r, hr, h3⟩ := h3
  rw [List.getElem?_map, List.getElem?_map, Option.map_eq_some_iff] at h4
  obtain ⟨l, h5, h4⟩ := h4
  rw [Option.map_eq_some_iff] at h5
  obtain ⟨j, h6, h5⟩ := h5
  have h7 : j = i := by
    rw [List.getElem?_eq_some_iff] at h6
    obtain ⟨_, h6⟩ := h6
    rw [List.getElem_range] at h6
    exact h6.symm
  refine ⟨r, hr, ?_⟩
  rw [← h2, ← h3, ← h4, ← h5, h7]
def drwD (tn : List (List Int)) (sg : List Int) : D := .tup [.tup (tn.map krD), .tup (sg.map .int)]
theorem get_kr {tn : List (List Int)} {i : Nat} {d : D} (h : (tn.map krD)[i]? = some d) : ∃ r, tn[i]? = some r ∧ d = krD r := by
  rw [List.getElem?_map] at h
  obtain ⟨r, h1, h2⟩ := Option.map_eq_some_iff.mp h
  exact ⟨r, h1, h2.symm⟩

theorem keysL_prs : ∀ ps : List (Int × Int), keysL (ps.map prD) = some (ps.map fun q => [.inl q.1, .inl q.2])
  | [] => rfl
  | q :: ps => by
    have := keysL_prs ps
    show (match keysOf [.int q.1, .int q.2], keysL (ps.map prD) with
      | some a, some b => some (a :: b)
      | _, _ => none) = _
    rw [this]
    rfl

/-- a step: from a content to one tied to it, with a turn -/
structure StpP (n : Int) (ps : List (Int × Int)) (s : Stp) : Prop where
  a0 : 0 ≤ s.1 ∧ s.1 < n
  b0 : 0 ≤ s.2.1 ∧ s.2.1 < n
  nb : s.1 ∈ nbr ps s.2.1
  t : s.2.2 = 1 ∨ s.2.2 = -1
/-- the step behind a step -/
def behS (ps : List (Int × Int)) (tn : List (List Int)) (sg : List Int) (s : Stp) : Stp :=
  (s.2.1, (tn.getD s.2.1.toNat []).getD (((((tn.getD s.2.1.toNat []).idxOf s.1 : Nat) : Int) + s.2.2 * sgnOf ps sg s.1 s.2.1) % ((tn.getD s.2.1.toNat []).length : Int)).toNat 0, s.2.2 * sgnOf ps sg s.1 s.2.1)

abbrev kvS (ps : List (Int × Int)) (tn : List (List Int)) (sg : List Int) : Stp → List Key × D := fun s => ([.inl s.1, .inl s.2.1, .inl s.2.2], stpD (behS ps tn sg s))

theorem keyS_inj {s u : Stp} : ([.inl s.1, .inl s.2.1, .inl s.2.2] : List Key) = [.inl u.1, .inl u.2.1, .inl u.2.2] ↔ s = u := by
  constructor
  · intro h
    injection h with h1 h2
    injection h2 with h2 h3
    injection h3 with h3 _
    injection h1 with h1
    injection h2 with h2
    injection h3 with h3
    exact Prod.ext h1 (Prod.ext h2 h3)
  · rintro rfl; rfl
theorem dval_fS {f : Stp → D} {ks : List Stp} {s : Stp} : dval (ks.map fun s => (([.inl s.1, .inl s.2.1, .inl s.2.2] : List Key), f s)) [.inl s.1, .inl s.2.1, .inl s.2.2] = if s ∈ ks then some (f s) else none := by
  induction ks with
  | nil => rfl
  | cons q ks ih =>
    rw [List.map_cons, dval_cons, ih]
    by_cases e : q = s
    · subst e; simp
    · rw [if_neg (fun z => e (keyS_inj.mp z))]
      have e2 : ¬ s = q := fun z => e z.symm
      simp [e2]
theorem dput_fS {f : Stp → D} {ks : List Stp} {s : Stp} : dput (ks.map fun s => (([.inl s.1, .inl s.2.1, .inl s.2.2] : List Key), f s)) [.inl s.1, .inl s.2.1, .inl s.2.2] (f s) = (if s ∈ ks then ks else ks ++ [s]).map fun s => (([.inl s.1, .inl s.2.1, .inl s.2.2] : List Key), f s) := by
  unfold dput
  rw [dval_fS]
  by_cases h : s ∈ ks
  · simp only [if_pos h, Option.isSome_some, if_true]
    rw [List.map_map]
    apply List.map_congr_left
    intro q hq
    show (if ([.inl q.1, .inl q.2.1, .inl q.2.2] : List Key) = _ then (([.inl q.1, .inl q.2.1, .inl q.2.2] : List Key), f s) else _) = _
    split
    · rename_i e; rw [keyS_inj.mp e]
    · rfl
  · simp only [if_neg h, Option.isSome_none, Bool.false_eq_true, if_false]
    rw [List.map_append]; rfl
def insS (ks : List Stp) (s : Stp) : List Stp := if s ∈ ks then ks else ks ++ [s]
theorem insS_mem {ks : List Stp} {s u : Stp} : u ∈ insS ks s ↔ u ∈ ks ∨ u = s := by
  unfold insS
  by_cases h : s ∈ ks
  · rw [if_pos h]
    constructor
    · exact .inl
    · rintro (z | rfl)
      · exact z
      · exact h
  · rw [if_neg h, List.mem_append, List.mem_singleton]
theorem insS_nd {ks : List Stp} {s : Stp} (h : ks.Nodup) : (insS ks s).Nodup := by
  unfold insS
  by_cases hk : s ∈ ks
  · rw [if_pos hk]; exact h
  · rw [if_neg hk, List.nodup_append]
    exact ⟨h, by simp, fun a ha b hb => by
      rw [List.mem_singleton.mp hb]
      exact fun z => hk (z ▸ ha)⟩
theorem insS_len {ks : List Stp} {s : Stp} : (insS ks s).length ≤ ks.length + 1 := by
  unfold insS
  split
  · omega
  · rw [List.length_append]; simp
theorem store_fS {f : Stp → D} {M : Mp} {p : Addr} {ks : List Stp} {a b t : Int} (h : M p = some (.dT (ks.map fun s => (([.inl s.1, .inl s.2.1, .inl s.2.2] : List Key), f s)))) (hl : ks.length ≤ 1000000) : dStore M p (.tup [.int a, .int b, .int t]) (f (a, b, t)) = some (mset M p (.dT ((insS ks (a, b, t)).map fun s => (([.inl s.1, .inl s.2.1, .inl s.2.2] : List Key), f s)))) := by
  have e := dput_fS (f := f) (ks := ks) (s := (a, b, t))
  simp only [dStore, h, keysOf, keyOf, Option.bind_some]
  rw [if_pos (by rw [List.length_map]; exact len_lt (by omega))]
  exact congrArg (fun z => some (mset M p (.dT z))) e
theorem sgn_look {ps : List (Int × Int)} {sg : List Int} {a b : Int} (hl : sg.length = ps.length) (h : ((if b < a then b else a), (if a < b then b else a)) ∈ ps) : dval ((ps.map fun q => ([.inl q.1, .inl q.2] : List Key)).zip (sg.map .int)) [.inl (if b < a then b else a), .inl (if a < b then b else a)] = some (.int (sgnOf ps sg a b)) := by
  unfold sgnOf
  generalize (if b < a then b else a) = x at *
  generalize (if a < b then b else a) = y at *
  induction ps generalizing sg with
  | nil => cases h
  | cons q ps ih =>
    cases sg with
    | nil => simp at hl
    | cons g sg =>
      rw [List.map_cons, List.map_cons, List.zip_cons_cons, dval_cons, List.findIdx_cons]
      by_cases e : q = (x, y)
      · subst e
        rw [if_pos rfl]
        simp
      · rw [if_neg (fun z => e (keyP_inj (q := (x, y)).mp z))]
        have e2 : decide (q = (x, y)) = false := decide_eq_false e
        rw [e2]
        rcases List.mem_cons.mp h with z | z
        · exact absurd z.symm e
        · rw [ih (by simpa using hl) z]
          simp

theorem at_before {r : List Int} {j : Nat} (h : j < r.length) : atI (r.map D.int) ((j : Int) - 1) = some (.int (r.getD (((j : Int) + -1) % (r.length : Int)).toNat 0)) := by
  have key : ∀ k : Nat, k < r.length → (r.map D.int)[k]? = some (.int (r.getD k 0)) := fun k hk => by
    rw [List.getElem?_map, List.getD_eq_getElem?_getD, List.getElem?_eq_getElem hk]; rfl
  by_cases z : j = 0
  · subst z
    have e : (((0 : Nat) : Int) + -1) % (r.length : Int) = (r.length : Int) - 1 := by
      rw [← Int.add_emod_right]
      rw [Int.emod_eq_of_lt (by omega) (by omega)]
      omega
    rw [e]
    unfold atI ixN
    rw [List.length_map, if_neg (by omega), if_pos (by omega)]
    have e2 : (((0 : Nat) : Int) - 1 + (r.length : Int)).toNat = ((r.length : Int) - 1).toNat := by omega
    rw [e2]
    exact key _ (by omega)
  · have e : ((j : Int) + -1) % (r.length : Int) = (j : Int) - 1 := by
      rw [Int.emod_eq_of_lt (by omega) (by omega)]; omega
    rw [e]
    exact atI_at (k := ((j : Int) - 1).toNat) (by omega) (key _ (by omega))
theorem at_behind {r : List Int} {j : Nat} (h : j < r.length) : atI (r.map D.int) (((j : Int) + 1) % (r.length : Int)) = some (.int (r.getD (((j : Int) + 1) % (r.length : Int)).toNat 0)) := by
  have m0 : 0 ≤ ((j : Int) + 1) % (r.length : Int) := Int.emod_nonneg _ (by omega)
  have m1 : ((j : Int) + 1) % (r.length : Int) < r.length := Int.emod_lt_of_pos _ (by omega)
  refine atI_at (k := (((j : Int) + 1) % (r.length : Int)).toNat) (by omega) ?_
  rw [List.getElem?_map, List.getD_eq_getElem?_getD, List.getElem?_eq_getElem (by omega)]; rfl
theorem sgn_comm {ps : List (Int × Int)} {sg : List Int} (a b : Int) : sgnOf ps sg a b = sgnOf ps sg b a := by
  unfold sgnOf
  have e : ((if b < a then b else a), (if a < b then b else a)) = ((if a < b then a else b), (if b < a then a else b)) := by
    by_cases h1 : a < b
    · rw [if_neg (by omega), if_pos h1, if_pos h1, if_neg (by omega)]
    · by_cases h2 : b < a
      · rw [if_pos h2, if_neg h1, if_neg h1, if_pos h2]
      · rw [if_neg h2, if_neg h1, if_neg h1, if_neg h2]
        have : a = b := by omega
        rw [this]
  rw [e]
theorem Drw.sgn {n : Int} {ps : List (Int × Int)} {tn : List (List Int)} {sg : List Int} (R : Drw n ps tn sg) {a b : Int} (h : ((if b < a then b else a), (if a < b then b else a)) ∈ ps) : sgnOf ps sg a b = 1 ∨ sgnOf ps sg a b = -1 := by
  obtain ⟨k, _, _, _, ke⟩ := sgn_at (sg := sg) R.sl h
  exact R.sv _ (List.mem_of_getElem? ke)

def rowS (r : List Stp) : D := .lst (r.map stpD)
abbrev Rnds (n : Int) (ps : List (Int × Int)) (tn : List (List Int)) (sg : List Int) (rows : List (List Stp)) : Prop := Rnd (behS ps tn sg) (StpP n ps) rows
theorem getD_perm {r m : List Int} (h : r.Perm m) {k : Nat} (hk : k < r.length) : r.getD k 0 ∈ m := by
  rw [List.getD_eq_getElem?_getD, List.getElem?_eq_getElem hk]
  exact h.mem_iff.mp (List.getElem_mem _)
theorem nbr_rg {n : Int} {ps : List (Int × Int)} (ok : PrsOk n ps) {a b : Int} (h : a ∈ nbr ps b) : (0 ≤ a ∧ a < n) ∧ (0 ≤ b ∧ b < n) ∧ a ≠ b := by
  rcases nbr_mem.mp h with z | z
  · have := ok.ok _ z; unfold prOk at this; simp only at this; omega
  · have := ok.ok _ z; unfold prOk at this; simp only at this; omega
/-- the parts of the step behind -/
theorem beh_parts {n : Int} {ps : List (Int × Int)} {tn : List (List Int)} {sg : List Int} (ok : BookOk n ps) (R : Drw n ps tn sg) {a b t : Int} (S : StpP n ps (a, b, t)) :
    ∃ (r : List Int) (j : Nat) (u : Int), tn.getD b.toNat [] = r ∧ r.Perm (nbr ps b) ∧ r.Nodup ∧ r[j]? = some a ∧ r.idxOf a = j ∧ j < r.length ∧ sgnOf ps sg a b = u ∧ (t * u = 1 ∨ t * u = -1) ∧ (u = 1 ∨ u = -1) ∧ behS ps tn sg (a, b, t) = (b, r.getD (((j : Int) + t * u) % (r.length : Int)).toNat 0, t * u) := by
  have b0 := S.b0
  obtain ⟨r, hr, pr⟩ := R.row b0.1 b0.2
  obtain ⟨j, jl, jp, jn, je⟩ := idx_at (r := r) (x := a) (pr.mem_iff.mpr S.nb)
  have sv := R.sgn (tie_mem ok.pr S.nb)
  have e1 : tn.getD b.toNat [] = r := by rw [List.getD_eq_getElem?_getD, hr]; rfl
  refine ⟨r, j, _, e1, pr, pr.nodup_iff.mpr (nbr_nodup ok.pr), jp, je, jl, rfl, ?_, sv, ?_⟩
  · have := S.t
    simp only at this
    rcases this with e | e <;> rcases sv with e2 | e2 <;> rw [e, e2] <;> decide
  · unfold behS
    simp only [e1, je]
theorem beh_to {n : Int} {ps : List (Int × Int)} {tn : List (List Int)} {sg : List Int} (ok : BookOk n ps) (R : Drw n ps tn sg) {s : Stp} (S : StpP n ps s) : StpP n ps (behS ps tn sg s) := by
  obtain ⟨a, b, t⟩ := s
  obtain ⟨r, j, u, _, pr, _, _, _, jl, _, tu, _, e⟩ := beh_parts ok R S
  rw [e]
  have m0 : 0 ≤ ((j : Int) + t * u) % (r.length : Int) := Int.emod_nonneg _ (by omega)
  have m1 : ((j : Int) + t * u) % (r.length : Int) < r.length := Int.emod_lt_of_pos _ (by omega)
  have cn := getD_perm pr (k := (((j : Int) + t * u) % (r.length : Int)).toNat) (by omega)
  exact ⟨S.b0, (nbr_rg ok.pr cn).1, nbr_comm.mp cn, tu⟩
/-- a step seen from the other side -/
def mirS (ps : List (Int × Int)) (sg : List Int) (s : Stp) : Stp := (s.2.1, s.1, -(s.2.2 * sgnOf ps sg s.1 s.2.1))
theorem beh_mir {n : Int} {ps : List (Int × Int)} {tn : List (List Int)} {sg : List Int} (ok : BookOk n ps) (R : Drw n ps tn sg) : Mir (behS ps tn sg) (StpP n ps) (mirS ps sg) := by
  refine ⟨fun s S => ?_, fun s S => ?_, fun s S => ?_, fun s S => ?_, fun s S => ?_⟩
  · obtain ⟨a, b, t⟩ := s
    obtain ⟨r, j, u, _, pr, _, _, _, jl, eu, tu, _, e⟩ := beh_parts ok R S
    unfold mirS
    simp only [eu]
    exact ⟨S.b0, S.a0, nbr_comm.mp S.nb, by simp only; omega⟩
  · obtain ⟨a, b, t⟩ := s
    obtain ⟨r, j, u, _, pr, _, _, _, jl, eu, tu, u1, e⟩ := beh_parts ok R S
    unfold mirS
    simp only [eu, sgn_comm b a]
    have ht := S.t
    simp only at ht
    have : -(-(t * u) * u) = t := by rcases ht with rfl | rfl <;> rcases u1 with rfl | rfl <;> rfl
    rw [this]
  · have S2 := beh_to ok R S
    obtain ⟨a, b, t⟩ := s
    obtain ⟨r, j, u, er, pr, rnd, jp, _, jl, eu, tu, u1, e⟩ := beh_parts ok R S
    rw [e] at S2 ⊢
    have m0 : 0 ≤ ((j : Int) + t * u) % (r.length : Int) := Int.emod_nonneg _ (by omega)
    have m1 : ((j : Int) + t * u) % (r.length : Int) < r.length := Int.emod_lt_of_pos _ (by omega)
    generalize hk : ((j : Int) + t * u) % (r.length : Int) = k at *
    have hc : r[k.toNat]? = some (r.getD k.toNat 0) := by rw [List.getD_eq_getElem?_getD, List.getElem?_eq_getElem (by omega)]; rfl
    generalize r.getD k.toNat 0 = c at *
    have nb2 := S2.nb
    simp only at nb2
    have v1 := R.sgn (tie_mem ok.pr nb2)
    have ec : r.idxOf c = k.toNat := by
      obtain ⟨i, k1, k2, _, k4⟩ := idx_at (List.mem_of_getElem? hc)
      have := (List.getElem?_inj k1 rnd).mp (k2.trans hc.symm)
      omega
    unfold mirS
    simp only [eu]
    generalize hv : sgnOf ps sg b c = v at *
    have hv2 : sgnOf ps sg c b = v := by rw [sgn_comm]; exact hv
    unfold behS
    simp only [er, ec, hv2]
    have e2 : -(t * u * v) * v = -(t * u) := by
      rcases v1 with rfl | rfl
      · omega
      · omega
    rw [e2]
    have e3 : (((k.toNat : Nat) : Int) + -(t * u)) % (r.length : Int) = j := by
      rw [Int.toNat_of_nonneg m0, ← hk, Int.emod_add_emod, show (j : Int) + t * u + -(t * u) = j by omega]
      exact Int.emod_eq_of_lt (by omega) (by omega)
    rw [e3, Int.toNat_natCast, List.getD_eq_getElem?_getD, jp]
    rfl
  · obtain ⟨a, b, t⟩ := s
    have ne := (nbr_rg ok.pr S.nb).2.2
    simp only at ne
    intro e
    unfold mirS at e
    have := congrArg Prod.fst e
    simp only at this
    omega
  · obtain ⟨a, b, t⟩ := s
    obtain ⟨r, j, u, _, pr, _, _, _, jl, eu, tu, u1, e⟩ := beh_parts ok R S
    intro z
    rw [e] at z
    unfold mirS at z
    simp only [eu] at z
    have := congrArg (fun s => s.2.2) z
    simp only at this
    omega
theorem get_stp {ps : List (Int × Int)} {tn : List (List Int)} {sg : List Int} {ks : List Stp} {i : Nat} {d : D} (h : (((ks.map (kvS ps tn sg)).map (·.1)).map fun k => D.tup (k.map keyD))[i]? = some d) : ∃ s, ks[i]? = some s ∧ d = stpD s := by
  rw [List.map_map, List.map_map, List.getElem?_map, Option.map_eq_some_iff] at h
  obtain ⟨s, h1, h2⟩ := h
  exact ⟨s, h1, h2.symm⟩
abbrev kvB : Stp → List Key × D := fun s => ([.inl s.1, .inl s.2.1, .inl s.2.2], .bl true)
theorem in_kvB {M : Mp} {p : Addr} {kn : List Stp} (h : M p = some (.dT (kn.map kvB))) (s : Stp) : inV' M (stpD s) (.ref p) = some (decide (s ∈ kn)) := by
  have e := dval_fS (f := fun _ => D.bl true) (ks := kn) (s := s)
  simp only [inV', h, dLook, stpD, keysOf, keyOf, Option.map_some]
  rw [show dval (kn.map kvB) [.inl s.1, .inl s.2.1, .inl s.2.2] = _ from e]
  by_cases z : s ∈ kn
  · simp [z]
  · simp [z]
theorem zip_fs {β γ : Type} : ∀ l : List (β × γ), (l.map (·.1)).zip (l.map (·.2)) = l
  | [] => rfl
  | x :: l => by rw [List.map_cons, List.map_cons, List.zip_cons_cons, zip_fs l]
theorem dt_look {M : Mp} {ps : List (Int × Int)} {tn : List (List Int)} {sg : List Int} {ks : List Stp} {s : Stp} (h : s ∈ ks) : dIxV M (.dt ((ks.map (kvS ps tn sg)).map (·.1)) ((ks.map (kvS ps tn sg)).map (·.2))) (stpD s) = some (stpD (behS ps tn sg s)) := by
  have e := dval_fS (f := fun s => stpD (behS ps tn sg s)) (ks := ks) (s := s)
  rw [if_pos h] at e
  simp only [dIxV, dkLook, stpD, keysOf, keyOf, Option.map_some, zip_fs]
  rw [show dval (ks.map (kvS ps tn sg)) [.inl s.1, .inl s.2.1, .inl s.2.2] = _ from e]
  rfl
theorem rows_le {α : Type} : ∀ {rows : List (List α)}, (∀ r ∈ rows, r ≠ []) → rows.length ≤ rows.flatten.length
  | [], _ => Nat.zero_le _
  | r :: rows, h => by
    have h1 := List.length_pos_iff.mpr (h r List.mem_cons_self)
    have h2 := rows_le fun u hu => h u (List.mem_cons_of_mem _ hu)
    rw [List.flatten_cons, List.length_append, List.length_cons]
    omega
structure RSt (M M' : Mp) (p1 p2 : Addr) (kn : List Stp) (rows : List (List Stp)) : Prop where
  k : M' p1 = some (.dT (kn.map kvB))
  f : M' p2 = some (.lst (rows.map rowS))
  ex : Ext M M' []
  ne : p1 ≠ p2
  f1 : M p1 = none
  f2 : M p2 = none

/-- rounds turned to begin with their least steps -/
inductive RotL : List (List Stp) → List (List Stp) → Prop
  | nil : RotL [] []
  | snoc {rs us : List (List Stp)} {r : List Stp} {k : Nat} : RotL rs us → k ≤ r.length → Beg leS (r.drop k ++ r.take k) → RotL (rs ++ [r]) (us ++ [r.drop k ++ r.take k])
theorem RotL.cyc {f : Stp → Stp} {rs us : List (List Stp)} (h : RotL rs us) : (∀ r ∈ rs, Cyc f r) → (∀ u ∈ us, Cyc f u) ∧ (∀ u ∈ us, Beg leS u) ∧ us.flatten.Perm rs.flatten ∧ us.length = rs.length := by
  induction h with
  | nil => exact fun _ => ⟨fun u h => (nomatch h), fun u h => (nomatch h), List.Perm.refl _, rfl⟩
  | snoc h hk hb ih =>
    rename_i rs us r k
    intro hc
    obtain ⟨h1, h2, h3, h4⟩ := ih fun r hr => hc r (List.mem_append_left _ hr)
    refine ⟨fun u hu => ?_, fun u hu => ?_, ?_, by rw [List.length_append, List.length_append, h4]; rfl⟩
    · rcases List.mem_append.mp hu with z | z
      · exact h1 u z
      · rw [List.mem_singleton.mp z]; exact (hc r (by simp)).rot hk
    · rcases List.mem_append.mp hu with z | z
      · exact h2 u z
      · rw [List.mem_singleton.mp z]; exact hb
    · rw [List.flatten_append, List.flatten_append, List.flatten_singleton, List.flatten_singleton]
      exact h3.append (rot_perm r k)
theorem Rnds.rot {n : Int} {ps : List (Int × Int)} {tn : List (List Int)} {sg : List Int} {rs us : List (List Stp)} (h : Rnds n ps tn sg rs) (rt : RotL rs us) : Rnds n ps tn sg us ∧ ∀ u ∈ us, Beg leS u := by
  obtain ⟨h1, h2, h3, _⟩ := rt.cyc h.cyc
  exact ⟨⟨h1, h3.nodup_iff.mpr h.nd, fun x => h3.mem_iff.trans (h.all x)⟩, h2⟩
theorem cutD_drop {α : Type} {xs : List α} {k : Nat} (h : k ≤ xs.length) : cutD xs (some (k : Int)) none = xs.drop k := by
  unfold cutD
  rw [HT.sIx_none, HT.sIx_nat, Nat.min_eq_left h, List.take_of_length_le (by rw [List.length_drop]; omega)]
theorem cutD_take {α : Type} {xs : List α} {k : Nat} (h : k ≤ xs.length) : cutD xs none (some (k : Int)) = xs.take k := by
  unfold cutD
  rw [HT.sIx_none, HT.sIx_nat, Nat.min_eq_left h, List.drop_zero, Nat.sub_zero]

/-- the law's search for rounds -/
structure LSt (n : Int) (ps : List (Int × Int)) (f : Stp → Stp) (M M' : Mp) (p6 : Addr) (left : List Stp) (rows : List (List Stp)) : Prop where
  pw : left.Pairwise leS
  nd : left.Nodup
  cyc : ∀ r ∈ rows, Cyc f r
  beg : ∀ r ∈ rows, Beg leS r
  rnd : rows.flatten.Nodup
  rS : ∀ s ∈ rows.flatten, StpP n ps s
  mem : ∀ s, s ∈ left ↔ StpP n ps s ∧ s ∉ rows.flatten
  ob : M' p6 = some (.lst (rows.map tupS))
  ex : Ext M M' []
theorem LSt.more {n : Int} {ps : List (Int × Int)} {f : Stp → Stp} {M M' : Mp} {p6 : Addr} {x : Stp} {xs : List Stp} {rows : List (List Stp)} (L : LSt n ps f M M' p6 (x :: xs) rows) (h6 : M p6 = none) {r : List Stp} (hr : Cyc f r) (h0 : r[0]? = some x) (hS : ∀ a ∈ r, StpP n ps a ∧ a ∉ rows.flatten) :
    LSt n ps f M (mset M' p6 (.lst (rows.map tupS ++ [tupS r]))) p6 ((x :: xs).filter fun z => decide (z ∉ r)) (rows ++ [r]) := by
  have fe : (rows ++ [r]).flatten = rows.flatten ++ r := by rw [List.flatten_append, List.flatten_singleton]
  refine ⟨L.pw.sublist List.filter_sublist, L.nd.sublist List.filter_sublist, fun u hu => ?_, fun u hu => ?_, ?_, fun s hs => ?_, fun s => ?_, by rw [mset_same, List.map_append]; rfl, L.ex.mset h6⟩
  · rcases List.mem_append.mp hu with z | z
    · exact L.cyc u z
    · rw [List.mem_singleton.mp z]; exact hr
  · rcases List.mem_append.mp hu with z | z
    · exact L.beg u z
    · rw [List.mem_singleton.mp z]
      intro y hy w hw
      rw [h0] at hy
      rw [← Option.some.inj hy]
      have := (L.mem w).mpr (hS w hw)
      rcases List.mem_cons.mp this with e | e
      · rw [e]; exact leS_refl x
      · exact (List.pairwise_cons.mp L.pw).1 w e
  · rw [fe, List.nodup_append]
    exact ⟨L.rnd, hr.nd, fun a ha b hb e => (hS b hb).2 (e ▸ ha)⟩
  · rw [fe] at hs
    rcases List.mem_append.mp hs with z | z
    · exact L.rS s z
    · exact (hS s z).1
  · rw [List.mem_filter, L.mem s, fe, List.mem_append]
    simp
    constructor
    · rintro ⟨⟨h1, h2⟩, h3⟩; exact ⟨h1, h2, h3⟩
    · rintro ⟨h1, h2, h3⟩; exact ⟨⟨h1, h2⟩, h3⟩

theorem exRot (rs : List (List Stp)) (h : ∀ r ∈ rs, r ≠ []) : ∃ us, RotL rs us := by
  have key : ∀ i, i ≤ rs.length → ∃ us, RotL (rs.take i) us := fun i => by
    induction i with
    | zero => exact fun _ => ⟨[], by rw [List.take_zero]; exact .nil⟩
    | succ i ih =>
      intro hi
      obtain ⟨us, hu⟩ := ih (by omega)
      have hr : rs[i]? = some rs[i] := List.getElem?_eq_getElem (by omega)
      obtain ⟨x, xs, e⟩ := List.exists_cons_of_ne_nil (h _ (List.mem_of_getElem? hr))
      have ml : ∀ (l : List Stp) (s : Stp), mnS s l ∈ s :: l := fun l => by
        induction l with
        | nil => intro s; exact List.mem_singleton.mpr rfl
        | cons y l ihl =>
          intro s
          have := ihl (if triL y < triL s then y else s)
          show mnS (if triL y < triL s then y else s) l ∈ s :: y :: l
          rcases List.mem_cons.mp this with z | z
          · rw [z]; split <;> simp
          · exact List.mem_cons_of_mem _ (List.mem_cons_of_mem _ z)
      obtain ⟨j, hj⟩ := List.mem_iff_getElem?.mp (ml xs x)
      have jl := (List.getElem?_eq_some_iff.mp hj).1
      rw [take_succ_of hr]
      refine ⟨us ++ [rs[i].drop j ++ rs[i].take j], .snoc hu (by rw [e]; omega) fun y hy z hz => ?_⟩
      rw [e] at hy hz
      rw [rot_get (by omega) (by simp), Nat.zero_add, Nat.mod_eq_of_lt jl, hj] at hy
      rw [← Option.some.inj hy]
      exact mnS_least xs x z ((rot_perm (x :: xs) j).mem_iff.mp hz)
  have := key rs.length (Nat.le_refl _)
  rwa [List.take_length] at this
theorem Rnds.len {n : Int} {ps : List (Int × Int)} {tn : List (List Int)} {sg : List Int} {rs us : List (List Stp)} (h : Rnds n ps tn sg rs) (g : Rnds n ps tn sg us) (gb : ∀ u ∈ us, Beg leS u) : rs.length = us.length := by
  obtain ⟨vs, rt⟩ := exRot rs fun r hr => (h.cyc r hr).ne
  obtain ⟨h2, hb⟩ := Rnds.rot h rt
  have := (rt.cyc (f := behS ps tn sg) h.cyc).2.2.2
  rw [← this]
  exact (Rnd.perm leS_anti h2 g hb gb).length_eq
theorem Rnds.one {n : Int} {tn : List (List Int)} {sg : List Int} {rs : List (List Stp)} (h : Rnds n [] tn sg rs) : rs = [] := by
  cases rs with
  | nil => rfl
  | cons r rs =>
    obtain ⟨x, hx⟩ := List.exists_mem_of_ne_nil r (h.cyc r List.mem_cons_self).ne
    have := ((h.all x).mp (List.mem_flatten.mpr ⟨r, List.mem_cons_self, hx⟩)).nb
    simp [nbr] at this
/-! ### drawings switched -/
def eB (b : Bool) : Int := if b = true then -1 else 1
theorem eB_sq (b : Bool) : eB b * eB b = 1 := by cases b <;> rfl
def flT (X : Int → Bool) (tn : List (List Int)) : List (List Int) := tn.mapIdx fun i r => if X (i : Int) = true then r.reverse else r
def flG (X : Int → Bool) (ps : List (Int × Int)) (sg : List Int) : List Int := (ps.zip sg).map fun q => q.2 * eB (X q.1.1) * eB (X q.1.2)
theorem flT_len (X : Int → Bool) (tn : List (List Int)) : (flT X tn).length = tn.length := by unfold flT; rw [List.length_mapIdx]
theorem flT_get (X : Int → Bool) (tn : List (List Int)) (i : Nat) : (flT X tn)[i]? = tn[i]?.map fun r => if X (i : Int) = true then r.reverse else r := by
  unfold flT
  rw [List.getElem?_mapIdx]
theorem flG_none : ∀ {ps : List (Int × Int)} {sg : List Int}, sg.length = ps.length → flG (fun _ => false) ps sg = sg
  | [], [], _ => rfl
  | [], _ :: _, h => by simp at h
  | _ :: _, [], h => by simp at h
  | q :: ps, g :: sg, h => by
    have := flG_none (ps := ps) (sg := sg) (by simpa using h)
    unfold flG at this ⊢
    rw [List.zip_cons_cons, List.map_cons, this]
    simp [eB]
theorem flG_len {X : Int → Bool} {ps : List (Int × Int)} {sg : List Int} (h : sg.length = ps.length) : (flG X ps sg).length = ps.length := by
  unfold flG
  rw [List.length_map, List.length_zip]
  omega
theorem flG_sgn {X : Int → Bool} {ps : List (Int × Int)} {sg : List Int} (hl : sg.length = ps.length) {a b : Int} (h : ((if b < a then b else a), (if a < b then b else a)) ∈ ps) : sgnOf ps (flG X ps sg) a b = sgnOf ps sg a b * eB (X a) * eB (X b) := by
  obtain ⟨k, kl, kp, _, ke⟩ := sgn_at hl h
  have hl2 : (flG X ps sg).length = ps.length := flG_len hl
  have e : ∀ (sg : List Int), sgnOf ps sg a b = sg.getD (ps.findIdx fun q => decide (q = ((if b < a then b else a), (if a < b then b else a)))) 0 := fun _ => rfl
  obtain ⟨k2, kl2, kp2, kn2, ke2⟩ := sgn_at hl2 h
  obtain ⟨k3, kl3, kp3, kn3, ke3⟩ := sgn_at hl h
  have e23 : k2 = k3 := by
    rcases Nat.lt_trichotomy k2 k3 with l | l | l
    · exact absurd rfl (kn3 k2 _ l kp2)
    · exact l
    · exact absurd rfl (kn2 k3 _ l kp3)
  subst e23
  have z : (flG X ps sg)[k2]? = some (sgnOf ps sg a b * eB (X (if b < a then b else a)) * eB (X (if a < b then b else a))) := by
    unfold flG
    rw [List.getElem?_map]
    have : (ps.zip sg)[k2]? = some (((if b < a then b else a), (if a < b then b else a)), sgnOf ps sg a b) := by
      rw [List.getElem?_zip_eq_some]; exact ⟨kp3, ke3⟩
    rw [this]
    rfl
  have := Option.some.inj (ke2.symm.trans z)
  rw [this]
  by_cases h1 : a < b
  · rw [if_neg (by omega), if_pos h1]
  · by_cases h2 : b < a
    · rw [if_pos h2, if_neg h1, Int.mul_right_comm]
    · rw [if_neg h2, if_neg h1]
      have : a = b := by omega
      rw [this]
theorem Drw.flip {n : Int} {ps : List (Int × Int)} {tn : List (List Int)} {sg : List Int} (R : Drw n ps tn sg) (X : Int → Bool) : Drw n ps (flT X tn) (flG X ps sg) := by
  refine ⟨by rw [flT_len]; exact R.tl, fun i r hr => ?_, flG_len R.sl, fun x hx => ?_⟩
  · rw [flT_get, Option.map_eq_some_iff] at hr
    obtain ⟨u, hu, rfl⟩ := hr
    have := R.tp i u hu
    split
    · exact (List.reverse_perm u).trans this
    · exact this
  · unfold flG at hx
    obtain ⟨q, hq, rfl⟩ := List.mem_map.mp hx
    have := R.sv q.2 (List.of_mem_zip hq).2
    rcases this with e | e <;> rw [e] <;> cases X q.1.1 <;> cases X q.1.2 <;> decide
/-! ### turns begun with the least -/
def minL (r : List Int) : Int := (srt r).headD 0
theorem minL_mem {r : List Int} (h : r ≠ []) : minL r ∈ r ∧ ∀ y ∈ r, minL r ≤ y := by
  unfold minL
  have hl := srt_length r
  have hp := List.length_pos_iff.mpr h
  obtain ⟨x, xs, e⟩ := List.exists_cons_of_ne_nil (l := srt r) (fun z => by rw [z] at hl; simp at hl; omega)
  have pw := srt_pw r
  rw [e] at pw ⊢
  refine ⟨srt_mem.mp (by rw [e]; exact List.mem_cons_self), fun y hy => ?_⟩
  have := srt_mem.mpr hy
  rw [e] at this
  rcases List.mem_cons.mp this with z | z
  · rw [z]; exact Int.le_refl _
  · exact (List.pairwise_cons.mp pw).1 y z
def begL (r : List Int) : List Int := r.drop (r.idxOf (minL r)) ++ r.take (r.idxOf (minL r))
theorem begL_perm (r : List Int) : (begL r).Perm r := rot_perm r _
/-! ### order by distance -/
def insF (fa : List (Int × Int)) (x d : Int) : List (Int × Int) := if x ∈ fa.map (·.1) then fa else fa ++ [(x, d)]
def insL (l : List Int) (d : Int) (fa : List (Int × Int)) : List (Int × Int) := l.foldl (fun fa x => insF fa x d) fa
def bfsF (ps : List (Int × Int)) : Nat → List (Int × Int)
  | 0 => [(0, 0)]
  | k + 1 => match (bfsF ps k)[k]? with
    | none => bfsF ps k
    | some (c, d) => insL (srt (nbr ps c)) (d + 1) (bfsF ps k)
/-- while k contents are done -/
structure BfP (n : Int) (ps : List (Int × Int)) (k : Nat) (fa : List (Int × Int)) : Prop where
  nd : (fa.map (·.1)).Nodup
  rg : ∀ q ∈ fa, 0 ≤ q.1 ∧ q.1 < n
  h0 : fa[0]? = some (0, 0)
  pw : fa.Pairwise fun a b => a.2 ≤ b.2
  up : ∀ q ∈ fa, q.1 ≠ 0 → ∃ p ∈ fa, p.2 < q.2 ∧ p.1 ∈ nbr ps q.1
  cl : ∀ (j : Nat) (q : Int × Int), j < k → fa[j]? = some q → ∀ x ∈ nbr ps q.1, x ∈ fa.map (·.1)
  lt : ∀ p ∈ fa, ∀ q, fa[k]? = some q → p.2 ≤ q.2 + 1
  pos : ∀ q ∈ fa, 0 ≤ q.2 ∧ (q.2 : Int) < fa.length
theorem insL_pre (d : Int) : ∀ (l : List Int) (fa : List (Int × Int)), ∃ t, insL l d fa = fa ++ t ∧ (∀ q ∈ t, q.2 = d ∧ q.1 ∈ l) ∧ ((fa.map (·.1)).Nodup → ((fa ++ t).map (·.1)).Nodup) ∧ ∀ x ∈ l, x ∈ (fa ++ t).map (·.1)
  | [], fa => ⟨[], by simp [insL], by simp, fun h => by simpa using h, by simp⟩
  | x :: l, fa => by
    obtain ⟨t, h1, h2, h3, h4⟩ := insL_pre d l (insF fa x d)
    have e : insL (x :: l) d fa = insL l d (insF fa x d) := rfl
    by_cases hx : x ∈ fa.map (·.1)
    · have ei : insF fa x d = fa := if_pos hx
      rw [ei] at h1 h3 h4
      refine ⟨t, by rw [e, ei, h1], fun q hq => ⟨(h2 q hq).1, List.mem_cons_of_mem _ (h2 q hq).2⟩, h3, fun y hy => ?_⟩
      rcases List.mem_cons.mp hy with z | z
      · rw [z, List.map_append]; exact List.mem_append_left _ hx
      · exact h4 y z
    · have ei : insF fa x d = fa ++ [(x, d)] := if_neg hx
      rw [ei] at h1 h3 h4
      refine ⟨(x, d) :: t, by rw [e, ei, h1, List.append_assoc]; rfl, fun q hq => ?_, fun nd => ?_, fun y hy => ?_⟩
      · rcases List.mem_cons.mp hq with z | z
        · rw [z]; exact ⟨rfl, List.mem_cons_self⟩
        · exact ⟨(h2 q z).1, List.mem_cons_of_mem _ (h2 q z).2⟩
      · have := h3 (by
          rw [List.map_append, List.nodup_append]
          exact ⟨nd, by simp, fun a ha b hb => by
            simp at hb
            rw [hb]
            exact fun z => hx (z ▸ ha)⟩)
        rwa [List.append_assoc] at this
      · have key : (fa ++ [(x, d)] ++ t) = fa ++ (x, d) :: t := by rw [List.append_assoc]; rfl
        rw [key] at h4
        rcases List.mem_cons.mp hy with z | z
        · rw [z]; simp
        · exact h4 y z
theorem BfP.next {n : Int} {ps : List (Int × Int)} (ok : PrsOk n ps) {k : Nat} {fa : List (Int × Int)} (B : BfP n ps k fa) {c d : Int} (h : fa[k]? = some (c, d)) : BfP n ps (k + 1) (insL (srt (nbr ps c)) (d + 1) fa) := by
  obtain ⟨t, h1, h2, h3, h4⟩ := insL_pre (d + 1) (srt (nbr ps c)) fa
  have kl := (List.getElem?_eq_some_iff.mp h).1
  have hm := List.mem_of_getElem? h
  rw [h1]
  have hd := B.pos _ hm
  refine ⟨h3 B.nd, fun q hq => ?_, by rw [List.getElem?_append_left (by omega)]; exact B.h0, ?_, fun q hq q0 => ?_, fun j q hj hq x hx => ?_, fun p hp q hq => ?_, fun q hq => ?_⟩
  · rcases List.mem_append.mp hq with z | z
    · exact B.rg q z
    · exact (nbr_rg ok (srt_mem.mp (h2 q z).2)).1
  · rw [List.pairwise_append]
    refine ⟨B.pw, ?_, fun a ha b hb => ?_⟩
    · refine List.pairwise_iff_forall_sublist.mpr fun {a b} hs => ?_
      have ma := hs.subset (List.mem_cons_self)
      have mb := hs.subset (List.mem_cons_of_mem _ (List.mem_singleton.mpr rfl))
      rw [(h2 a ma).1, (h2 b mb).1]; exact Int.le_refl _
    · rw [(h2 b hb).1]
      exact B.lt a ha _ h
  · rcases List.mem_append.mp hq with z | z
    · obtain ⟨p, hp, h5, h6⟩ := B.up q z q0
      exact ⟨p, List.mem_append_left _ hp, h5, h6⟩
    · refine ⟨(c, d), List.mem_append_left _ hm, by rw [(h2 q z).1]; simp only; omega, nbr_comm.mp (srt_mem.mp (h2 q z).2)⟩
  · by_cases e : j < k
    · rw [List.getElem?_append_left (by omega)] at hq
      rw [List.map_append]
      exact List.mem_append_left _ (B.cl j q e hq x hx)
    · have : j = k := by omega
      subst this
      rw [List.getElem?_append_left kl, h] at hq
      rw [← Option.some.inj hq] at hx
      exact h4 x (srt_mem.mpr hx)
  · have pq : d ≤ q.2 := by
      by_cases e : k + 1 < fa.length
      · rw [List.getElem?_append_left e] at hq
        have := (List.pairwise_iff_getElem.mp B.pw) k (k + 1) kl e (by omega)
        rw [(List.getElem?_eq_some_iff.mp h).2, (List.getElem?_eq_some_iff.mp hq).2] at this
        exact this
      · rw [List.getElem?_append_right (by omega)] at hq
        rw [(h2 q (List.mem_of_getElem? hq)).1]
        omega
    rcases List.mem_append.mp hp with z | z
    · have := B.lt p z _ h
      simp only at this
      omega
    · rw [(h2 p z).1]; omega
  · rw [List.length_append]
    rcases List.mem_append.mp hq with z | z
    · have := B.pos q z; omega
    · have tp := List.length_pos_of_mem z
      rw [(h2 q z).1]
      simp only at hd
      omega
theorem bfs_ok {n : Int} {ps : List (Int × Int)} (ok : PrsOk n ps) (n1 : 1 ≤ n) : ∀ k, BfP n ps k (bfsF ps k)
  | 0 => ⟨by simp [bfsF], fun q hq => by simp [bfsF] at hq; subst hq; simp only; omega, rfl, by simp [bfsF], fun q hq h => by simp [bfsF] at hq; subst hq; exact absurd rfl h, fun j q h => by omega, fun p hp q hq => by
      simp [bfsF] at hp hq
      rw [hp, ← hq]; decide, fun q hq => by simp [bfsF] at hq; subst hq; simp [bfsF]⟩
  | k + 1 => by
    have B := bfs_ok ok n1 k
    unfold bfsF
    cases h : (bfsF ps k)[k]? with
    | some q => exact B.next ok (c := q.1) (d := q.2) h
    | none =>
      have kl := List.getElem?_eq_none_iff.mp h
      show BfP n ps (k + 1) (bfsF ps k)
      refine ⟨B.nd, B.rg, B.h0, B.pw, B.up, fun j q hj hq => ?_, fun p hp q hq => ?_, B.pos⟩
      · have := (List.getElem?_eq_some_iff.mp hq).1
        exact B.cl j q (by omega) hq
      · have := (List.getElem?_eq_some_iff.mp hq).1
        omega
theorem BfP.len {n : Int} {ps : List (Int × Int)} {k : Nat} {fa : List (Int × Int)} (B : BfP n ps k fa) : fa.length ≤ n.toNat := by
  have := nodup_lenG (m := allOf n) B.nd fun x hx => by
    obtain ⟨q, hq, rfl⟩ := List.mem_map.mp hx
    exact allOf_mem.mpr (B.rg q hq)
  rwa [List.length_map, allOf_len] at this
/-- all of it -/
def bfsA (ps : List (Int × Int)) : List (Int × Int) := bfsF ps 8
theorem bfsA_ok {n : Int} {ps : List (Int × Int)} (ok : BookOk n ps) : BfP n ps 8 (bfsA ps) := bfs_ok ok.pr ok.lo 8
theorem bfsA_all {n : Int} {ps : List (Int × Int)} (ok : BookOk n ps) {x : Int} (h0 : 0 ≤ x) (h1 : x < n) : x ∈ (bfsA ps).map (·.1) := by
  have B := bfsA_ok ok
  have n8 := ok.hi
  have nl := ok.lo
  have bl := B.len
  have z0 : (0 : Int) ∈ (bfsA ps).map (·.1) := List.mem_map.mpr ⟨_, List.mem_of_getElem? B.h0, rfl⟩
  have r := (hangs_from (ps := ps) (allOf_mem.mpr ⟨Int.le_refl 0, (by omega : (0 : Int) < n)⟩)).mp ok.hang x (allOf_mem.mpr ⟨h0, h1⟩)
  obtain ⟨t, ht⟩ := r
  induction t generalizing x with
  | zero => rw [show x = 0 from ht]; exact z0
  | succ t ih =>
    obtain ⟨y, hy, hn, _⟩ := ht
    have ry := (nbr_rg ok.pr hn).2.1
    obtain ⟨q, hq, rfl⟩ := List.mem_map.mp (ih ry.1 ry.2 hy)
    obtain ⟨j, hj⟩ := List.mem_iff_getElem?.mp hq
    have jl := (List.getElem?_eq_some_iff.mp hj).1
    exact B.cl j q (by omega) hj x hn
/-- how far a content is -/
def farL (fa : List (Int × Int)) (c : Int) : Int := ((fa.find? fun q => decide (q.1 = c)).map (·.2)).getD 0
theorem farL_of {fa : List (Int × Int)} (nd : (fa.map (·.1)).Nodup) {q : Int × Int} (h : q ∈ fa) : farL fa q.1 = q.2 := by
  induction fa with
  | nil => cases h
  | cons p fa ih =>
    rw [List.map_cons, List.nodup_cons] at nd
    unfold farL
    rw [List.find?_cons]
    by_cases e : p.1 = q.1
    · rw [decide_eq_true e]
      rcases List.mem_cons.mp h with z | z
      · rw [z]; rfl
      · exact absurd (List.mem_map.mpr ⟨q, z, e.symm⟩) nd.1
    · rw [decide_eq_false e]
      rcases List.mem_cons.mp h with z | z
      · exact absurd (by rw [z]) e
      · exact ih nd.2 z
/-- those beside a content that are nearer -/
def nearL (ps : List (Int × Int)) (c : Int) : List Int := (srt (nbr ps c)).filter fun r => decide (farL (bfsA ps) r < farL (bfsA ps) c)
def parP (ps : List (Int × Int)) (c : Int) : Int := minL (nearL ps c)
theorem near_ne {n : Int} {ps : List (Int × Int)} (ok : BookOk n ps) {c : Int} (h0 : 1 ≤ c) (h1 : c < n) : nearL ps c ≠ [] := by
  have B := bfsA_ok ok
  obtain ⟨q, hq, e⟩ := List.mem_map.mp (bfsA_all ok (by omega : 0 ≤ c) h1)
  subst e
  obtain ⟨p, hp, h2, h3⟩ := B.up q hq (by omega)
  refine List.ne_nil_of_mem (a := p.1) (List.mem_filter.mpr ⟨srt_mem.mpr h3, ?_⟩)
  rw [farL_of B.nd hp, farL_of B.nd hq]
  exact decide_eq_true h2
theorem par_ok {n : Int} {ps : List (Int × Int)} (ok : BookOk n ps) {c : Int} (h0 : 1 ≤ c) (h1 : c < n) : parP ps c ∈ nbr ps c ∧ farL (bfsA ps) (parP ps c) < farL (bfsA ps) c ∧ (0 ≤ parP ps c ∧ parP ps c < n) := by
  obtain ⟨h2, _⟩ := minL_mem (near_ne ok h0 h1)
  obtain ⟨h3, h4⟩ := List.mem_filter.mp h2
  have h5 := srt_mem.mp h3
  exact ⟨h5, of_decide_eq_true h4, (nbr_rg ok.pr h5).1⟩
/-- signs 1 on the tree -/
def TreeOne (n : Int) (ps : List (Int × Int)) (sg : List Int) (X : Int → Bool) : Prop := X 0 = false ∧ ∀ c, 1 ≤ c → c < n → sgnOf ps sg c (parP ps c) * eB (X c) * eB (X (parP ps c)) = 1
abbrev isC (c : Int) : Int → Bool := fun x => decide (x = c)
def kvI (p : Int × Int) : Key × D := (.inl p.1, .int p.2)
/-- the search from 0 on, k contents done -/
structure OSt (M M' : Mp) (p p1 : Addr) (fa : List (Int × Int)) : Prop where
  d : M' p = some (.dK (fa.map kvI))
  l : M' p1 = some (.lst ((fa.map (·.1)).map .int))
  ne : p ≠ p1
  f : M p = none
  f1 : M p1 = none
  ex : Ext M M' []
/-- contents in an order that goes away from 0 -/
structure POrd (n : Int) (ps : List (Int × Int)) (os : List Int) : Prop where
  pm : os.Perm (allOf n)
  pw : os.Pairwise fun a b => farL (bfsA ps) a ≤ farL (bfsA ps) b
  h0 : os[0]? = some 0
theorem POrd.par {n : Int} {ps : List (Int × Int)} {os : List Int} (ok : BookOk n ps) (O : POrd n ps os) {i : Nat} {c : Int} (h : os[i]? = some c) (c0 : c ≠ 0) : (1 ≤ c ∧ c < n) ∧ parP ps c ∈ os.take i := by
  have cr := allOf_mem.mp (O.pm.mem_iff.mp (List.mem_of_getElem? h))
  obtain ⟨p1, p2, p3⟩ := par_ok ok (c := c) (by omega) cr.2
  refine ⟨by omega, ?_⟩
  obtain ⟨j, hj⟩ := List.mem_iff_getElem?.mp (O.pm.mem_iff.mpr (allOf_mem.mpr p3))
  by_cases e : j < i
  · exact List.mem_iff_getElem?.mpr ⟨j, by rw [List.getElem?_take, if_pos e]; exact hj⟩
  · have il := (List.getElem?_eq_some_iff.mp h).1
    have jl := (List.getElem?_eq_some_iff.mp hj).1
    by_cases e2 : i = j
    · subst e2
      rw [h] at hj
      have := Option.some.inj hj
      rw [← this] at p2
      omega
    · have := (List.pairwise_iff_getElem.mp O.pw) i j il jl (by omega)
      rw [(List.getElem?_eq_some_iff.mp h).2, (List.getElem?_eq_some_iff.mp hj).2] at this
      omega
/-- the first i of an order are straightened -/
structure SInv (n : Int) (ps : List (Int × Int)) (sg : List Int) (os : List Int) (i : Nat) (X : Int → Bool) : Prop where
  z : X 0 = false
  un : ∀ c, c ∉ os.take i → X c = false
  one : ∀ c ∈ os.take i, c ≠ 0 → sgnOf ps sg c (parP ps c) * eB (X c) * eB (X (parP ps c)) = 1
theorem SInv.start {n : Int} {ps : List (Int × Int)} {sg os : List Int} (O : POrd n ps os) : SInv n ps sg os 1 (fun _ => false) := by
  refine ⟨rfl, fun _ _ => rfl, fun c hc c0 => ?_⟩
  obtain ⟨j, hj⟩ := List.mem_iff_getElem?.mp hc
  rw [List.getElem?_take] at hj
  split at hj
  · have : j = 0 := by omega
    subst this
    rw [O.h0] at hj
    exact absurd (Option.some.inj hj).symm c0
  · cases hj
theorem SInv.next {n : Int} {ps : List (Int × Int)} {tn : List (List Int)} {sg os : List Int} (ok : BookOk n ps) (R : Drw n ps tn sg) (O : POrd n ps os) {i : Nat} {X : Int → Bool} (I : SInv n ps sg os i X) (i0 : 1 ≤ i) {c : Int} (h : os[i]? = some c) :
    (1 ≤ c ∧ c < n) ∧ (parP ps c ∈ nbr ps c) ∧ (sgnOf ps (flG X ps sg) c (parP ps c) = -1 → SInv n ps sg os (i + 1) fun x => isC c x != X x) ∧ (sgnOf ps (flG X ps sg) c (parP ps c) ≠ -1 → SInv n ps sg os (i + 1) X) := by
  have ond : os.Nodup := O.pm.nodup_iff.mpr (allOf_nodup n)
  have il := (List.getElem?_eq_some_iff.mp h).1
  have cn : c ∉ os.take i := fun hc => by
    obtain ⟨j, hj⟩ := List.mem_iff_getElem?.mp hc
    rw [List.getElem?_take] at hj
    split at hj
    · have := (List.getElem?_inj (by omega) ond).mp (hj.trans h.symm)
      omega
    · cases hj
  have c0 : c ≠ 0 := fun e => by
    subst e
    have := (List.getElem?_inj (by omega) ond).mp (O.h0.trans h.symm)
    omega
  obtain ⟨cr, pt⟩ := O.par ok h c0
  obtain ⟨p1, _, p3⟩ := par_ok ok cr.1 cr.2
  have hm := tie_mem ok.pr (nbr_comm.mp p1)
  have sv := R.sgn hm
  have sx := flG_sgn (X := X) R.sl hm
  have xc := I.un c cn
  have pc : parP ps c ≠ c := fun e => cn (e ▸ pt)
  rw [xc] at sx
  refine ⟨cr, p1, fun hs => ?_, fun hs => ?_⟩
  · rw [sx] at hs
    refine ⟨?_, fun x hx => ?_, fun x hx x0 => ?_⟩
    · show (decide ((0 : Int) = c) != X 0) = false
      rw [I.z, decide_eq_false (fun e => c0 e.symm)]; rfl
    · rw [take_succ_of h, List.mem_append, List.mem_singleton, not_or] at hx
      show (decide (x = c) != X x) = false
      rw [I.un x hx.1, decide_eq_false hx.2]; rfl
    · rw [take_succ_of h, List.mem_append, List.mem_singleton] at hx
      rcases hx with hx | hx
      · have xc2 : x ≠ c := fun e => cn (e ▸ hx)
        obtain ⟨j, hj⟩ := List.mem_iff_getElem?.mp hx
        rw [List.getElem?_take] at hj
        split at hj
        · rename_i ji
          obtain ⟨_, px⟩ := O.par ok hj x0
          have pxc : parP ps x ≠ c := fun e => cn (by
            rw [← e]
            obtain ⟨m, hm2⟩ := List.mem_iff_getElem?.mp px
            rw [List.getElem?_take] at hm2
            split at hm2
            · exact List.mem_iff_getElem?.mpr ⟨m, by rw [List.getElem?_take, if_pos (by omega)]; exact hm2⟩
            · cases hm2)
          have := I.one x hx x0
          show sgnOf ps sg x (parP ps x) * eB (decide (x = c) != X x) * eB (decide (parP ps x = c) != X (parP ps x)) = 1
          rw [decide_eq_false xc2, decide_eq_false pxc]
          simpa using this
        · cases hj
      · subst hx
        show sgnOf ps sg x (parP ps x) * eB (decide (x = x) != X x) * eB (decide (parP ps x = x) != X (parP ps x)) = 1
        rw [decide_eq_true rfl, decide_eq_false pc, xc]
        revert hs
        rcases sv with e | e <;> rw [e] <;> cases X (parP ps x) <;> decide
  · rw [sx] at hs
    refine ⟨I.z, fun x hx => ?_, fun x hx x0 => ?_⟩
    · rw [take_succ_of h, List.mem_append, not_or] at hx
      exact I.un x hx.1
    · rw [take_succ_of h, List.mem_append, List.mem_singleton] at hx
      rcases hx with hx | hx
      · exact I.one x hx x0
      · subst hx
        rw [xc]
        revert hs
        rcases sv with e | e <;> rw [e] <;> cases X (parP ps x) <;> decide
theorem SInv.tree {n : Int} {ps : List (Int × Int)} {sg os : List Int} (O : POrd n ps os) {i : Nat} {X : Int → Bool} (I : SInv n ps sg os i X) (hi : os.length ≤ i) : TreeOne n ps sg X := by
  refine ⟨I.z, fun c h0 h1 => I.one c ?_ (by omega)⟩
  rw [List.take_of_length_le hi]
  exact O.pm.mem_iff.mpr (allOf_mem.mpr (by omega))

theorem Drw.beg {n : Int} {ps : List (Int × Int)} {tn : List (List Int)} {sg : List Int} (R : Drw n ps tn sg) : Drw n ps (tn.map begL) sg := by
  refine ⟨by rw [List.length_map]; exact R.tl, fun i r hr => ?_, R.sl, R.sv⟩
  rw [List.getElem?_map, Option.map_eq_some_iff] at hr
  obtain ⟨u, hu, rfl⟩ := hr
  exact (begL_perm u).trans (R.tp i u hu)
/-! ### round the tree -/
def mkT (a b : Int) : Int × Int := (if b < a then b else a, if a < b then b else a)
def trL (n : Int) (ps : List (Int × Int)) : List (Int × Int) := (List.range (n - 1).toNat).map fun (j : Nat) => mkT (1 + (j : Int)) (parP ps (1 + (j : Int)))
theorem mkT_inj {a b c d : Int} (h : mkT a b = mkT c d) : (a = c ∧ b = d) ∨ (a = d ∧ b = c) := by
  unfold mkT at h
  have h1 := congrArg Prod.fst h
  have h2 := congrArg Prod.snd h
  simp only at h1 h2
  split at h1 <;> split at h2 <;> split at h1 <;> split at h2 <;> omega
theorem trL_mem {n : Int} {ps : List (Int × Int)} {q : Int × Int} : q ∈ trL n ps ↔ ∃ c, 1 ≤ c ∧ c < n ∧ q = mkT c (parP ps c) := by
  unfold trL
  rw [List.mem_map]
  constructor
  · rintro ⟨j, hj, rfl⟩
    have := List.mem_range.mp hj
    exact ⟨_, by omega, by omega, rfl⟩
  · rintro ⟨c, h0, h1, rfl⟩
    exact ⟨(c - 1).toNat, List.mem_range.mpr (by omega), by rw [show 1 + (((c - 1).toNat : Nat) : Int) = c by omega]⟩
def begW (r : List Int) (c : Int) : List Int := r.drop (r.idxOf c) ++ r.take (r.idxOf c)
inductive Met where
  | come (c : Int)
  | leave (c : Int)
  | fin (c o : Int)
def metD : Met → D
  | .come c => .tup [.str "come", .int c]
  | .leave c => .tup [.str "leave", .int c]
  | .fin c o => .tup [.str "end", .int c, .int o]
abbrev WS := List Met × List (Int × List Int)
def wStep (T : List (Int × Int)) (tn : List (List Int)) : WS → WS
  | (met, []) => (met, [])
  | (met, (c, []) :: fs) => (met ++ [.leave c], fs)
  | (met, (c, o :: l) :: fs) => if mkT c o ∈ T then (met ++ [.come o], (o, (begW (tn.getD o.toNat []) c).drop 1) :: (c, l) :: fs) else (met ++ [.fin c o], (c, l) :: fs)
def wRun (T : List (Int × Int)) (tn : List (List Int)) : Nat → WS → WS
  | 0, s => s
  | k + 1, s => wRun T tn k (wStep T tn s)
def WalkR (T : List (Int × Int)) (tn : List (List Int)) (s : WS) (out : List Met) : Prop := ∃ k, wRun T tn k s = (out, [])
theorem WalkR.back {T : List (Int × Int)} {tn : List (List Int)} {s : WS} {out : List Met} (h : WalkR T tn (wStep T tn s) out) : WalkR T tn s out := let ⟨k, hk⟩ := h; ⟨k + 1, hk⟩
theorem wRun_stay {T : List (Int × Int)} {tn : List (List Int)} {out : List Met} : ∀ j, wRun T tn j (out, []) = (out, [])
  | 0 => rfl
  | j + 1 => wRun_stay j
theorem wRun_add {T : List (Int × Int)} {tn : List (List Int)} : ∀ (k j : Nat) (s : WS), wRun T tn (k + j) s = wRun T tn j (wRun T tn k s)
  | 0, j, s => by rw [Nat.zero_add]; rfl
  | k + 1, j, s => by
    rw [show k + 1 + j = (k + j) + 1 by omega]
    exact wRun_add k j (wStep T tn s)
theorem WalkR.uniq {T : List (Int × Int)} {tn : List (List Int)} {s : WS} {a b : List Met} (h : WalkR T tn s a) (g : WalkR T tn s b) : a = b := by
  obtain ⟨k, hk⟩ := h
  obtain ⟨j, hj⟩ := g
  have h1 := wRun_add (T := T) (tn := tn) k j s
  have h2 := wRun_add (T := T) (tn := tn) j k s
  rw [hk, wRun_stay] at h1
  rw [hj, wRun_stay, Nat.add_comm, h1] at h2
  exact congrArg Prod.fst h2
/-- frames that end -/
structure FrOk (n : Int) (ps : List (Int × Int)) (q : Int × List Int) : Prop where
  c0 : 0 ≤ q.1 ∧ q.1 < n
  nb : ∀ o ∈ q.2, o ∈ nbr ps q.1
  up : q.1 ≠ 0 → parP ps q.1 ∉ q.2
  len : q.2.length ≤ 56
/-- a step in the tree goes away from 0 -/
theorem tree_away {n : Int} {ps : List (Int × Int)} (ok : BookOk n ps) {c o : Int} {l : List Int} (F : FrOk n ps (c, o :: l)) (h : mkT c o ∈ trL n ps) : (1 ≤ o ∧ o < n) ∧ parP ps o = c := by
  obtain ⟨x, x0, x1, e⟩ := trL_mem.mp h
  have hn := F.nb o List.mem_cons_self
  rcases mkT_inj e with ⟨h1, h2⟩ | ⟨h1, h2⟩
  · have := F.up (by simp only; omega)
    exact absurd (by simp only [h1]; rw [← h2]; exact List.mem_cons_self) this
  · subst h2
    exact ⟨⟨x0, x1⟩, h1.symm⟩
theorem fr_child {n : Int} {ps : List (Int × Int)} {tn : List (List Int)} {sg : List Int} (ok : BookOk n ps) (R : Drw n ps tn sg) {c o : Int} (o0 : 1 ≤ o ∧ o < n) (ho : parP ps o = c) : ∃ r, tn[o.toNat]? = some r ∧ r.Perm (nbr ps o) ∧ c ∈ r ∧ FrOk n ps (o, (begW r c).drop 1) := by
  obtain ⟨r, hr, pr⟩ := R.row (b := o) (by omega) o0.2
  obtain ⟨p1, _, _⟩ := par_ok ok o0.1 o0.2
  rw [ho] at p1
  have cr : c ∈ r := pr.mem_iff.mpr p1
  have rnd : r.Nodup := pr.nodup_iff.mpr (nbr_nodup ok.pr)
  obtain ⟨k, k1, k2, _, k4⟩ := idx_at cr
  have pm : (begW r c).Perm r := rot_perm r _
  have h0 : (begW r c)[0]? = some c := by
    unfold begW
    rw [k4, rot_get (by omega) (by omega), Nat.zero_add, Nat.mod_eq_of_lt k1]; exact k2
  obtain ⟨x, xs, e⟩ := List.exists_cons_of_ne_nil (l := begW r c) (fun z => by rw [z] at h0; simp at h0)
  rw [e] at h0 pm
  have xc : x = c := by simpa using h0
  subst xc
  have nd := pm.nodup_iff.mpr rnd
  have nl := nbr_len ps o
  have l28 := ok.pr.len28 ok.hi
  refine ⟨r, hr, pr, cr, ⟨by simp only; omega, fun y hy => ?_, fun _ => ?_, ?_⟩⟩
  · simp only [e, List.drop_succ_cons, List.drop_zero] at hy
    exact pr.mem_iff.mp (pm.mem_iff.mp (List.mem_cons_of_mem _ hy))
  · simp only [e, List.drop_succ_cons, List.drop_zero, ho]
    exact (List.nodup_cons.mp nd).1
  · have := pm.length_eq
    simp only [e, List.drop_succ_cons, List.drop_zero]
    rw [List.length_cons] at this
    have := pr.length_eq
    omega
def altB (ms : List (Int × Int)) (x y : Int × Int) : Bool := decide ((ms.filter fun z => decide (z = x ∨ z = y)) = [x, y, x, y]) || decide ((ms.filter fun z => decide (z = x ∨ z = y)) = [y, x, y, x])
/-- where the walk begins -/
def wInit (tn : List (List Int)) : WS := ([.come 0], [(0, begW (tn.getD 0 []) ((tn.getD 0 []).headD 0))])
def endsF : List Met → List (Int × Int)
  | [] => []
  | .fin c o :: l => (c, o) :: endsF l
  | .come _ :: l => endsF l
  | .leave _ :: l => endsF l
def chF (n : Int) (ps : List (Int × Int)) : List (Int × Int) := ps.filter fun q => decide (q ∉ trL n ps)
def tabF (n : Int) (ps : List (Int × Int)) (sg : List Int) (ms : List (Int × Int)) : List (List Int) := (chF n ps).map fun x => (chF n ps).map fun y => if x = y then (if sgnOf ps sg x.1 x.2 = -1 then 1 else 0) else if altB ms x y = true then 1 else 0
/-- the ends' ties -/
def EndR (n : Int) (ps : List (Int × Int)) (tn : List (List Int)) (ms : List (Int × Int)) : Prop := ∃ out, WalkR (trL n ps) tn (wInit tn) out ∧ ms = (endsF out).map fun q => mkT q.1 q.2
theorem EndR.uniq {n : Int} {ps : List (Int × Int)} {tn : List (List Int)} {a b : List (Int × Int)} (h : EndR n ps tn a) (g : EndR n ps tn b) : a = b := by
  obtain ⟨x, hx, rfl⟩ := h
  obtain ⟨y, hy, rfl⟩ := g
  rw [hx.uniq hy]
def rkS (st : List (List Int) × Int) (i : Nat) : List (List Int) × Int :=
  match st.1.filter fun r => decide (r.getD i 0 = 1) with
  | [] => st
  | f :: hv => ((st.1.filter fun r => decide (r.getD i 0 = 0)) ++ hv.map fun r => (r.zip f).map fun p => if p.1 = p.2 then 0 else 1, st.2 + 1)
def rankF (rows : List (List Int)) : Int := ((List.range rows.length).foldl rkS (rows, 0)).2
def RankR (n : Int) (ps : List (Int × Int)) (tn : List (List Int)) (sg : List Int) (r : Int) : Prop := ∃ ms, EndR n ps tn ms ∧ r = rankF (tabF n ps sg ms)
theorem RankR.uniq {n : Int} {ps : List (Int × Int)} {tn : List (List Int)} {sg : List Int} {a b : Int} (h : RankR n ps tn sg a) (g : RankR n ps tn sg b) : a = b := by
  obtain ⟨x, hx, rfl⟩ := h
  obtain ⟨y, hy, rfl⟩ := g
  rw [hx.uniq hy]

def comesF : List Met → List Int
  | [] => []
  | .come c :: l => c :: comesF l
  | .leave _ :: l => comesF l
  | .fin _ _ :: l => comesF l
theorem comesF_app (a b : List Met) : comesF (a ++ b) = comesF a ++ comesF b := by
  induction a with
  | nil => rfl
  | cons x a ih => cases x <;> simp [comesF, ih]
/-- a walk round the tree, under way -/
structure FrI (n : Int) (ps : List (Int × Int)) (met : List Met) (fs : List (Int × List Int)) : Prop where
  ok : ∀ q ∈ fs, FrOk n ps q ∧ q.2.Nodup
  nd : (comesF met).Nodup
  rg : ∀ c ∈ comesF met, 0 ≤ c ∧ c < n
  fr : (fs.map (·.1)).Nodup
  inC : ∀ q ∈ fs, q.1 ∈ comesF met
  par : ∀ x ∈ comesF met, x ≠ 0 → parP ps x ∈ comesF met
  new : ∀ q ∈ fs, ∀ o ∈ q.2, 1 ≤ o → parP ps o = q.1 → o ∉ comesF met
/-- what is still to come -/
def potF (met : List Met) (fs : List (Int × List Int)) : Nat := (fs.map fun q => q.2.length + 1).sum + 58 * (8 - (comesF met).length)
theorem FrI.few {n : Int} {ps : List (Int × Int)} {met : List Met} {fs : List (Int × List Int)} (I : FrI n ps met fs) (n8 : n ≤ 8) : (comesF met).length ≤ 8 := by
  have := nodup_lenG (m := allOf n) I.nd fun x hx => allOf_mem.mpr (I.rg x hx)
  rw [allOf_len] at this
  omega
theorem FrI.leave {n : Int} {ps : List (Int × Int)} {met : List Met} {c : Int} {fs : List (Int × List Int)} (I : FrI n ps met ((c, []) :: fs)) : FrI n ps (met ++ [.leave c]) fs ∧ potF (met ++ [.leave c]) fs + 1 = potF met ((c, []) :: fs) := by
  have e : comesF (met ++ [.leave c]) = comesF met := by rw [comesF_app]; simp [comesF]
  refine ⟨⟨fun q hq => I.ok q (List.mem_cons_of_mem _ hq), e ▸ I.nd, fun x hx => I.rg x (e ▸ hx), (List.nodup_cons.mp I.fr).2, fun q hq => e ▸ I.inC q (List.mem_cons_of_mem _ hq), fun x hx h => e ▸ I.par x (e ▸ hx) h, fun q hq o ho h1 h2 => e ▸ I.new q (List.mem_cons_of_mem _ hq) o ho h1 h2⟩, ?_⟩
  unfold potF
  rw [e]
  simp
  omega
theorem FrI.fin {n : Int} {ps : List (Int × Int)} {met : List Met} {c o : Int} {l : List Int} {fs : List (Int × List Int)} (I : FrI n ps met ((c, o :: l) :: fs)) : FrI n ps (met ++ [.fin c o]) ((c, l) :: fs) ∧ potF (met ++ [.fin c o]) ((c, l) :: fs) + 1 = potF met ((c, o :: l) :: fs) := by
  have e : comesF (met ++ [.fin c o]) = comesF met := by rw [comesF_app]; simp [comesF]
  obtain ⟨F, nd⟩ := I.ok _ List.mem_cons_self
  refine ⟨⟨fun q hq => ?_, e ▸ I.nd, fun x hx => I.rg x (e ▸ hx), I.fr, fun q hq => ?_, fun x hx h => e ▸ I.par x (e ▸ hx) h, fun q hq y hy h1 h2 => ?_⟩, ?_⟩
  · rcases List.mem_cons.mp hq with z | z
    · subst z
      exact ⟨⟨F.c0, fun y hy => F.nb y (List.mem_cons_of_mem _ hy), fun h hm => F.up h (List.mem_cons_of_mem _ hm), by have := F.len; simp at this ⊢; omega⟩, (List.nodup_cons.mp nd).2⟩
    · exact I.ok q (List.mem_cons_of_mem _ z)
  · rw [e]
    rcases List.mem_cons.mp hq with z | z
    · subst z; exact I.inC (c, o :: l) List.mem_cons_self
    · exact I.inC q (List.mem_cons_of_mem _ z)
  · rw [e]
    rcases List.mem_cons.mp hq with z | z
    · subst z; exact I.new _ List.mem_cons_self y (List.mem_cons_of_mem _ hy) h1 h2
    · exact I.new q (List.mem_cons_of_mem _ z) y hy h1 h2
  · unfold potF
    rw [e]
    simp
    omega
theorem FrI.come {n : Int} {ps : List (Int × Int)} {tn : List (List Int)} {sg : List Int} (bo : BookOk n ps) (R : Drw n ps tn sg) {met : List Met} {c o : Int} {l : List Int} {fs : List (Int × List Int)} (I : FrI n ps met ((c, o :: l) :: fs)) (h : mkT c o ∈ trL n ps) :
    ∃ r, tn[o.toNat]? = some r ∧ c ∈ r ∧ r.length ≤ 56 ∧ (0 ≤ o ∧ o < n) ∧ FrI n ps (met ++ [.come o]) ((o, (begW r c).drop 1) :: (c, l) :: fs) ∧ potF (met ++ [.come o]) ((o, (begW r c).drop 1) :: (c, l) :: fs) + 1 ≤ potF met ((c, o :: l) :: fs) := by
  have e : comesF (met ++ [.come o]) = comesF met ++ [o] := by rw [comesF_app]; simp [comesF]
  obtain ⟨F, nd⟩ := I.ok _ List.mem_cons_self
  obtain ⟨o0, ho⟩ := tree_away bo F h
  obtain ⟨r, hr, pr, cr, F2⟩ := fr_child bo R o0 ho
  have on := I.new _ List.mem_cons_self o List.mem_cons_self o0.1 ho
  have rnd : r.Nodup := pr.nodup_iff.mpr (nbr_nodup bo.pr)
  have nl := nbr_len ps o
  have l28 := bo.pr.len28 bo.hi
  have rl := pr.length_eq
  have bl : (begW r c).length = r.length := (rot_perm r _).length_eq
  have n8 := bo.hi
  have few : (comesF met ++ [o]).length ≤ 8 := by
    have := nodup_lenG (l := comesF met ++ [o]) (m := allOf n) (by
      rw [List.nodup_append]
      exact ⟨I.nd, by simp, fun a ha b hb => by rw [List.mem_singleton.mp hb]; exact fun z => on (z ▸ ha)⟩) fun x hx => by
        rcases List.mem_append.mp hx with z | z
        · exact allOf_mem.mpr (I.rg x z)
        · rw [List.mem_singleton.mp z]; exact allOf_mem.mpr (by omega)
    rw [allOf_len] at this
    omega
  have pc : c ∈ comesF met := I.inC _ List.mem_cons_self
  have of : o ∉ (((c, o :: l) :: fs).map (·.1)) := fun hm => by
    obtain ⟨q, hq, eq⟩ := List.mem_map.mp hm
    exact on (eq ▸ I.inC q hq)
  refine ⟨r, hr, cr, by omega, by omega, ⟨fun q hq => ?_, ?_, fun x hx => ?_, ?_, fun q hq => ?_, fun x hx x0 => ?_, fun q hq y hy h1 h2 => ?_⟩, ?_⟩
  · rcases List.mem_cons.mp hq with z | z
    · subst z
      refine ⟨F2, ?_⟩
      exact List.Nodup.sublist (List.drop_sublist _ _) ((rot_perm r _).nodup_iff.mpr rnd)
    · rcases List.mem_cons.mp z with z | z
      · subst z
        exact ⟨⟨F.c0, fun y hy => F.nb y (List.mem_cons_of_mem _ hy), fun h hm => F.up h (List.mem_cons_of_mem _ hm), by have := F.len; simp at this ⊢; omega⟩, (List.nodup_cons.mp nd).2⟩
      · exact I.ok q (List.mem_cons_of_mem _ z)
  · rw [e, List.nodup_append]
    exact ⟨I.nd, by simp, fun a ha b hb => by rw [List.mem_singleton.mp hb]; exact fun z => on (z ▸ ha)⟩
  · rw [e] at hx
    rcases List.mem_append.mp hx with z | z
    · exact I.rg x z
    · rw [List.mem_singleton.mp z]; omega
  · exact List.nodup_cons.mpr ⟨of, I.fr⟩
  · rw [e, List.mem_append]
    rcases List.mem_cons.mp hq with z | z
    · subst z; exact .inr (List.mem_singleton.mpr rfl)
    · rcases List.mem_cons.mp z with z | z
      · subst z; exact .inl pc
      · exact .inl (I.inC q (List.mem_cons_of_mem _ z))
  · rw [e] at hx ⊢
    rw [List.mem_append]
    rcases List.mem_append.mp hx with z | z
    · exact .inl (I.par x z x0)
    · rw [List.mem_singleton.mp z, ho]; exact .inl pc
  · rw [e, List.mem_append, List.mem_singleton, not_or]
    rcases List.mem_cons.mp hq with z | z
    · subst z
      simp only at h2 hy
      refine ⟨fun hm => on ?_, fun z => ?_⟩
      · have := I.par y hm (by omega)
        rwa [h2] at this
      · have := F2.nb y hy
        rw [z] at this
        exact (nbr_rg bo.pr this).2.2 rfl
    · rcases List.mem_cons.mp z with z | z
      · subst z
        exact ⟨I.new _ List.mem_cons_self y (List.mem_cons_of_mem _ hy) h1 h2, fun z => (List.nodup_cons.mp nd).1 (z ▸ hy)⟩
      · refine ⟨I.new q (List.mem_cons_of_mem _ z) y hy h1 h2, fun z2 => ?_⟩
        have : q.1 = c := by rw [← h2, z2, ho]
        exact (List.nodup_cons.mp I.fr).1 (List.mem_map.mpr ⟨q, z, this⟩)
  · unfold potF
    rw [e]
    rw [List.length_append] at few ⊢
    simp at few ⊢
    omega

def frD (g : Int × Addr × List Int) : D := .tup [.int g.1, .ref g.2.1]
structure WkM (M M' : Mp) (f w : Addr) (met : List Met) (gs : List (Int × Addr × List Int)) : Prop where
  mf : M' f = some (.lst (met.map metD))
  mw : M' w = some (.lst ((gs.map frD).reverse))
  at_ : ∀ g ∈ gs, M' g.2.1 = some (.lst (g.2.2.map .int))
  nd : (gs.map (·.2.1)).Nodup
  ne : ∀ g ∈ gs, g.2.1 ≠ f ∧ g.2.1 ≠ w ∧ M g.2.1 = none
  fw : f ≠ w
  f0 : M f = none
  w0 : M w = none
  ex : Ext M M' []
theorem WkM.leave {M M' : Mp} {f w : Addr} {met : List Met} {c : Int} {a : Addr} {gs : List (Int × Addr × List Int)} (W : WkM M M' f w met ((c, a, []) :: gs)) : WkM M (mset (mset M' f (.lst (met.map metD ++ [.tup [.str "leave", .int c]]))) w (.lst (((gs.map frD).reverse ++ [frD (c, a, [])]).dropLast))) f w (met ++ [.leave c]) gs := by
  refine ⟨by rw [mset_ne W.fw, mset_same, List.map_append]; rfl, by rw [mset_same, List.dropLast_concat], fun g hg => ?_, (List.nodup_cons.mp W.nd).2, fun g hg => W.ne g (List.mem_cons_of_mem _ hg), W.fw, W.f0, W.w0, (W.ex.mset W.f0).mset W.w0⟩
  have h := W.ne g (List.mem_cons_of_mem _ hg)
  rw [mset_ne h.2.1, mset_ne h.1]
  exact W.at_ g (List.mem_cons_of_mem _ hg)
theorem WkM.pop {M M' : Mp} {f w : Addr} {met : List Met} {c o : Int} {a : Addr} {l : List Int} {gs : List (Int × Addr × List Int)} (W : WkM M M' f w met ((c, a, o :: l) :: gs)) (x : Met) : WkM M (mset (mset M' a (.lst (l.map .int))) f (.lst (met.map metD ++ [metD x]))) f w (met ++ [x]) ((c, a, l) :: gs) := by
  have h0 := W.ne _ List.mem_cons_self
  simp only at h0
  refine ⟨by rw [mset_same, List.map_append]; rfl, by rw [mset_ne W.fw.symm, mset_ne h0.2.1.symm]; exact W.mw, fun g hg => ?_, W.nd, fun g hg => ?_, W.fw, W.f0, W.w0, (W.ex.mset h0.2.2).mset W.f0⟩
  · rcases List.mem_cons.mp hg with z | z
    · subst z
      simp only
      rw [mset_ne h0.1, mset_same]
    · have h := W.ne g (List.mem_cons_of_mem _ z)
      have ga : g.2.1 ≠ a := fun e => (List.nodup_cons.mp W.nd).1 (List.mem_map.mpr ⟨g, z, e⟩)
      rw [mset_ne h.1, mset_ne ga]
      exact W.at_ g (List.mem_cons_of_mem _ z)
  · rcases List.mem_cons.mp hg with z | z
    · subst z; exact h0
    · exact W.ne g (List.mem_cons_of_mem _ z)
theorem WkM.push {M M' : Mp} {f w : Addr} {met : List Met} {gs : List (Int × Addr × List Int)} (W : WkM M M' f w met gs) {a2 a3 : Addr} {u : MO} {o : Int} {l : List Int} (h2 : M' a2 = none) (h3 : mset M' a2 u a3 = none) : WkM M (mset (mset (mset M' a2 u) a3 (.lst (l.map .int))) w (.lst ((gs.map frD).reverse ++ [.tup [.int o, .ref a3]]))) f w met ((o, a3, l) :: gs) := by
  have n32 : a3 ≠ a2 := fun e => by rw [e, mset_same] at h3; cases h3
  have h3' : M' a3 = none := by rwa [mset_ne n32] at h3
  have f2 : f ≠ a2 := fun e => by have := W.mf; rw [e, h2] at this; cases this
  have f3 : f ≠ a3 := fun e => by have := W.mf; rw [e, h3'] at this; cases this
  have w2 : w ≠ a2 := fun e => by have := W.mw; rw [e, h2] at this; cases this
  have w3 : w ≠ a3 := fun e => by have := W.mw; rw [e, h3'] at this; cases this
  have m2 := W.ex.fresh (by simp) h2
  have m3 := W.ex.fresh (by simp) h3'
  refine ⟨by rw [mset_ne W.fw, mset_ne f3, mset_ne f2]; exact W.mf, by rw [mset_same, List.map_cons, List.reverse_cons]; rfl, fun g hg => ?_, ?_, fun g hg => ?_, W.fw, W.f0, W.w0, ((W.ex.mset m2).mset m3).mset W.w0⟩
  · rcases List.mem_cons.mp hg with z | z
    · subst z
      simp only
      rw [mset_ne w3.symm, mset_same]
    · have h := W.at_ g z
      have g2 : g.2.1 ≠ a2 := fun e => by rw [e, h2] at h; cases h
      have g3 : g.2.1 ≠ a3 := fun e => by rw [e, h3'] at h; cases h
      rw [mset_ne (W.ne g z).2.1, mset_ne g3, mset_ne g2]
      exact h
  · refine List.nodup_cons.mpr ⟨fun hm => ?_, W.nd⟩
    obtain ⟨g, hg, e⟩ := List.mem_map.mp hm
    have h := W.at_ g hg
    rw [e, h3'] at h; cases h
  · rcases List.mem_cons.mp hg with z | z
    · subst z
      exact ⟨f3.symm, w3.symm, m3⟩
    · exact W.ne g z

/-! ### rounds of a switched drawing -/
def phiS (X : Int → Bool) (s : Stp) : Stp := (s.1, s.2.1, s.2.2 * eB (X s.1))
theorem mod_rev {len x k : Int} (hl : 0 < len) (hk : x % len = k) : (len - 1 - x) % len = len - 1 - k := by
  have h1 := Int.emod_add_mul_ediv x len
  have k0 : 0 ≤ k := hk ▸ Int.emod_nonneg _ (by omega)
  have k1 : k < len := hk ▸ Int.emod_lt_of_pos _ hl
  rw [hk] at h1
  have e : len - 1 - x = (len - 1 - k) + len * (-(x / len)) := by
    rw [Int.mul_neg]
    omega
  rw [e, Int.add_mul_emod_self_left]
  exact Int.emod_eq_of_lt (by omega) (by omega)
theorem phi_beh {n : Int} {ps : List (Int × Int)} {tn : List (List Int)} {sg : List Int} (ok : BookOk n ps) (R : Drw n ps tn sg) (X : Int → Bool) {s : Stp} (S : StpP n ps s) : StpP n ps (phiS X s) ∧ behS ps (flT X tn) (flG X ps sg) (phiS X s) = phiS X (behS ps tn sg s) := by
  obtain ⟨a, b, t⟩ := s
  have S2 : StpP n ps (phiS X (a, b, t)) := by
    refine ⟨S.a0, S.b0, S.nb, ?_⟩
    have := S.t
    unfold phiS
    simp only at this ⊢
    rcases this with rfl | rfl <;> cases X a <;> decide
  refine ⟨S2, ?_⟩
  obtain ⟨r, j, u, er, pr, rnd, jp, ej, jl, eu, tu, u1, e⟩ := beh_parts ok R S
  have b0 := S.b0
  simp only at b0
  have su := flG_sgn (X := X) R.sl (tie_mem ok.pr S.nb)
  simp only at su
  rw [eu] at su
  have hr : tn[b.toNat]? = some r := by
    obtain ⟨r2, h2, _⟩ := R.row b0.1 b0.2
    rw [List.getD_eq_getElem?_getD, h2] at er
    rw [h2, ← er]; rfl
  have er2 : (flT X tn).getD b.toNat [] = if X b = true then r.reverse else r := by
    rw [List.getD_eq_getElem?_getD, flT_get, hr, Int.toNat_of_nonneg b0.1]; rfl
  have et : t * eB (X a) * (u * eB (X a) * eB (X b)) = t * u * eB (X b) := by
    cases X a <;> cases X b <;> simp [eB, Int.neg_mul, Int.mul_neg]
  have m0 : 0 ≤ ((j : Int) + t * u) % (r.length : Int) := Int.emod_nonneg _ (by omega)
  have m1 : ((j : Int) + t * u) % (r.length : Int) < r.length := Int.emod_lt_of_pos _ (by omega)
  rw [e]
  unfold behS phiS
  simp only [er2, su, et]
  cases hb : X b with
  | false =>
    rw [if_neg Bool.false_ne_true, ej]
    have e1 : eB false = 1 := rfl
    rw [e1, Int.mul_one]
  | true =>
    rw [if_pos rfl]
    have e1 : eB true = -1 := rfl
    rw [e1]
    have ei : r.reverse.idxOf a = r.length - 1 - j := by
      have rp : r.reverse.Nodup := (List.reverse_perm r).nodup_iff.mpr rnd
      have h1 : r.reverse[r.length - 1 - j]? = some a := by
        rw [List.getElem?_reverse (by omega), show r.length - 1 - (r.length - 1 - j) = j by omega]; exact jp
      obtain ⟨i, i1, i2, _, i4⟩ := idx_at (List.mem_of_getElem? h1)
      have := (List.getElem?_inj i1 rp).mp (i2.trans h1.symm)
      omega
    rw [ei, List.length_reverse]
    have em : (((r.length - 1 - j : Nat) : Int) + t * u * -1) % (r.length : Int) = (r.length : Int) - 1 - ((j : Int) + t * u) % (r.length : Int) := by
      have key : ((r.length - 1 - j : Nat) : Int) + t * u * -1 = (r.length : Int) - 1 - ((j : Int) + t * u) := by
        generalize t * u = v
        omega
      rw [key]
      exact mod_rev (by omega) rfl
    rw [em]
    generalize ((j : Int) + t * u) % (r.length : Int) = k at *
    have eg : r.reverse.getD ((r.length : Int) - 1 - k).toNat 0 = r.getD k.toNat 0 := by
      rw [List.getD_eq_getElem?_getD, List.getElem?_reverse (by omega), List.getD_eq_getElem?_getD]
      rw [show r.length - 1 - ((r.length : Int) - 1 - k).toNat = k.toNat by omega]
    rw [eg]
theorem phi_back {X : Int → Bool} (s : Stp) : phiS X (phiS X s) = s := by
  obtain ⟨a, b, t⟩ := s
  unfold phiS
  simp only
  rw [Int.mul_assoc, eB_sq, Int.mul_one]
theorem Rnds.flip {n : Int} {ps : List (Int × Int)} {tn : List (List Int)} {sg : List Int} (ok : BookOk n ps) (R : Drw n ps tn sg) (X : Int → Bool) {rows : List (List Stp)} (h : Rnds n ps tn sg rows) : Rnds n ps (flT X tn) (flG X ps sg) (rows.map fun r => r.map (phiS X)) := by
  have fl : (rows.map fun r => r.map (phiS X)).flatten = rows.flatten.map (phiS X) := by rw [List.map_flatten]
  refine ⟨fun u hu => ?_, ?_, fun x => ?_⟩
  · obtain ⟨r, hr, rfl⟩ := List.mem_map.mp hu
    have c := h.cyc r hr
    refine ⟨by simp [c.ne], List.pairwise_map.mpr (c.nd.imp fun {a b} ne e => ne (by rw [← phi_back (X := X) a, e, phi_back])), fun i x hi => ?_⟩
    rw [List.getElem?_map, Option.map_eq_some_iff] at hi
    obtain ⟨s, hs, rfl⟩ := hi
    rw [List.length_map, List.getElem?_map, c.st i s hs]
    have sS := (h.all s).mp (List.mem_flatten.mpr ⟨r, hr, List.mem_of_getElem? hs⟩)
    show some (phiS X (behS ps tn sg s)) = _
    rw [(phi_beh ok R X sS).2]
  · rw [fl]
    exact List.pairwise_map.mpr (h.nd.imp fun {a b} ne e => ne (by rw [← phi_back (X := X) a, e, phi_back]))
  · rw [fl, List.mem_map]
    constructor
    · rintro ⟨s, hs, rfl⟩
      exact (phi_beh ok R X ((h.all s).mp hs)).1
    · intro hx
      exact ⟨phiS X x, (h.all _).mpr (phi_beh ok R X hx).1, phi_back x⟩
theorem Rnds.len2 {n : Int} {ps : List (Int × Int)} {tn : List (List Int)} {sg : List Int} {rs us : List (List Stp)} (h : Rnds n ps tn sg rs) (g : Rnds n ps tn sg us) : rs.length = us.length := by
  obtain ⟨vs, rt⟩ := exRot us fun r hr => (g.cyc r hr).ne
  obtain ⟨h2, hb⟩ := Rnds.rot g rt
  have := (rt.cyc (f := behS ps tn sg) g.cyc).2.2.2
  rw [← this]
  exact Rnds.len h h2 hb
/-- what worth tells -/
def WorR (n : Int) (ps : List (Int × Int)) (tn : List (List Int)) (sg : List Int) (w : Int) : Prop := (ps = [] → w = n + 1) ∧ (ps ≠ [] → ∃ rows, Rnds n ps tn sg rows ∧ w = n - (ps.length : Int) + ((rows.length / 2 : Nat) : Int))
theorem WorR.same {n : Int} {ps : List (Int × Int)} {tn : List (List Int)} {sg : List Int} (ok : BookOk n ps) (R : Drw n ps tn sg) (X : Int → Bool) {a b : Int} (h : WorR n ps tn sg a) (g : WorR n ps (flT X tn) (flG X ps sg) b) : b = a := by
  by_cases z : ps = []
  · rw [h.1 z, g.1 z]
  · obtain ⟨x, hx, rfl⟩ := h.2 z
    obtain ⟨y, hy, rfl⟩ := g.2 z
    have := Rnds.len2 (Rnds.flip ok R X hx) hy
    rw [List.length_map] at this
    rw [this]

/-! ### corners of rounds counted -/
theorem Cyc.const {α β : Type} {f : α → α} {r : List α} (h : Cyc f r) (φ : α → β) (hφ : ∀ s ∈ r, φ (f s) = φ s) {a b : α} (ha : a ∈ r) (hb : b ∈ r) : φ a = φ b := by
  have hp := h.pos
  have key : ∀ (i : Nat) (x : α), r[i]? = some x → φ x = φ r[0] := fun i => by
    induction i with
    | zero =>
      intro x hx
      rw [List.getElem?_eq_getElem hp] at hx
      rw [Option.some.inj hx]
    | succ i ih =>
      intro x hx
      have il := (List.getElem?_eq_some_iff.mp hx).1
      have h1 : r[i]? = some r[i] := List.getElem?_eq_getElem (by omega)
      have h2 := h.st _ _ h1
      rw [Nat.mod_eq_of_lt il, hx] at h2
      rw [Option.some.inj h2, hφ _ (List.mem_of_getElem? h1)]
      exact ih _ h1
  obtain ⟨i, hi⟩ := List.getElem?_of_mem ha
  obtain ⟨j, hj⟩ := List.getElem?_of_mem hb
  rw [key i a hi, key j b hj]
theorem Cyc.both {α : Type} {f : α → α} {S : α → Prop} {m : α → α} (M : Mir f S m) {r : List α} (h : Cyc f r) (hS : ∀ x ∈ r, S x) {x : α} (hx : x ∈ r) : m x ∉ r := fun hm => by
  have hp := h.pos
  have h0 : r[0]? = some r[0] := List.getElem?_eq_getElem hp
  have cm := h.mirror M hS
  have := cm.sub h (y := m x) (by rw [List.mem_reverse]; exact List.mem_map_of_mem hx) hm (m r[0]) (by rw [List.mem_reverse]; exact List.mem_map_of_mem (List.mem_of_getElem? h0))
  exact h.not_own M hS h0 this
theorem count2 {α κ : Type} [DecidableEq α] [DecidableEq κ] {f : α → α} {S : α → Prop} {m : α → α} (M : Mir f S m) {rows : List (List α)} (h : Rnd f S rows) (T : α → κ)
    (hT : ∀ s s', S s → S s' → T s' = T s → s' = s ∨ s' = f (m s)) (hm : ∀ s, S s → T (f (m s)) = T s) (fS : ∀ s, S s → S (f s))
    {roots : List κ} (nd : roots.Nodup) (sk : κ → α) (hsk : ∀ k ∈ roots, S (sk k) ∧ T (sk k) = k) (rt : κ → κ) (A : ∀ s, S s → rt (T (f s)) = rt (T s)) (rr : ∀ k ∈ roots, rt k = k) (rin : ∀ s, S s → rt (T s) ∈ roots)
    (B : ∀ g : κ → Bool, (∀ s, S s → g (T (f s)) = g (T s)) → ∀ s, S s → g (rt (T s)) = g (T s)) : rows.length = 2 * roots.length := by
  have hS : ∀ r ∈ rows, ∀ x ∈ r, S x := fun r hr x hx => (h.all x).mp (List.mem_flatten.mpr ⟨r, hr, hx⟩)
  have hm2 : ∀ s, S s → T (m s) = T (f s) := fun s hs => by
    rw [← hm (f s) (fS s hs), M.fm s hs]
  have back : ∀ r ∈ rows, ∀ s, S s → f s ∈ r → s ∈ r := fun r hr s hs hf => by
    obtain ⟨a, ar, ea⟩ := (h.cyc r hr).pred hf
    rw [M.inj s a hs (hS r hr a ar) ea]; exact ar
  have inv : ∀ r ∈ rows, ∀ s, S s → ((∃ x ∈ r, T x = T (f s)) ↔ ∃ x ∈ r, T x = T s) := fun r hr s hs => by
    have cr := h.cyc r hr
    constructor
    · rintro ⟨x, xr, hx⟩
      rcases hT (f s) x (fS s hs) (hS r hr x xr) hx with e | e
      · rw [e] at xr; exact ⟨s, back r hr s hs xr, rfl⟩
      · rw [M.fm s hs] at e
        rw [e] at xr
        exact ⟨f (m s), cr.next xr, hm s hs⟩
    · rintro ⟨x, xr, hx⟩
      rcases hT s x hs (hS r hr x xr) hx with e | e
      · rw [e] at xr; exact ⟨f s, cr.next xr, rfl⟩
      · rw [e] at xr
        exact ⟨m s, back r hr _ (M.to s hs) xr, hm2 s hs⟩
  let row : α → List α := fun s => (rows.find? fun r => decide (s ∈ r)).getD []
  have rowOk : ∀ s, S s → row s ∈ rows ∧ s ∈ row s := fun s hs => by
    obtain ⟨r, hr, sr⟩ := List.mem_flatten.mp ((h.all s).mpr hs)
    have : (rows.find? fun r => decide (s ∈ r)).isSome = true := by
      rw [List.find?_isSome]; exact ⟨r, hr, decide_eq_true sr⟩
    obtain ⟨v, hv⟩ := Option.isSome_iff_exists.mp this
    have e : row s = v := by show (rows.find? _).getD [] = v; rw [hv]; rfl
    rw [e]
    exact ⟨List.mem_of_find?_eq_some hv, by have := List.find?_some hv; simpa using this⟩
  have ne2 : ∀ s, S s → row s ≠ row (f (m s)) := fun s hs e => by
    obtain ⟨h1, h2⟩ := rowOk s hs
    obtain ⟨g1, g2⟩ := rowOk (f (m s)) (fS _ (M.to s hs))
    rw [← e] at g2
    exact (h.cyc _ h1).both M (hS _ h1) h2 (back _ h1 _ (M.to s hs) g2)
  have same : ∀ r ∈ rows, ∀ x ∈ r, ∀ y ∈ r, rt (T x) = rt (T y) := fun r hr x hx y hy => (h.cyc r hr).const (fun s => rt (T s)) (fun s hs => A s (hS r hr s hs)) hx hy
  have tch : ∀ k ∈ roots, ∀ r, r = row (sk k) ∨ r = row (f (m (sk k))) → r ∈ rows ∧ ∃ x ∈ r, T x = k := fun k hk r e => by
    obtain ⟨h1, h2⟩ := hsk k hk
    rcases e with e | e
    · obtain ⟨g1, g2⟩ := rowOk _ h1
      rw [e]; exact ⟨g1, _, g2, h2⟩
    · obtain ⟨g1, g2⟩ := rowOk _ (fS _ (M.to _ h1))
      rw [e]; exact ⟨g1, _, g2, by rw [hm _ h1, h2]⟩
  have pm : rows.Perm (roots.flatMap fun k => [row (sk k), row (f (m (sk k)))]) := by
    refine (List.perm_ext_iff_of_nodup h.rows_nd ?_).mpr fun r => ?_
    · refine List.pairwise_flatMap.mpr ⟨fun k hk => by simp [ne2 _ (hsk k hk).1], List.Pairwise.imp_of_mem (fun {a b} ha hb ne x hx y hy e => ne ?_) nd⟩
      obtain ⟨x1, x, xr, hxa⟩ := tch a ha x (by simpa using hx)
      obtain ⟨y1, y, yr, hyb⟩ := tch b hb y (by simpa using hy)
      subst e
      have := same _ x1 x xr y yr
      rw [hxa, hyb, rr a ha, rr b hb] at this
      exact this
    · constructor
      · intro hr
        have cr := h.cyc r hr
        obtain ⟨x0, s0⟩ := List.exists_mem_of_ne_nil r cr.ne
        have S0 := hS r hr _ s0
        have k0 := rin _ S0
        have hB := B (fun k => decide (∃ x ∈ r, T x = k)) (fun s hs => decide_eq_decide.mpr (inv r hr s hs)) _ S0
        have hB : decide (∃ x ∈ r, T x = rt (T x0)) = true := hB.trans (decide_eq_true ⟨_, s0, rfl⟩)
        obtain ⟨x, xr, hx⟩ := of_decide_eq_true hB
        obtain ⟨g1, g2⟩ := hsk _ k0
        rw [List.mem_flatMap]
        refine ⟨_, k0, ?_⟩
        rcases hT _ x g1 (hS r hr x xr) (hx.trans g2.symm) with e | e
        · obtain ⟨q1, q2⟩ := rowOk _ g1
          rw [h.one hr q1 xr (e ▸ q2)]
          exact List.mem_cons_self
        · obtain ⟨q1, q2⟩ := rowOk _ (fS _ (M.to _ g1))
          rw [h.one hr q1 xr (e ▸ q2)]
          exact List.mem_cons_of_mem _ List.mem_cons_self
      · intro hr
        obtain ⟨k, hk, e⟩ := List.mem_flatMap.mp hr
        exact (tch k hk r (by simpa using e)).1
  rw [pm.length_eq]
  clear pm tch same rin rr hsk nd
  induction roots with
  | nil => rfl
  | cons k roots ih => rw [List.flatMap_cons, List.length_append, ih, List.length_cons]; simp; omega
/-! ### lots put together -/
def itF {κ : Type} (f : κ → κ) : Nat → κ → κ
  | 0, x => x
  | m + 1, x => itF f m (f x)
theorem itF_fix {κ : Type} {f : κ → κ} {x : κ} (h : f x = x) : ∀ m, itF f m x = x
  | 0 => rfl
  | m + 1 => by show itF f m (f x) = x; rw [h]; exact itF_fix h m
theorem itF_add {κ : Type} (f : κ → κ) : ∀ (a b : Nat) (x : κ), itF f (a + b) x = itF f b (itF f a x)
  | 0, b, x => by rw [Nat.zero_add]; rfl
  | a + 1, b, x => by
    rw [show a + 1 + b = (a + b) + 1 by omega]
    exact itF_add f a b (f x)
theorem itF_in {κ : Type} {f : κ → κ} {ks : List κ} (h : ∀ x ∈ ks, f x ∈ ks) : ∀ m, ∀ x ∈ ks, itF f m x ∈ ks
  | 0, x, hx => hx
  | m + 1, x, hx => itF_in h m (f x) (h x hx)
structure UfI {κ : Type} (ks : List κ) (prs : List (κ × κ)) (i : Nat) (f : κ → κ) : Prop where
  to : ∀ x ∈ ks, f x ∈ ks
  rt : ∀ x ∈ ks, f (itF f i x) = itF f i x
  same : ∀ p ∈ prs, itF f i p.1 = itF f i p.2
  inv : ∀ g : κ → Bool, (∀ p ∈ prs, g p.1 = g p.2) → ∀ x ∈ ks, g (f x) = g x
  pk : ∀ p ∈ prs, p.1 ∈ ks ∧ p.2 ∈ ks
theorem UfI.all {κ : Type} {ks : List κ} {prs : List (κ × κ)} {i : Nat} {f : κ → κ} (U : UfI ks prs i f) {g : κ → Bool} (hg : ∀ p ∈ prs, g p.1 = g p.2) : ∀ m, ∀ x ∈ ks, g (itF f m x) = g x
  | 0, x, _ => rfl
  | m + 1, x, hx => by
    show g (itF f m (f x)) = g x
    rw [U.all hg m (f x) (U.to x hx), U.inv g hg x hx]
theorem UfI.start {κ : Type} (ks : List κ) : UfI ks [] 0 (fun x => x) := ⟨fun x h => h, fun x h => rfl, fun p h => (nomatch h), fun g _ x _ => rfl, fun p h => (nomatch h)⟩
/-- the loop to the root: after j steps -/
theorem UfI.root {κ : Type} {ks : List κ} {prs : List (κ × κ)} {i : Nat} {f : κ → κ} (U : UfI ks prs i f) {x : κ} {j : Nat} (hj : j ≤ i) (h : f (itF f j x) = itF f j x) : itF f j x = itF f i x := by
  obtain ⟨k, rfl⟩ : ∃ k, i = j + k := ⟨i - j, by omega⟩
  rw [itF_add, itF_fix h]
theorem uf_set {κ : Type} [DecidableEq κ] {f : κ → κ} {a b : κ} (ha : f a = a) (hb : f b = b) : ∀ (m : Nat) (z : κ), f (itF f m z) = itF f m z → itF (fun k => if k = b then a else f k) (m + 1) z = if itF f m z = b then a else itF f m z := by
  have fa : (if a = b then a else f a) = a := by by_cases e : a = b <;> simp [e, ha, hb]
  intro m
  induction m with
  | zero =>
    intro z hz
    show (if z = b then a else f z) = if z = b then a else z
    rw [show f z = z from hz]
  | succ m ih =>
    intro z hz
    show itF _ (m + 1) (if z = b then a else f z) = _
    by_cases e : z = b
    · have : itF f (m + 1) z = b := by rw [e]; exact itF_fix hb _
      rw [if_pos e, this, if_pos rfl]
      exact itF_fix (f := fun k => if k = b then a else f k) fa _
    · rw [if_neg e]
      exact ih (f z) hz
theorem UfI.next {κ : Type} [DecidableEq κ] {ks : List κ} {prs : List (κ × κ)} {i : Nat} {f : κ → κ} (U : UfI ks prs i f) {x y : κ} (hx : x ∈ ks) (hy : y ∈ ks) : UfI ks (prs ++ [(x, y)]) (i + 1) (fun k => if k = itF f i y then itF f i x else f k) := by
  have ra := U.rt x hx
  have rb := U.rt y hy
  have ia := itF_in U.to i x hx
  have key := fun z hz => uf_set ra rb i z (U.rt z hz)
  refine ⟨fun z hz => ?_, fun z hz => ?_, fun p hp => ?_, fun g hg z hz => ?_, fun p hp => ?_⟩
  · by_cases e : z = itF f i y
    · simp only [if_pos e]; exact ia
    · simp only [if_neg e]; exact U.to z hz
  · rw [key z hz]
    by_cases e : itF f i z = itF f i y
    · simp only [if_pos e]
      by_cases e2 : itF f i x = itF f i y
      · rw [if_pos e2]
      · rw [if_neg e2]; exact ra
    · simp only [if_neg e]
      exact U.rt z hz
  · rcases List.mem_append.mp hp with h | h
    · rw [key _ (U.pk p h).1, key _ (U.pk p h).2, U.same p h]
    · rw [List.mem_singleton.mp h, key x hx, key y hy, if_pos rfl]
      by_cases e2 : itF f i x = itF f i y
      · rw [if_pos e2]
      · rw [if_neg e2]
  · have h1 := U.all (g := g) (fun p hp => hg p (List.mem_append_left _ hp))
    by_cases e : z = itF f i y
    · simp only [if_pos e]
      rw [e, h1 i x hx, h1 i y hy]
      exact hg (x, y) (List.mem_append_right _ (List.mem_singleton.mpr rfl))
    · simp only [if_neg e]
      exact U.inv g (fun p hp => hg p (List.mem_append_left _ hp)) z hz
  · rcases List.mem_append.mp hp with h | h
    · exact U.pk p h
    · rw [List.mem_singleton.mp h]; exact ⟨hx, hy⟩

/-! ### corners of a drawing -/
def lenR (tn : List (List Int)) (c : Int) : Int := ((tn.getD c.toNat []).length : Int)
def plc (tn : List (List Int)) (c y : Int) : Int := (((tn.getD c.toNat []).idxOf y : Nat) : Int)
/-- the corner where a step begins -/
def tlC (tn : List (List Int)) (s : Stp) : Int × Int := (s.1, if s.2.2 = 1 then (plc tn s.1 s.2.1 - 1) % lenR tn s.1 else plc tn s.1 s.2.1)
/-- the corner where it ends -/
def hdC (ps : List (Int × Int)) (tn : List (List Int)) (sg : List Int) (s : Stp) : Int × Int := (s.2.1, if s.2.2 * sgnOf ps sg s.1 s.2.1 = 1 then plc tn s.2.1 s.1 else (plc tn s.2.1 s.1 - 1) % lenR tn s.2.1)
theorem row_at {n : Int} {ps : List (Int × Int)} {tn : List (List Int)} {sg : List Int} (ok : BookOk n ps) (R : Drw n ps tn sg) {c y : Int} (c0 : 0 ≤ c ∧ c < n) (h : y ∈ nbr ps c) : ∃ (r : List Int) (p : Nat), tn.getD c.toNat [] = r ∧ r.Perm (nbr ps c) ∧ r.Nodup ∧ r[p]? = some y ∧ r.idxOf y = p ∧ p < r.length := by
  obtain ⟨r, hr, pr⟩ := R.row c0.1 c0.2
  obtain ⟨j, jl, jp, jn, je⟩ := idx_at (r := r) (x := y) (pr.mem_iff.mpr h)
  exact ⟨r, j, by rw [List.getD_eq_getElem?_getD, hr]; rfl, pr, pr.nodup_iff.mpr (nbr_nodup ok.pr), jp, je, jl⟩
theorem idx_of {r : List Int} (nd : r.Nodup) {k : Nat} {x : Int} (h : r[k]? = some x) : r.idxOf x = k := by
  obtain ⟨i, i1, i2, _, i4⟩ := idx_at (List.mem_of_getElem? h)
  rw [i4]
  exact (List.getElem?_inj i1 nd).mp (i2.trans h.symm)
theorem idx_get {r : List Int} (nd : r.Nodup) {k : Int} (k0 : 0 ≤ k) (k1 : k < r.length) : ((r.idxOf (r.getD k.toNat 0) : Nat) : Int) = k := by
  have h : r[k.toNat]? = some (r.getD k.toNat 0) := by rw [List.getD_eq_getElem?_getD, List.getElem?_eq_getElem (by omega)]; rfl
  rw [idx_of nd h]
  omega
theorem mod_less {p len : Int} (h0 : 0 ≤ p) (h1 : p < len) : (p - 1) % len = if p = 0 then len - 1 else p - 1 := by
  by_cases e : p = 0
  · rw [if_pos e, e]
    have : (0 - 1 : Int) = (len - 1) + len * (-1) := by omega
    rw [this, Int.add_mul_emod_self_left]
    exact Int.emod_eq_of_lt (by omega) (by omega)
  · rw [if_neg e]
    exact Int.emod_eq_of_lt (by omega) (by omega)
theorem mod_more {p len : Int} (h0 : 0 ≤ p) (h1 : p < len) : (p + 1) % len = if p = len - 1 then 0 else p + 1 := by
  by_cases e : p = len - 1
  · rw [if_pos e, e, show len - 1 + 1 = len by omega, Int.emod_self]
  · rw [if_neg e]
    exact Int.emod_eq_of_lt (by omega) (by omega)
/-- the step behind begins where a step ends -/
theorem tl_beh {n : Int} {ps : List (Int × Int)} {tn : List (List Int)} {sg : List Int} (ok : BookOk n ps) (R : Drw n ps tn sg) {s : Stp} (S : StpP n ps s) : tlC tn (behS ps tn sg s) = hdC ps tn sg s := by
  obtain ⟨a, b, t⟩ := s
  obtain ⟨r, j, u, er, pr, rnd, jp, ej, jl, eu, tu, u1, e⟩ := beh_parts ok R S
  have m0 : 0 ≤ ((j : Int) + t * u) % (r.length : Int) := Int.emod_nonneg _ (by omega)
  have m1 : ((j : Int) + t * u) % (r.length : Int) < r.length := Int.emod_lt_of_pos _ (by omega)
  rw [e]
  unfold tlC hdC plc lenR
  simp only [er, ej, eu, idx_get rnd m0 m1]
  congr 1
  rcases tu with h | h
  · rw [h, if_pos rfl, if_pos rfl, mod_more (by omega) (by omega)]
    by_cases z : (j : Int) = r.length - 1
    · rw [if_pos z, mod_less (by omega) (by omega), if_pos rfl]; omega
    · rw [if_neg z, mod_less (by omega) (by omega), if_neg (by omega)]; omega
  · rw [h, if_neg (by decide), if_neg (by decide), show (j : Int) + -1 = j - 1 by omega]
/-- the step behind the mirrored one -/
theorem beh_mirS {n : Int} {ps : List (Int × Int)} {tn : List (List Int)} {sg : List Int} (ok : BookOk n ps) (R : Drw n ps tn sg) {a b t : Int} (S : StpP n ps (a, b, t)) {r : List Int} {p : Nat} (er : tn.getD a.toNat [] = r) (ep : r.idxOf b = p) : behS ps tn sg (mirS ps sg (a, b, t)) = (a, r.getD (((p : Int) - t) % (r.length : Int)).toNat 0, -t) := by
  have sv := R.sgn (tie_mem ok.pr S.nb)
  unfold mirS behS
  simp only [er, ep, sgn_comm b a]
  have e : -(t * sgnOf ps sg a b) * sgnOf ps sg a b = -t := by
    rcases sv with h | h <;> rw [h] <;> omega
  rw [e, show (p : Int) + -t = p - t by omega]
theorem tl_twin {n : Int} {ps : List (Int × Int)} {tn : List (List Int)} {sg : List Int} (ok : BookOk n ps) (R : Drw n ps tn sg) {s : Stp} (S : StpP n ps s) : tlC tn (behS ps tn sg (mirS ps sg s)) = tlC tn s := by
  obtain ⟨a, b, t⟩ := s
  have nb := nbr_comm.mp S.nb
  obtain ⟨r, p, er, pr, rnd, hp, ep, pl⟩ := row_at ok R S.a0 nb
  simp only at er
  rw [beh_mirS ok R S er ep]
  have m0 : 0 ≤ ((p : Int) - t) % (r.length : Int) := Int.emod_nonneg _ (by omega)
  have m1 : ((p : Int) - t) % (r.length : Int) < r.length := Int.emod_lt_of_pos _ (by omega)
  unfold tlC plc lenR
  simp only [er, ep, idx_get rnd m0 m1]
  congr 1
  have ht := S.t
  simp only at ht
  rcases ht with h | h
  · rw [h, if_neg (by decide), if_pos rfl]
  · rw [h, if_pos (by decide), if_neg (by decide), show (p : Int) - -1 = p + 1 by omega, mod_more (by omega) (by omega)]
    by_cases z : (p : Int) = r.length - 1
    · rw [if_pos z, mod_less (by omega) (by omega), if_pos rfl]; omega
    · rw [if_neg z, mod_less (by omega) (by omega), if_neg (by omega)]; omega
theorem tl_two {n : Int} {ps : List (Int × Int)} {tn : List (List Int)} {sg : List Int} (ok : BookOk n ps) (R : Drw n ps tn sg) {s s' : Stp} (S : StpP n ps s) (S' : StpP n ps s') (h : tlC tn s' = tlC tn s) : s' = s ∨ s' = behS ps tn sg (mirS ps sg s) := by
  obtain ⟨a, b, t⟩ := s
  obtain ⟨a', b', t'⟩ := s'
  have ea := congrArg Prod.fst h
  have eb := congrArg Prod.snd h
  unfold tlC at ea eb
  simp only at ea eb
  subst ea
  obtain ⟨r, p, er, pr, rnd, hp, ep, pl⟩ := row_at ok R S.a0 (nbr_comm.mp S.nb)
  obtain ⟨r2, q, er2, _, _, hq, eq, ql⟩ := row_at ok R S'.a0 (nbr_comm.mp S'.nb)
  simp only at er er2 hq
  have := er2.symm.trans er
  subst this
  rw [beh_mirS ok R S er ep]
  unfold plc lenR at eb
  simp only [er, ep, eq] at eb
  have ht := S.t
  have ht' := S'.t
  simp only at ht ht'
  have same : (q : Int) = p → b' = b := fun e => by
    have e : q = p := by omega
    rw [e, hp] at hq
    exact (Option.some.inj hq).symm
  have at_ : ∀ k : Int, (q : Int) = k → b' = r2.getD k.toNat 0 := fun k e => by
    rw [List.getD_eq_getElem?_getD, ← e, Int.toNat_natCast, hq]; rfl
  rcases ht with h1 | h1 <;> rcases ht' with h2 | h2 <;> subst h1 <;> subst h2
  · rw [if_pos rfl, if_pos rfl, mod_less (by omega) (by omega), mod_less (by omega) (by omega)] at eb
    left
    rw [same (by split at eb <;> split at eb <;> omega)]
  · rw [if_neg (by decide), if_pos rfl] at eb
    right
    rw [at_ _ eb]
  · rw [if_pos rfl, if_neg (by decide)] at eb
    right
    have e2 : (q : Int) = ((p : Int) - -1) % (r2.length : Int) := by
      rw [show (p : Int) - -1 = p + 1 by omega, mod_more (by omega) (by omega)]
      rw [mod_less (by omega) (by omega)] at eb
      split at eb <;> split <;> omega
    rw [at_ _ e2]
    rfl
  · rw [if_neg (by decide), if_neg (by decide)] at eb
    left
    rw [same eb]
/-- the corners in the order of the law's dict -/
def corF (tn : List (List Int)) : Nat → List (Int × Int)
  | 0 => []
  | k + 1 => corF tn k ++ (List.range (tn.getD k []).length).map fun (i : Nat) => ((k : Int), (i : Int))
theorem cor_mem {tn : List (List Int)} {q : Int × Int} : ∀ k, q ∈ corF tn k ↔ (0 ≤ q.1 ∧ q.1 < (k : Int)) ∧ 0 ≤ q.2 ∧ q.2 < lenR tn q.1
  | 0 => by simp [corF]; omega
  | k + 1 => by
    unfold corF
    rw [List.mem_append, cor_mem k, List.mem_map]
    constructor
    · rintro (h | ⟨i, hi, rfl⟩)
      · exact ⟨by omega, h.2⟩
      · have := List.mem_range.mp hi
        unfold lenR
        simp only [Int.toNat_natCast]
        omega
    · rintro ⟨h1, h2⟩
      by_cases z : q.1 < (k : Int)
      · exact .inl ⟨⟨h1.1, z⟩, h2⟩
      · have e : q.1 = (k : Int) := by omega
        refine .inr ⟨q.2.toNat, List.mem_range.mpr ?_, ?_⟩
        · have := h2.2
          unfold lenR at this
          rw [e, Int.toNat_natCast] at this
          omega
        · refine Prod.ext (by simp [e]) ?_
          simp only
          omega
theorem cor_nodup {tn : List (List Int)} : ∀ k, (corF tn k).Nodup
  | 0 => List.nodup_nil
  | k + 1 => by
    unfold corF
    rw [List.nodup_append]
    refine ⟨cor_nodup k, List.pairwise_map.mpr (List.nodup_range.imp fun {a b} ne e => ne (by
      have := congrArg Prod.snd e
      simp only at this
      omega)), fun a ha b hb e => ?_⟩
    obtain ⟨i, _, rfl⟩ := List.mem_map.mp hb
    have := ((cor_mem k).mp ha).1.2
    rw [e] at this
    simp only at this
    omega
/-- the law's pairs of corners -/
def prC (ps : List (Int × Int)) (tn : List (List Int)) (sg : List Int) (q : Int × Int) : List ((Int × Int) × (Int × Int)) := [(tlC tn (q.1, q.2, -1), hdC ps tn sg (q.1, q.2, -1)), (tlC tn (q.1, q.2, 1), hdC ps tn sg (q.1, q.2, 1))]
def prsC (ps : List (Int × Int)) (tn : List (List Int)) (sg : List Int) : List ((Int × Int) × (Int × Int)) := ps.flatMap (prC ps tn sg)
theorem stp_cor {n : Int} {ps : List (Int × Int)} {tn : List (List Int)} {sg : List Int} (ok : BookOk n ps) (R : Drw n ps tn sg) {s : Stp} (S : StpP n ps s) : tlC tn s ∈ corF tn n.toNat := by
  obtain ⟨r, p, er, pr, rnd, hp, ep, pl⟩ := row_at ok R S.a0 (nbr_comm.mp S.nb)
  have a0 := S.a0
  rw [cor_mem]
  unfold tlC lenR plc
  simp only [er, ep]
  refine ⟨by omega, ?_⟩
  split
  · exact ⟨Int.emod_nonneg _ (by omega), Int.emod_lt_of_pos _ (by omega)⟩
  · omega
theorem tie_stp {n : Int} {ps : List (Int × Int)} (ok : BookOk n ps) {q : Int × Int} (hq : q ∈ ps) {t : Int} (ht : t = 1 ∨ t = -1) : StpP n ps (q.1, q.2, t) := by
  have h : q.2 ∈ nbr ps q.1 := nbr_mem.mpr (.inl hq)
  have := nbr_rg ok.pr h
  exact ⟨this.2.1, this.1, nbr_comm.mp h, ht⟩
/-- the law's number of lots is the number of rims -/
theorem rims_law {n : Int} {ps : List (Int × Int)} {tn : List (List Int)} {sg : List Int} (ok : BookOk n ps) (R : Drw n ps tn sg) {rows : List (List Stp)} (h : Rnds n ps tn sg rows) {i : Nat} {f : Int × Int → Int × Int} (U : UfI (corF tn n.toNat) (prsC ps tn sg) i f) : rows.length = 2 * ((corF tn n.toNat).filter fun k => decide (f k = k)).length := by
  have M := beh_mir ok R
  have join : ∀ g : Int × Int → Int × Int, (∀ p ∈ prsC ps tn sg, g p.1 = g p.2) → ∀ s, StpP n ps s → g (tlC tn (behS ps tn sg s)) = g (tlC tn s) := fun g hg s S => by
    obtain ⟨a, b, t⟩ := s
    have ht := S.t
    simp only at ht
    have key : ∀ q ∈ ps, ∀ t, (t = 1 ∨ t = -1) → g (hdC ps tn sg (q.1, q.2, t)) = g (tlC tn (q.1, q.2, t)) := fun q hq t ht => by
      refine (hg (tlC tn (q.1, q.2, t), hdC ps tn sg (q.1, q.2, t)) (List.mem_flatMap.mpr ⟨q, hq, ?_⟩)).symm
      unfold prC
      rcases ht with e | e <;> subst e
      · exact List.mem_cons_of_mem _ List.mem_cons_self
      · exact List.mem_cons_self
    rcases nbr_mem.mp S.nb with z | z
    · -- (b, a)
      have Mt := M.to _ S
      have h1 := key (b, a) z (-(t * sgnOf ps sg a b)) Mt.t
      have e1 : ((b, a, -(t * sgnOf ps sg a b)) : Stp) = mirS ps sg (a, b, t) := rfl
      simp only at h1
      rw [e1, ← tl_beh ok R Mt, tl_twin ok R S] at h1
      have h2 := tl_twin ok R (beh_to ok R S)
      rw [M.fm _ S] at h2
      rw [h2] at h1
      exact h1.symm
    · rw [tl_beh ok R S]
      exact key (a, b) z t ht
  refine count2 M h (tlC tn) (fun s s' S S' e => tl_two ok R S S' e) (fun s S => tl_twin ok R S) (fun s S => beh_to ok R S) (List.Nodup.sublist List.filter_sublist (cor_nodup _)) (fun k => (k.1, (tn.getD k.1.toNat []).getD k.2.toNat 0, -1)) (fun k hk => ?_) (itF f i) (fun s S => join (itF f i) U.same s S) (fun k hk => itF_fix (of_decide_eq_true (List.mem_filter.mp hk).2) i) (fun s S => ?_) fun g hg s S => ?_
  · obtain ⟨h1, h2⟩ := (cor_mem _).mp (List.mem_filter.mp hk).1
    have n1 := ok.lo
    obtain ⟨r, hr, pr⟩ := R.row h1.1 (by omega)
    have er : tn.getD k.1.toNat [] = r := by rw [List.getD_eq_getElem?_getD, hr]; rfl
    unfold lenR at h2
    rw [er] at h2
    have cn := getD_perm pr (k := k.2.toNat) (by omega)
    have rnd := pr.nodup_iff.mpr (nbr_nodup ok.pr)
    refine ⟨⟨by simp only; omega, by simp only [er]; exact (nbr_rg ok.pr cn).1, by simp only [er]; exact nbr_comm.mp cn, .inr rfl⟩, ?_⟩
    unfold tlC plc
    simp only [er]
    rw [if_neg (by decide), idx_get rnd h2.1 h2.2]
  · have hc := stp_cor ok R S
    exact List.mem_filter.mpr ⟨itF_in U.to i _ hc, decide_eq_true (U.rt _ hc)⟩
  · refine U.all (g := g) (fun p hp => ?_) i _ (stp_cor ok R S)
    obtain ⟨q, hq, hp2⟩ := List.mem_flatMap.mp hp
    have gt : ∀ t, (t = 1 ∨ t = -1) → g (tlC tn (q.1, q.2, t)) = g (hdC ps tn sg (q.1, q.2, t)) := fun t ht => by
      have Sq := tie_stp ok hq ht
      rw [← tl_beh ok R Sq]
      exact (hg _ Sq).symm
    unfold prC at hp2
    simp only [List.mem_cons, List.not_mem_nil, or_false] at hp2
    rcases hp2 with e | e <;> rw [e]
    · exact gt _ (.inr rfl)
    · exact gt _ (.inl rfl)

def ccD (p : (Int × Int) × (Int × Int)) : D := .tup [prD p.1, prD p.2]

def kvF (f : Int × Int → Int × Int) (x : Int × Int) : List Key × D := ([.inl x.1, .inl x.2], prD (f x))
theorem dval_kvF {f : Int × Int → Int × Int} {ks : List (Int × Int)} {p : Int × Int} : dval (ks.map (kvF f)) [.inl p.1, .inl p.2] = if p ∈ ks then some (prD (f p)) else none := by
  induction ks with
  | nil => rfl
  | cons q ks ih =>
    rw [List.map_cons]
    show dval (([.inl q.1, .inl q.2], prD (f q)) :: ks.map (kvF f)) _ = _
    rw [dval_cons, ih]
    by_cases e : q = p
    · subst e; simp
    · have e2 : ¬ p = q := fun z => e z.symm
      rw [if_neg (fun z => e (keyP_inj.mp z))]
      simp [e2]
theorem dput_kvN {f : Int × Int → Int × Int} {ks : List (Int × Int)} {p v : Int × Int} (h : p ∉ ks) : dput (ks.map (kvF f)) [.inl p.1, .inl p.2] (prD v) = ks.map (kvF f) ++ [([.inl p.1, .inl p.2], prD v)] := by
  unfold dput
  rw [dval_kvF, if_neg h]
  rfl
theorem dput_kvO {f : Int × Int → Int × Int} {ks : List (Int × Int)} {p v : Int × Int} (h : p ∈ ks) : dput (ks.map (kvF f)) [.inl p.1, .inl p.2] (prD v) = ks.map (kvF fun k => if k = p then v else f k) := by
  unfold dput
  rw [dval_kvF, if_pos h]
  simp only [Option.isSome_some, if_true]
  rw [List.map_map]
  refine List.map_congr_left fun q _ => ?_
  show (if (kvF f q).1 = _ then ((kvF f q).1, prD v) else kvF f q) = kvF _ q
  unfold kvF
  simp only [keyP_inj]
  by_cases e : q = p
  · rw [if_pos e, if_pos e]
  · rw [if_neg e, if_neg e]
theorem look_kvF {M : Mp} {p : Addr} {f : Int × Int → Int × Int} {ks : List (Int × Int)} (h : M p = some (.dT (ks.map (kvF f)))) {x : Int × Int} (hx : x ∈ ks) : dIxV M (.ref p) (prD x) = some (prD (f x)) := by
  simp only [dIxV, dLook, h, prD, keysOf, keyOf, Option.map_some, dval_kvF, if_pos hx]
  rfl
theorem storeN_kvF {M : Mp} {p : Addr} {f : Int × Int → Int × Int} {ks : List (Int × Int)} (h : M p = some (.dT (ks.map (kvF f)))) {x v : Int × Int} (hx : x ∉ ks) (hl : ks.length ≤ 1000000) : dStore M p (prD x) (prD v) = some (mset M p (.dT (ks.map (kvF f) ++ [([.inl x.1, .inl x.2], prD v)]))) := by
  simp only [dStore, h, prD, keysOf, keyOf, Option.bind_some]
  rw [if_pos (by rw [List.length_map, sizeLine_eq]; omega)]
  have := dput_kvN (f := f) (v := v) hx
  unfold prD at this
  rw [this]
theorem storeO_kvF {M : Mp} {p : Addr} {f : Int × Int → Int × Int} {ks : List (Int × Int)} (h : M p = some (.dT (ks.map (kvF f)))) {x v : Int × Int} (hx : x ∈ ks) (hl : ks.length ≤ 1000000) : dStore M p (prD x) (prD v) = some (mset M p (.dT (ks.map (kvF fun k => if k = x then v else f k)))) := by
  simp only [dStore, h, prD, keysOf, keyOf, Option.bind_some]
  rw [if_pos (by rw [List.length_map, sizeLine_eq]; omega)]
  have := dput_kvO (f := f) (v := v) hx
  unfold prD at this
  rw [this]
theorem eq_prC (p q : Int × Int) : (prD p).eq (prD q) = decide (p = q) := by
  by_cases h : p = q
  · subst h; rw [eq_prD_self, decide_eq_true rfl]
  · rw [eq_prD_ne h, decide_eq_false h]
theorem dt_kvF {M : Mp} {f : Int × Int → Int × Int} {ks : List (Int × Int)} {x : Int × Int} (hx : x ∈ ks) : dIxV M (.dt ((ks.map (kvF f)).map (·.1)) ((ks.map (kvF f)).map (·.2))) (prD x) = some (prD (f x)) := by
  have e : ((ks.map (kvF f)).map (·.1)).zip ((ks.map (kvF f)).map (·.2)) = ks.map (kvF f) := by
    generalize ks.map (kvF f) = u
    induction u with
    | nil => rfl
    | cons a u ih => rw [List.map_cons, List.map_cons, List.zip_cons_cons, ih]
  simp only [dIxV, dkLook, prD, keysOf, keyOf, Option.map_some, e, dval_kvF, if_pos hx]
  rfl
theorem prs_cor {n : Int} {ps : List (Int × Int)} {tn : List (List Int)} {sg : List Int} (ok : BookOk n ps) (R : Drw n ps tn sg) : ∀ p ∈ prsC ps tn sg, p.1 ∈ corF tn n.toNat ∧ p.2 ∈ corF tn n.toNat := fun p hp => by
  obtain ⟨q, hq, hp2⟩ := List.mem_flatMap.mp hp
  have key : ∀ t, (t = 1 ∨ t = -1) → tlC tn (q.1, q.2, t) ∈ corF tn n.toNat ∧ hdC ps tn sg (q.1, q.2, t) ∈ corF tn n.toNat := fun t ht => by
    have S := tie_stp ok hq ht
    exact ⟨stp_cor ok R S, by rw [← tl_beh ok R S]; exact stp_cor ok R (beh_to ok R S)⟩
  unfold prC at hp2
  simp only [List.mem_cons, List.not_mem_nil, or_false] at hp2
  rcases hp2 with e | e <;> rw [e]
  · exact key _ (.inr rfl)
  · exact key _ (.inl rfl)
theorem prs_len (ps : List (Int × Int)) (tn : List (List Int)) (sg : List Int) : (prsC ps tn sg).length = 2 * ps.length := by
  unfold prsC
  rw [List.length_flatMap]
  have : (ps.map fun a => (prC ps tn sg a).length) = List.replicate ps.length 2 := by
    refine List.eq_replicate_iff.mpr ⟨by rw [List.length_map], fun x hx => ?_⟩
    obtain ⟨_, _, rfl⟩ := List.mem_map.mp hx; rfl
  rw [this, List.sum_replicate_nat]
  omega
theorem cor_len {n : Int} {ps : List (Int × Int)} {tn : List (List Int)} {sg : List Int} (ok : BookOk n ps) (R : Drw n ps tn sg) : ∀ k, (corF tn k).length ≤ 56 * k
  | 0 => Nat.le_refl _
  | k + 1 => by
    unfold corF
    have ih := cor_len ok R k
    have l28 := ok.pr.len28 ok.hi
    rw [List.length_append, List.length_map, List.length_range]
    have : (tn.getD k []).length ≤ 56 := by
      rw [List.getD_eq_getElem?_getD]
      cases h : tn[k]? with
      | none => simp
      | some r =>
        have := (R.tp k r h).length_eq
        have nl := nbr_len ps (k : Int)
        simp only [Option.getD_some]
        omega
    omega

/-! ### turnings begun elsewhere, or told backward -/
def RotT (tn bs : List (List Int)) : Prop := bs.length = tn.length ∧ ∀ (i : Nat) (r : List Int), tn[i]? = some r → ∃ k, k ≤ r.length ∧ bs[i]? = some (r.drop k ++ r.take k)
theorem RotT.drw {n : Int} {ps : List (Int × Int)} {tn bs : List (List Int)} {sg : List Int} (h : RotT tn bs) (R : Drw n ps tn sg) : Drw n ps bs sg := by
  refine ⟨by rw [h.1]; exact R.tl, fun i r hr => ?_, R.sl, R.sv⟩
  have il := (List.getElem?_eq_some_iff.mp hr).1
  have il2 : i < tn.length := by rw [← h.1]; exact il
  have h1 : tn[i]? = some tn[i] := List.getElem?_eq_getElem il2
  obtain ⟨k, _, e⟩ := h.2 i _ h1
  rw [hr] at e
  rw [Option.some.inj e]
  exact (rot_perm _ k).trans (R.tp i _ h1)
theorem beh_rot {n : Int} {ps : List (Int × Int)} {tn bs : List (List Int)} {sg : List Int} (ok : BookOk n ps) (R : Drw n ps tn sg) (h : RotT tn bs) {s : Stp} (S : StpP n ps s) : behS ps bs sg s = behS ps tn sg s := by
  obtain ⟨a, b, t⟩ := s
  obtain ⟨r, j, u, er, pr, rnd, jp, ej, jl, eu, tu, u1, e⟩ := beh_parts ok R S
  obtain ⟨r2, j2, u2, er2, pr2, rnd2, jp2, ej2, jl2, eu2, tu2, u12, e2⟩ := beh_parts ok (h.drw R) S
  have b0 := S.b0
  simp only at b0
  obtain ⟨r', hr', _⟩ := R.row b0.1 b0.2
  obtain ⟨k, kl, hk⟩ := h.2 _ _ hr'
  have : r' = r := by rw [← er, List.getD_eq_getElem?_getD, hr']; rfl
  subst this
  have : r2 = r'.drop k ++ r'.take k := by rw [← er2, List.getD_eq_getElem?_getD, hk]; rfl
  subst this
  have ll : (r'.drop k ++ r'.take k).length = r'.length := (rot_perm r' k).length_eq
  rw [eu] at eu2
  subst eu2
  rw [e, e2]
  congr 2
  rw [ll] at jl2 ⊢
  rw [rot_get kl jl2] at jp2
  have ej3 : j = (j2 + k) % r'.length := (List.getElem?_inj jl rnd).mp (jp.trans jp2.symm)
  have m0 : 0 ≤ ((j2 : Int) + t * u) % (r'.length : Int) := Int.emod_nonneg _ (by omega)
  have m1 : ((j2 : Int) + t * u) % (r'.length : Int) < r'.length := Int.emod_lt_of_pos _ (by omega)
  rw [List.getD_eq_getElem?_getD, rot_get kl (by omega), List.getD_eq_getElem?_getD]
  congr 2
  have e4 : ((((j2 : Int) + t * u) % (r'.length : Int)).toNat + k) % r'.length = (((j : Int) + t * u) % (r'.length : Int)).toNat := by
    have n0 : 0 ≤ ((j : Int) + t * u) % (r'.length : Int) := Int.emod_nonneg _ (by omega)
    have : ((((((j2 : Int) + t * u) % (r'.length : Int)).toNat + k) % r'.length : Nat) : Int) = ((j : Int) + t * u) % (r'.length : Int) := by
      rw [Int.natCast_emod, Int.natCast_add, Int.toNat_of_nonneg m0, ej3, Int.natCast_emod, Int.natCast_add]
      rw [Int.emod_add_emod, Int.emod_add_emod]
      congr 1
      omega
    omega
  rw [e4]
theorem Rnds.congr {n : Int} {ps : List (Int × Int)} {tn bs : List (List Int)} {sg : List Int} {rows : List (List Stp)} (e : ∀ s, StpP n ps s → behS ps bs sg s = behS ps tn sg s) (h : Rnds n ps bs sg rows) : Rnds n ps tn sg rows := by
  refine ⟨fun r hr => ?_, h.nd, h.all⟩
  have c := h.cyc r hr
  refine ⟨c.ne, c.nd, fun i x hi => ?_⟩
  rw [c.st i x hi, e x ((h.all x).mp (List.mem_flatten.mpr ⟨r, hr, List.mem_of_getElem? hi⟩))]
theorem flT_true (tn : List (List Int)) : flT (fun _ => true) tn = tn.map List.reverse := by
  refine List.ext_getElem? fun i => ?_
  rw [flT_get, List.getElem?_map]
  cases tn[i]? <;> rfl
theorem flG_true {ps : List (Int × Int)} {sg : List Int} (h : sg.length = ps.length) : flG (fun _ => true) ps sg = sg := by
  have : flG (fun _ => true) ps sg = flG (fun _ => false) ps sg := by
    unfold flG
    refine List.map_congr_left fun q _ => ?_
    simp [eB]
  rw [this, flG_none h]
theorem Rnds.back {n : Int} {ps : List (Int × Int)} {tn : List (List Int)} {sg : List Int} {rows : List (List Stp)} (ok : BookOk n ps) (R : Drw n ps tn sg) (h : Rnds n ps (tn.map List.reverse) sg rows) : ∃ us, Rnds n ps tn sg us ∧ us.length = rows.length := by
  have R2 := R.flip (fun _ => true)
  rw [flT_true, flG_true R.sl] at R2
  have := Rnds.flip ok R2 (fun _ => true) h
  rw [flT_true, flG_true R.sl, List.map_map] at this
  have e : tn.map (List.reverse ∘ List.reverse) = tn := by
    have := List.map_congr_left (l := tn) (f := List.reverse ∘ List.reverse) (g := id) fun r _ => List.reverse_reverse r
    rw [this, List.map_id]
  rw [e] at this
  exact ⟨_, this, by rw [List.length_map]⟩

structure DueR (n : Int) (ps : List (Int × Int)) (tn : List (List Int)) (sg : List Int) (w : Int) : Prop where
  z : ps = [] → w = 1
  r : ∀ rows, Rnds n ps tn sg rows → ps ≠ [] → w = ((rows.length / 2 : Nat) : Int)

section
variable {P : Program} {w : World} {K : PySem.W.Frag} {mg : Str → Option Value} {base : Heap}
theorem sc__law_draw : FnScope ["_law_dice_here", "_law_sides", "_law_cell", "_law_digit", "_law_mixed"] ["_law_dice_here", "_law_sides"] (defScope s__law_draw) := ⟨rfl, rfl, rfl, by decide +kernel, rfl, by decide +kernel, by decide +kernel⟩
def sp__law_draw : DSp := fun ds M Q _ => ∃ (p : Addr) (n : Int), ds = [.ref p, .int n] ∧ DiL M p ∧ 1 ≤ n ∧ n < 1073741824 ∧ ∀ (r : Int) M2, 0 ≤ r → r < n → DiL M2 p → Agree M M2 [p] → Q (.int r) M2
theorem c__law_draw (F : DFun K mg "_law_draw" s__law_draw ["_law_dice_here", "_law_sides"]) (B : Bn mg) (G : Gs mg)  : DCal P w K mg base CX0 1 "_law_draw" sp__law_draw := by
  refine dok F sc__law_draw (fun ds M Q E h => (by obtain ⟨_, h⟩ := h; first | (obtain ⟨e, _⟩ := h; subst e; rfl) | (obtain ⟨_, e, _⟩ := h; subst e; rfl) | (obtain ⟨_, _, e, _⟩ := h; subst e; rfl) | (obtain ⟨_, _, _, e, _⟩ := h; subst e; rfl) | (obtain ⟨_, _, _, _, e, _⟩ := h; subst e; rfl) | (obtain ⟨_, _, _, _, _, e, _⟩ := h; subst e; rfl) | (obtain ⟨_, _, _, _, _, _, e, _⟩ := h; subst e; rfl) | (obtain ⟨_, _, _, _, _, _, _, e, _⟩ := h; subst e; rfl) | (obtain ⟨_, _, _, _, _, _, _, _, e, _⟩ := h; subst e; rfl) | (obtain ⟨_, _, _, _, _, _, _, _, _, e, _⟩ := h; subst e; rfl) | (obtain ⟨_, _, _, _, _, _, _, _, _, _, e, _⟩ := h; subst e; rfl) | (obtain ⟨_, _, _, _, _, _, _, _, _, _, _, e, _⟩ := h; subst e; rfl) | (obtain ⟨_, _, _, _, _, _, _, _, _, _, _, _, e, _⟩ := h; subst e; rfl) | (obtain ⟨_, _, _, _, _, _, _, _, _, _, _, _, _, e, _⟩ := h; subst e; rfl) | (obtain ⟨_, _, _, _, _, _, _, _, _, _, _, _, _, _, e, _⟩ := h; subst e; rfl) | (obtain ⟨_, _, _, _, _, _, _, _, _, _, _, _, _, _, _, e, _⟩ := h; subst e; rfl) | (obtain ⟨_, _, _, _, _, _, _, _, _, _, _, _, _, _, _, _, e, _⟩ := h; subst e; rfl) | (obtain ⟨_, _, _, _, _, _, _, _, _, _, _, _, _, _, _, _, _, e, _⟩ := h; subst e; rfl) | (obtain ⟨_, _, _, _, _, _, _, _, _, _, _, _, _, _, _, _, _, _, e, _⟩ := h; subst e; rfl) | (obtain ⟨_, _, _, _, _, _, _, _, _, _, _, _, _, _, _, _, _, _, _, e, _⟩ := h; subst e; rfl) | (obtain ⟨_, _, _, _, _, _, _, _, _, _, _, _, _, _, _, _, _, _, _, _, e, _⟩ := h; subst e; rfl) | (obtain ⟨_, _, _, _, _, _, _, _, _, _, _, _, _, _, _, _, _, _, _, _, _, e, _⟩ := h; subst e; rfl) | (obtain ⟨_, _, _, _, _, _, _, _, _, _, _, _, _, _, _, _, _, _, _, _, _, _, e, _⟩ := h; subst e; rfl) | (obtain ⟨_, _, _, _, _, _, _, _, _, _, _, _, _, _, _, _, _, _, _, _, _, _, _, e, _⟩ := h; subst e; rfl) | (obtain ⟨_, _, _, _, _, _, _, _, _, _, _, _, _, _, _, _, _, _, _, _, _, _, _, _, e, _⟩ := h; subst e; rfl) | (obtain ⟨_, _, _, _, _, _, _, _, _, _, _, _, _, _, _, _, _, _, _, _, _, _, _, _, _, e, _⟩ := h; subst e; rfl))) (fun f cdv A outer s H E F0 hr => ?_)
  have nd := (sc__law_draw).nd
  refine ⟨_, _, (db_cons (ds_if (DW.dt (dw_and (dt_eq hr (de_ix hr (de_var 0) de_int) de_int) (dw_and1 (dt_lt (de_ix hr (de_var 0) de_int) (de_len B.len (da_cons (de_ix hr (de_var 0) de_int) da_nil)))))) (db_cons (ds_set 2 nd (de_ix hr (de_ix hr (de_var 0) de_int) (de_ix hr (de_var 0) de_int)))
      (db_cons (ds_put hr (de_var 0) de_int (de_add (de_ix hr (de_var 0) de_int) de_int))
      (db_one (ds_if (dt_ge (de_var 2) (de_pow de_int de_int)) (db_one (ds_put hr (de_var 0) de_int (de_var 2))) (db_one (ds_put hr (de_var 0) de_int (de_mod (de_bty call_int1 lc_int B.int (da_cons (de_add (de_add (de_mul (de_ix hr (de_var 0) de_int) de_int) (de_mul (de_var 2) de_int)) (de_ix hr (de_var 0) de_int)) da_nil)) de_int))))))) db_nil)
      (db_cons (ds_if (dt_gt (de_ix hr (de_var 0) de_int) de_int) (db_cons (ds_set 3 nd (de_mod (de_bty call_int1 lc_int B.int (da_cons (de_ix hr (de_var 0) de_int) da_nil)) (de_var 1)))
      (db_cons (ds_put hr (de_var 0) de_int (de_fdiv (de_bty call_int1 lc_int B.int (da_cons (de_ix hr (de_var 0) de_int) da_nil)) (de_var 1)))
      (db_one (ds_ret (de_var 3))))) db_nil)
      (db_cons (ds_put hr (de_var 0) de_int (de_add (de_ix hr (de_var 0) de_int) de_int))
      (db_cons (ds_put hr (de_var 0) de_int (de_mod (de_bty call_int1 lc_int B.int (da_cons (de_add (de_add (de_mul (de_ix hr (de_var 0) de_int) de_int) (de_mul (de_ix hr (de_var 0) de_int) de_int)) de_int) da_nil)) de_int))
      (db_cons (ds_set 4 nd (de_mod (de_bty call_int1 lc_int B.int (da_cons (de_mul (de_ix hr (de_var 0) de_int) (de_add (de_fdiv (de_ix hr (de_var 0) de_int) de_int) de_int)) da_nil)) de_int))
      (db_cons (ds_set 4 nd (de_mod (de_bty call_int1 lc_int B.int (da_cons (de_mul (de_var 4) (de_add (de_fdiv (de_var 4) de_int) de_int)) da_nil)) de_int))
      (db_one (ds_ret (de_mod (de_bty call_int1 lc_int B.int (da_cons (de_fdiv (de_var 4) de_int) da_nil)) (de_var 1)))))))))), ?_⟩
  rintro ds M Q E ⟨p, n, rfl, ⟨ns, a, r, m, c, hp, ha0, hr0⟩, h1, h2, q⟩
  refine dSeq_gen (fun γ' M' => ∃ o ns a r m c, γ' = [some (.ref p), some (.int n), o, none, none] ∧ M' p = some (.lst (dilL ns a r m c)) ∧ 0 ≤ r ∧ 0 ≤ a ∧ Agree M M' [p]) ?_ (fun nx hn => ?_)
  · rintro γ' M' ⟨o, ns, a, r, m, c, rfl, hp, hr0, ha0, ag⟩
    have ag2 : ∀ kvs, Agree M (mset M' p (.lst kvs)) [p] := fun kvs => ag.trans (Agree.mset (by simp))
    simp only [jEnumU, dTupleK, dCatK, dBMT, dIdxK, dSlK, dRevK, dVar, dC, dOp, dTest, dII, dIC, dFld, dFldS, dMake, dppNil, dppCons, dMerge, dDisp, dCatL, dRg1, dLstRg, dChain, dEq, dAnd, dOr, dNot, dIfE, dNext, dSeq, dDrop, dRet, dIfS, dNever, hName, hNil, hCons, hTup, hSub, dAsg, dNil, dCons, dTup, dLst, dLstM, dIx, dSet, dCall, dwipe, dYes, jSeq, jRng1, jRng2, dCB, dLen, dListM, dTuple, dII2, dAbs, dInt, dBM0, dBM, dAppend, dPop, dPopAt, dAndV, dNotV, dNeg, dIn, dCat, dNoPart, dPart, dSl, dNewT, dIsi, dLc, dFor, dDc, dFrzA, jKeys, dDictZ, dSortTI, jZipM, if_true, if_false, ite_true, ite_false, Bool.false_eq_true, reduceIte, Bool.not_true, Bool.not_false, List.getElem?_cons_zero, List.getElem?_cons_succ, List.set_cons_zero, List.set_cons_succ, List.map_cons, List.map_nil, List.replicate, List.cons_append, List.nil_append, List.length_cons, List.length_nil, dstart]
    refine ⟨_, il2 hp, ?_⟩
    by_cases hr1 : 0 < r
    · simp only [decide_eq_true hr1, if_true, if_false, ite_true, ite_false, Bool.false_eq_true, reduceIte, Bool.not_true, Bool.not_false, List.getElem?_cons_zero, List.getElem?_cons_succ, List.set_cons_zero, List.set_cons_succ, List.map_cons, List.map_nil, List.replicate, List.cons_append, List.nil_append, List.length_cons, List.length_nil, dstart]
      refine ⟨_, il2 hp, by omega, _, il2 hp, ⟨by omega, h2⟩, _, sl2 hp, ?_⟩
      exact fin_self (q _ _ (Int.emod_nonneg _ (by omega)) (Int.emod_lt_of_pos _ (by omega)) ⟨_, _, _, _, _, mset_same, ha0, Int.ediv_nonneg hr0 (by omega)⟩ (ag2 _))
    · simp only [decide_eq_false hr1, if_true, if_false, ite_true, ite_false, Bool.false_eq_true, reduceIte, Bool.not_true, Bool.not_false, List.getElem?_cons_zero, List.getElem?_cons_succ, List.set_cons_zero, List.set_cons_succ, List.map_cons, List.map_nil, List.replicate, List.cons_append, List.nil_append, List.length_cons, List.length_nil, dstart]
      have h3 := mset_same (M := M') (a := p) (o := .lst (dilL ns a r m (c + 1)))
      refine ⟨_, il4 hp, _, sl4 hp, _, il3 h3, cmulR (by decide), _, il4 h3, cmulR (by decide), by decide, _, sl3 h3, ?_⟩
      rw [mset_mset]
      generalize hx : (m * 48271 + (c + 1) * 7919 + 1) % 2147483647 = x
      have bx : 0 ≤ x ∧ x < 2147483647 := by omega
      have h4 := mset_same (M := M') (a := p) (o := .lst (dilL ns a r x (c + 1)))
      refine ⟨_, il3 h4, _, il3 h4, ⟨by decide, by decide⟩, ?_⟩
      dsimp only
      refine ⟨cmulL (by omega), by decide, ?_⟩
      generalize hy : x * (x / 1009 + 69623) % 2147483399 = y
      have by' : 0 ≤ y ∧ y < 2147483399 := by omega
      refine ⟨⟨by decide, by decide⟩, cmulL (by omega), by decide, ⟨by decide, by decide⟩, by omega, ?_⟩
      exact fin_self (q _ _ (Int.emod_nonneg _ (by omega)) (Int.emod_lt_of_pos _ (by omega)) ⟨_, _, _, _, _, mset_same, ha0, hr0⟩ (ag2 _))
  · simp only [jEnumU, dTupleK, dCatK, dBMT, dIdxK, dSlK, dRevK, dVar, dC, dOp, dTest, dII, dIC, dFld, dFldS, dMake, dppNil, dppCons, dMerge, dDisp, dCatL, dRg1, dLstRg, dChain, dEq, dAnd, dOr, dNot, dIfE, dNext, dSeq, dDrop, dRet, dIfS, dNever, hName, hNil, hCons, hTup, hSub, dAsg, dNil, dCons, dTup, dLst, dLstM, dIx, dSet, dCall, dwipe, dYes, jSeq, jRng1, jRng2, dCB, dLen, dListM, dTuple, dII2, dAbs, dInt, dBM0, dBM, dAppend, dPop, dPopAt, dAndV, dNotV, dNeg, dIn, dCat, dNoPart, dPart, dSl, dNewT, dIsi, dLc, dFor, dDc, dFrzA, jKeys, dDictZ, dSortTI, jZipM, if_true, if_false, ite_true, ite_false, Bool.false_eq_true, reduceIte, Bool.not_true, Bool.not_false, List.getElem?_cons_zero, List.getElem?_cons_succ, List.set_cons_zero, List.set_cons_succ, List.map_cons, List.map_nil, List.replicate, List.cons_append, List.nil_append, List.length_cons, List.length_nil, dstart]
    refine ⟨_, il2 hp, rfl, rfl, ?_⟩
    rw [D.eq_int]
    have stay : nx [some (.ref p), some (.int n), none, none, none] M := hn _ _ ⟨none, ns, a, r, m, c, rfl, hp, hr0, ha0, Agree.refl _ _⟩
    by_cases hr1 : r = 0
    · simp only [hr1, beq_self_eq_true, if_true, if_false, ite_true, ite_false, Bool.false_eq_true, reduceIte, Bool.not_true, Bool.not_false, List.getElem?_cons_zero, List.getElem?_cons_succ, List.set_cons_zero, List.set_cons_succ, List.map_cons, List.map_nil, List.replicate, List.cons_append, List.nil_append, List.length_cons, List.length_nil, dstart]
      subst hr1
      refine ⟨_, il1 hp, _, il0 hp, ns.length, by simp [lenV], ?_⟩
      by_cases hal : a < (ns.length : Int)
      · simp only [decide_eq_true hal, if_true, if_false, ite_true, ite_false, Bool.false_eq_true, reduceIte, Bool.not_true, Bool.not_false, List.getElem?_cons_zero, List.getElem?_cons_succ, List.set_cons_zero, List.set_cons_succ, List.map_cons, List.map_nil, List.replicate, List.cons_append, List.nil_append, List.length_cons, List.length_nil, dstart]
        have hk : a.toNat < ns.length := by omega
        have e1 : ns[a.toNat]? = some ns[a.toNat] := List.getElem?_eq_getElem hk
        generalize ns[a.toNat] = x at e1
        have e2 : dIxV M (.lst (ns.map .int)) (.int a) = some (.int x) := atI_at (k := a.toNat) (by omega) (by rw [List.getElem?_map, e1]; rfl)
        have h3 := mset_same (M := M) (a := p) (o := .lst (dilL ns (a + 1) 0 m c))
        refine ⟨_, il0 hp, _, il1 hp, _, e2, _, il1 hp, _, sl1 hp, ⟨by decide, by decide, by decide⟩, ?_⟩
        by_cases hx : (10 : Int) ^ (18 : Int).toNat ≤ x
        · simp only [decide_eq_true hx, if_true, if_false, ite_true, ite_false, Bool.false_eq_true, reduceIte, Bool.not_true, Bool.not_false, List.getElem?_cons_zero, List.getElem?_cons_succ, List.set_cons_zero, List.set_cons_succ, List.map_cons, List.map_nil, List.replicate, List.cons_append, List.nil_append, List.length_cons, List.length_nil, dstart]
          refine ⟨_, sl2 h3, hn _ _ ⟨_, ns, a + 1, x, m, c, rfl, ?_, ?_, by omega, ?_⟩⟩
          · rw [mset_mset]; exact mset_same
          · have : (0 : Int) ≤ 10 ^ (18 : Int).toNat := by decide
            omega
          · rw [mset_mset]; exact Agree.mset (by simp)
        · simp only [decide_eq_false hx, if_true, if_false, ite_true, ite_false, Bool.false_eq_true, reduceIte, Bool.not_true, Bool.not_false, List.getElem?_cons_zero, List.getElem?_cons_succ, List.set_cons_zero, List.set_cons_succ, List.map_cons, List.map_nil, List.replicate, List.cons_append, List.nil_append, List.length_cons, List.length_nil, dstart]
          refine ⟨_, il3 h3, cmulR (by decide), cmulR (by decide), _, il1 h3, ?_⟩
          dsimp only
          refine ⟨by decide, _, sl3 h3, hn _ _ ⟨_, ns, a + 1, 0, (m * 69621 + x * 40692 + (a + 1)) % 2147483647, c, rfl, ?_, by omega, by omega, ?_⟩⟩
          · rw [mset_mset]; exact mset_same
          · rw [mset_mset]; exact Agree.mset (by simp)
      · simp only [decide_eq_false hal, if_true, if_false, ite_true, ite_false, Bool.false_eq_true, reduceIte, Bool.not_true, Bool.not_false, List.getElem?_cons_zero, List.getElem?_cons_succ, List.set_cons_zero, List.set_cons_succ, List.map_cons, List.map_nil, List.replicate, List.cons_append, List.nil_append, List.length_cons, List.length_nil, dstart]
        exact stay
    · rw [beq_eq_false_iff_ne.mpr hr1]
      simp only [if_true, if_false, ite_true, ite_false, Bool.false_eq_true, reduceIte, Bool.not_true, Bool.not_false, List.getElem?_cons_zero, List.getElem?_cons_succ, List.set_cons_zero, List.set_cons_succ, List.map_cons, List.map_nil, List.replicate, List.cons_append, List.nil_append, List.length_cons, List.length_nil, dstart]
      exact stay
theorem sc__law_shuffled : FnScope ["_law_dice_here", "_law_items", "_law_left", "_law_k"] ["_law_dice_here", "_law_items"] (defScope s__law_shuffled) := ⟨rfl, rfl, rfl, by decide +kernel, rfl, by decide +kernel, by decide +kernel⟩
def sp__law_shuffled : DSp := fun ds M Q _ => ∃ (p : Addr) (th : D) (ns : List D), ds = [.ref p, th] ∧ itemsV M th = some ns ∧ DiL M p ∧ ns.length ≤ 1000000 ∧ ∀ (ms : List D) M2, DiL M2 p → Ext M M2 [p] → ms.Perm ns → Q (.kt ms) M2
theorem c__law_shuffled (F : DFun K mg "_law_shuffled" s__law_shuffled ["_law_dice_here", "_law_items"]) (B : Bn mg) (G : Gs mg) (c__law_draw : DCal P w K mg base CX0 1 "_law_draw" sp__law_draw) : DCal P w K mg base CX0 2 "_law_shuffled" sp__law_shuffled := by
  refine dok F sc__law_shuffled (fun ds M Q E h => (by obtain ⟨_, h⟩ := h; first | (obtain ⟨e, _⟩ := h; subst e; rfl) | (obtain ⟨_, e, _⟩ := h; subst e; rfl) | (obtain ⟨_, _, e, _⟩ := h; subst e; rfl) | (obtain ⟨_, _, _, e, _⟩ := h; subst e; rfl) | (obtain ⟨_, _, _, _, e, _⟩ := h; subst e; rfl) | (obtain ⟨_, _, _, _, _, e, _⟩ := h; subst e; rfl) | (obtain ⟨_, _, _, _, _, _, e, _⟩ := h; subst e; rfl) | (obtain ⟨_, _, _, _, _, _, _, e, _⟩ := h; subst e; rfl) | (obtain ⟨_, _, _, _, _, _, _, _, e, _⟩ := h; subst e; rfl) | (obtain ⟨_, _, _, _, _, _, _, _, _, e, _⟩ := h; subst e; rfl) | (obtain ⟨_, _, _, _, _, _, _, _, _, _, e, _⟩ := h; subst e; rfl) | (obtain ⟨_, _, _, _, _, _, _, _, _, _, _, e, _⟩ := h; subst e; rfl) | (obtain ⟨_, _, _, _, _, _, _, _, _, _, _, _, e, _⟩ := h; subst e; rfl) | (obtain ⟨_, _, _, _, _, _, _, _, _, _, _, _, _, e, _⟩ := h; subst e; rfl) | (obtain ⟨_, _, _, _, _, _, _, _, _, _, _, _, _, _, e, _⟩ := h; subst e; rfl) | (obtain ⟨_, _, _, _, _, _, _, _, _, _, _, _, _, _, _, e, _⟩ := h; subst e; rfl) | (obtain ⟨_, _, _, _, _, _, _, _, _, _, _, _, _, _, _, _, e, _⟩ := h; subst e; rfl) | (obtain ⟨_, _, _, _, _, _, _, _, _, _, _, _, _, _, _, _, _, e, _⟩ := h; subst e; rfl) | (obtain ⟨_, _, _, _, _, _, _, _, _, _, _, _, _, _, _, _, _, _, e, _⟩ := h; subst e; rfl) | (obtain ⟨_, _, _, _, _, _, _, _, _, _, _, _, _, _, _, _, _, _, _, e, _⟩ := h; subst e; rfl) | (obtain ⟨_, _, _, _, _, _, _, _, _, _, _, _, _, _, _, _, _, _, _, _, e, _⟩ := h; subst e; rfl) | (obtain ⟨_, _, _, _, _, _, _, _, _, _, _, _, _, _, _, _, _, _, _, _, _, e, _⟩ := h; subst e; rfl) | (obtain ⟨_, _, _, _, _, _, _, _, _, _, _, _, _, _, _, _, _, _, _, _, _, _, e, _⟩ := h; subst e; rfl) | (obtain ⟨_, _, _, _, _, _, _, _, _, _, _, _, _, _, _, _, _, _, _, _, _, _, _, e, _⟩ := h; subst e; rfl) | (obtain ⟨_, _, _, _, _, _, _, _, _, _, _, _, _, _, _, _, _, _, _, _, _, _, _, _, e, _⟩ := h; subst e; rfl) | (obtain ⟨_, _, _, _, _, _, _, _, _, _, _, _, _, _, _, _, _, _, _, _, _, _, _, _, _, e, _⟩ := h; subst e; rfl))) (fun f cdv A outer s H E F0 hr => ?_)
  have nd := (sc__law_shuffled).nd
  refine ⟨_, _, (db_cons (ds_set 2 nd (de_bty (call_listA rfl) lc_listM B.list (da_cons (de_var 1) da_nil)))
      (db_one (ds_ret (de_bty call_tupleK lc_tupleK B.tuple (da_cons (dx_lc (own := [("_law_k", 3)]) rfl nd (di_range1 B.range (da_cons (de_len B.len (da_cons (de_var 2) da_nil)) da_nil)) (blkOk_by (N := ["_law_dice_here", "_law_items", "_law_left", "_law_k"]) (sc := defScope s__law_shuffled) (by decide +kernel)) (fun _ _ _ _ _ => ⟨_, (dg_name 3 nd), (gw_name (by decide))⟩) (fun _ _ _ _ _ => ⟨_, dts_nil⟩) (fun _ _ _ _ _ => ⟨_, (de_popAt (de_var 2) (da_cons (de_call c__law_draw hr (goes0A (E := DXK.no)) (da_cons (de_var 0) (da_cons (de_len B.len (da_cons (de_var 2) da_nil)) da_nil))) da_nil))⟩)) da_nil))))), ?_⟩
  rintro ds M Q E ⟨p, th, ns, rfl, hth, hp, hn, q⟩
  simp only [jEnumU, dTupleK, dCatK, dBMT, dIdxK, dSlK, dRevK, dVar, dC, dOp, dTest, dII, dIC, dFld, dFldS, dMake, dppNil, dppCons, dMerge, dDisp, dCatL, dRg1, dLstRg, dChain, dEq, dAnd, dOr, dNot, dIfE, dNext, dSeq, dDrop, dRet, dIfS, dNever, hName, hNil, hCons, hTup, hSub, dAsg, dNil, dCons, dTup, dLst, dLstM, dIx, dSet, dCall, dwipe, dYes, jSeq, jRng1, jRng2, dCB, dLen, dListM, dTuple, dII2, dAbs, dInt, dBM0, dBM, dAppend, dPop, dPopAt, dAndV, dNotV, dNeg, dIn, dCat, dNoPart, dPart, dSl, dNewT, dIsi, dLc, dFor, dDc, dFrzA, jKeys, dDictZ, dSortTI, jZipM, if_true, if_false, ite_true, ite_false, Bool.false_eq_true, reduceIte, Bool.not_true, Bool.not_false, List.getElem?_cons_zero, List.getElem?_cons_succ, List.set_cons_zero, List.set_cons_succ, List.map_cons, List.map_nil, List.replicate, List.cons_append, List.nil_append, List.length_cons, List.length_nil, dstart]
  refine ⟨_, hth, fun a ha => ⟨ns.length, by simp only [lenV, mset_same], by omega, by rw [rgD_len]; exact len_ok (by omega), ?_⟩⟩
  have nap : a ≠ p := hp.some ha
  refine ⟨fun i acc M' => ∃ ls : List D, ls.length + i = ns.length ∧ (acc ++ ls).Perm ns ∧ M' a = some (.lst ls) ∧ DiL M' p ∧ Ext M M' [p], ⟨ns, by omega, by simp, mset_same, hp.mset nap, (Ext.refl M [p]).mset ha⟩, ?_, ?_⟩
  · rintro i d2 acc M' hd ⟨ls, h1, h2, h3, h4, h5⟩
    obtain ⟨hi, rfl⟩ := rgD_get hd
    simp only [jEnumU, dTupleK, dCatK, dBMT, dIdxK, dSlK, dRevK, dVar, dC, dOp, dTest, dII, dIC, dFld, dFldS, dMake, dppNil, dppCons, dMerge, dDisp, dCatL, dRg1, dLstRg, dChain, dEq, dAnd, dOr, dNot, dIfE, dNext, dSeq, dDrop, dRet, dIfS, dNever, hName, hNil, hCons, hTup, hSub, dAsg, dNil, dCons, dTup, dLst, dLstM, dIx, dSet, dCall, dwipe, dYes, jSeq, jRng1, jRng2, dCB, dLen, dListM, dTuple, dII2, dAbs, dInt, dBM0, dBM, dAppend, dPop, dPopAt, dAndV, dNotV, dNeg, dIn, dCat, dNoPart, dPart, dSl, dNewT, dIsi, dLc, dFor, dDc, dFrzA, jKeys, dDictZ, dSortTI, jZipM, if_true, if_false, ite_true, ite_false, Bool.false_eq_true, reduceIte, Bool.not_true, Bool.not_false, List.getElem?_cons_zero, List.getElem?_cons_succ, List.set_cons_zero, List.set_cons_succ, List.map_cons, List.map_nil, List.replicate, List.cons_append, List.nil_append, List.length_cons, List.length_nil, dstart]
    simp only [tyD, h3]
    refine ⟨trivial, ls.length, by simp only [lenV, h3], p, ls.length, rfl, h4, by omega, by omega, fun r M2 r0 r1 d2 a2 => ?_⟩
    have a2a : M2 a = some (.lst ls) := (a2 a (by simpa using nap)).trans h3
    have hr : r.toNat < ls.length := by omega
    have e1 : ls[r.toNat]? = some ls[r.toNat] := List.getElem?_eq_getElem hr
    generalize ls[r.toNat] = x at e1
    simp only [a2a]
    refine ⟨r.toNat, x, ixN_of (by omega) hr, e1, ls.eraseIdx r.toNat, by rw [List.length_eraseIdx, if_pos hr]; omega, ?_, mset_same, d2.mset nap, (h5.trans a2.ext).mset ha⟩
    have z := eraseIdx_perm e1
    refine List.Perm.trans ?_ h2
    rw [List.append_assoc]
    refine List.Perm.append_left _ ?_
    exact (List.perm_append_comm).trans z
  · rintro acc M' ⟨ls, h1, h2, h3, h4, h5⟩
    rw [rgD_len] at h1
    have : ls = [] := List.length_eq_zero_iff.mp (by omega)
    rw [this, List.append_nil] at h2
    exact fin_self (q acc M' h4 h5 h2)
theorem sc__law_book : FnScope ["_law_dice_here", "_law_most", "_law_size", "_law_found", "_law_content", "_law_chance", "_law_other", "_law_order", "_law_ties", "_law_one", "_law_two"] ["_law_dice_here", "_law_most"] (defScope s__law_book) := ⟨rfl, rfl, rfl, by decide +kernel, rfl, by decide +kernel, by decide +kernel⟩
def sp__law_book : DSp := fun ds M Q _ => ∃ (p : Addr) (most : Int), ds = [.ref p, .int most] ∧ DiL M p ∧ 1 ≤ most ∧ most ≤ 8 ∧ ∀ n ps M2, BookOk n ps → n ≤ most → DiL M2 p → Ext M M2 [p] → Q (.tup [.int n, .kt (ps.map prD)]) M2
theorem c__law_book (F : DFun K mg "_law_book" s__law_book ["_law_dice_here", "_law_most"]) (B : Bn mg) (G : Gs mg) (c__law_draw : DCal P w K mg base CX0 1 "_law_draw" sp__law_draw) (c__law_shuffled : DCal P w K mg base CX0 2 "_law_shuffled" sp__law_shuffled) : DCal P w K mg base CX0 3 "_law_book" sp__law_book := by
  refine dok F sc__law_book (fun ds M Q E h => (by obtain ⟨_, h⟩ := h; first | (obtain ⟨e, _⟩ := h; subst e; rfl) | (obtain ⟨_, e, _⟩ := h; subst e; rfl) | (obtain ⟨_, _, e, _⟩ := h; subst e; rfl) | (obtain ⟨_, _, _, e, _⟩ := h; subst e; rfl) | (obtain ⟨_, _, _, _, e, _⟩ := h; subst e; rfl) | (obtain ⟨_, _, _, _, _, e, _⟩ := h; subst e; rfl) | (obtain ⟨_, _, _, _, _, _, e, _⟩ := h; subst e; rfl) | (obtain ⟨_, _, _, _, _, _, _, e, _⟩ := h; subst e; rfl) | (obtain ⟨_, _, _, _, _, _, _, _, e, _⟩ := h; subst e; rfl) | (obtain ⟨_, _, _, _, _, _, _, _, _, e, _⟩ := h; subst e; rfl) | (obtain ⟨_, _, _, _, _, _, _, _, _, _, e, _⟩ := h; subst e; rfl) | (obtain ⟨_, _, _, _, _, _, _, _, _, _, _, e, _⟩ := h; subst e; rfl) | (obtain ⟨_, _, _, _, _, _, _, _, _, _, _, _, e, _⟩ := h; subst e; rfl) | (obtain ⟨_, _, _, _, _, _, _, _, _, _, _, _, _, e, _⟩ := h; subst e; rfl) | (obtain ⟨_, _, _, _, _, _, _, _, _, _, _, _, _, _, e, _⟩ := h; subst e; rfl) | (obtain ⟨_, _, _, _, _, _, _, _, _, _, _, _, _, _, _, e, _⟩ := h; subst e; rfl) | (obtain ⟨_, _, _, _, _, _, _, _, _, _, _, _, _, _, _, _, e, _⟩ := h; subst e; rfl) | (obtain ⟨_, _, _, _, _, _, _, _, _, _, _, _, _, _, _, _, _, e, _⟩ := h; subst e; rfl) | (obtain ⟨_, _, _, _, _, _, _, _, _, _, _, _, _, _, _, _, _, _, e, _⟩ := h; subst e; rfl) | (obtain ⟨_, _, _, _, _, _, _, _, _, _, _, _, _, _, _, _, _, _, _, e, _⟩ := h; subst e; rfl) | (obtain ⟨_, _, _, _, _, _, _, _, _, _, _, _, _, _, _, _, _, _, _, _, e, _⟩ := h; subst e; rfl) | (obtain ⟨_, _, _, _, _, _, _, _, _, _, _, _, _, _, _, _, _, _, _, _, _, e, _⟩ := h; subst e; rfl) | (obtain ⟨_, _, _, _, _, _, _, _, _, _, _, _, _, _, _, _, _, _, _, _, _, _, e, _⟩ := h; subst e; rfl) | (obtain ⟨_, _, _, _, _, _, _, _, _, _, _, _, _, _, _, _, _, _, _, _, _, _, _, e, _⟩ := h; subst e; rfl) | (obtain ⟨_, _, _, _, _, _, _, _, _, _, _, _, _, _, _, _, _, _, _, _, _, _, _, _, e, _⟩ := h; subst e; rfl) | (obtain ⟨_, _, _, _, _, _, _, _, _, _, _, _, _, _, _, _, _, _, _, _, _, _, _, _, _, e, _⟩ := h; subst e; rfl))) (fun f cdv A outer s H E F0 hr => ?_)
  have nd := (sc__law_book).nd
  refine ⟨_, _, (db_cons (ds_set 2 nd (de_add de_int (de_call c__law_draw hr (goes0A (E := DXK.no)) (da_cons (de_var 0) (da_cons (de_var 1) da_nil)))))
      (db_cons (ds_set 3 nd de_newT)
      (db_cons (ds_for PassesOwn.never rfl (di_range2 B.range (da_cons de_int (da_cons (de_var 2) da_nil))) (dg_name 4 nd) (db_one (ds_put hr (de_var 3) (de_tup (da_cons (de_call c__law_draw hr (goes0A (E := DXK.no)) (da_cons (de_var 0) (da_cons (de_var 4) da_nil))) (da_cons (de_var 4) da_nil))) de_bl)))
      (db_cons (ds_set 5 nd (de_ix hr (de_lst (da_cons de_int (da_cons de_int (da_cons de_int (da_cons de_int da_nil))))) (de_call c__law_draw hr (goes0A (E := DXK.no)) (da_cons (de_var 0) (da_cons de_int da_nil)))))
      (db_cons (ds_for PassesOwn.never rfl (di_range1 B.range (da_cons (de_var 2) da_nil)) (dg_name 4 nd) (db_one (ds_for PassesOwn.never rfl (di_range2 B.range (da_cons (de_add (de_var 4) de_int) (da_cons (de_var 2) da_nil))) (dg_name 6 nd) (db_one (ds_if (DW.dt (dw_and (dt_gt (de_var 5) de_int) (dw_and1 (dt_eq hr (de_call c__law_draw hr (goes0A (E := DXK.no)) (da_cons (de_var 0) (da_cons (de_var 5) da_nil))) de_int)))) (db_one (ds_put hr (de_var 3) (de_tup (da_cons (de_var 4) (da_cons (de_var 6) da_nil))) de_bl)) db_nil)))))
      (db_cons (ds_set 7 nd (de_call c__law_shuffled hr (goes0A (E := DXK.no)) (da_cons (de_var 0) (da_cons (de_listRg B.list (drg_1 B.range (de_var 2))) da_nil))))
      (db_frzA 3 (db_cons (dx_setLcL 8 (own := [("_law_one", 9), ("_law_two", 10)]) rfl nd (sw_true rfl rfl rfl (by decide +kernel)) (dil_keys (de_var 3)) (blkOk_by (N := ["_law_dice_here", "_law_most", "_law_size", "_law_found", "_law_content", "_law_chance", "_law_other", "_law_order", "_law_ties", "_law_one", "_law_two"]) (sc := defScope s__law_book) (by decide +kernel)) (fun _ _ _ _ _ => ⟨_, (dg_tup (n := 2) rfl (dgs_cons (dg_name 9 nd) (dgs_cons (dg_name 10 nd) dgs_nil))), (gw_tup (gws_cons gm_name (gm_cons gm_name gm_nil) (gw_name (by decide)) (gws_cons gm_name gm_nil (gw_name (by decide)) gws_nil)))⟩) (fun _ _ _ _ _ => ⟨_, dts_nil⟩) (fun _ _ _ _ _ => ⟨_, (de_tup (da_cons (de_blt (call_min2 rfl) lc_min2 B.min (da_cons (de_ix hr (de_var 7) (de_var 9)) (da_cons (de_ix hr (de_var 7) (de_var 10)) da_nil))) (da_cons (de_blt (call_max2 rfl) lc_max2 B.max (da_cons (de_ix hr (de_var 7) (de_var 9)) (da_cons (de_ix hr (de_var 7) (de_var 10)) da_nil))) da_nil)))⟩))
      (db_one (ds_ret (de_tup (da_cons (de_var 2) (da_cons (de_bty call_tupleK lc_tupleK B.tuple (da_cons (de_sortP B.sorted (da_cons (de_var 8) da_nil)) da_nil)) da_nil))))))))))))), ?_⟩
  rintro ds M Q E ⟨p, most, rfl, hp, m1, m8, q⟩
  refine dSeq_then (fun γ' M' => ∃ n : Int, γ' = [some (.ref p), some (.int most), some (.int n), none, none, none, none, none, none, none, none] ∧ 1 ≤ n ∧ n ≤ most ∧ DiL M' p ∧ Ext M M' [p]) (fun nx hn => ?_) (fun γ1 M1 h => ?_)
  · simp only [jEnumU, dTupleK, dCatK, dBMT, dIdxK, dSlK, dRevK, dVar, dC, dOp, dTest, dII, dIC, dFld, dFldS, dMake, dppNil, dppCons, dMerge, dDisp, dCatL, dRg1, dLstRg, dChain, dEq, dAnd, dOr, dNot, dIfE, dNext, dSeq, dDrop, dRet, dIfS, dNever, hName, hNil, hCons, hTup, hSub, dAsg, dNil, dCons, dTup, dLst, dLstM, dIx, dSet, dCall, dwipe, dYes, jSeq, jRng1, jRng2, dCB, dLen, dListM, dTuple, dII2, dAbs, dInt, dBM0, dBM, dAppend, dPop, dPopAt, dAndV, dNotV, dNeg, dIn, dCat, dNoPart, dPart, dSl, dNewT, dIsi, dLc, dFor, dDc, dFrzA, jKeys, dDictZ, dSortTI, jZipM, if_true, if_false, ite_true, ite_false, Bool.false_eq_true, reduceIte, Bool.not_true, Bool.not_false, List.getElem?_cons_zero, List.getElem?_cons_succ, List.set_cons_zero, List.set_cons_succ, List.map_cons, List.map_nil, List.replicate, List.cons_append, List.nil_append, List.length_cons, List.length_nil, dstart]
    exact ⟨p, most, rfl, hp, m1, by omega, fun r M2 r0 r1 d2 a2 => hn _ _ ⟨1 + r, rfl, by omega, by omega, d2, a2.ext⟩⟩
  obtain ⟨n, rfl, n1, n2, hp1, E1⟩ := h
  refine dSeq_then (fun γ' M' => ∃ d, γ' = [some (.ref p), some (.int most), some (.int n), some (.ref d), none, none, none, none, none, none, none] ∧ PSt M p n 0 M' d []) (fun nx hn => ?_) (fun γ1 M2 h => ?_)
  · simp only [jEnumU, dTupleK, dCatK, dBMT, dIdxK, dSlK, dRevK, dVar, dC, dOp, dTest, dII, dIC, dFld, dFldS, dMake, dppNil, dppCons, dMerge, dDisp, dCatL, dRg1, dLstRg, dChain, dEq, dAnd, dOr, dNot, dIfE, dNext, dSeq, dDrop, dRet, dIfS, dNever, hName, hNil, hCons, hTup, hSub, dAsg, dNil, dCons, dTup, dLst, dLstM, dIx, dSet, dCall, dwipe, dYes, jSeq, jRng1, jRng2, dCB, dLen, dListM, dTuple, dII2, dAbs, dInt, dBM0, dBM, dAppend, dPop, dPopAt, dAndV, dNotV, dNeg, dIn, dCat, dNoPart, dPart, dSl, dNewT, dIsi, dLc, dFor, dDc, dFrzA, jKeys, dDictZ, dSortTI, jZipM, if_true, if_false, ite_true, ite_false, Bool.false_eq_true, reduceIte, Bool.not_true, Bool.not_false, List.getElem?_cons_zero, List.getElem?_cons_succ, List.set_cons_zero, List.set_cons_succ, List.map_cons, List.map_nil, List.replicate, List.cons_append, List.nil_append, List.length_cons, List.length_nil, dstart]
    exact fun d hd => hn _ _ ⟨d, rfl, hp1.mset (hp1.some hd), E1.mset (E1.fresh (by simpa using hp1.some hd) hd), mset_same, E1.fresh (by simpa using hp1.some hd) hd, hp1.some hd, List.nodup_nil, (fun _ h => by cases h), Nat.le_refl _⟩
  obtain ⟨d, rfl, W⟩ := h
  refine dSeq_then (fun γ' M' => ∃ (o4 : Option D) (ks : List (Int × Int)), γ' = [some (.ref p), some (.int most), some (.int n), some (.ref d), o4, none, none, none, none, none, none] ∧ PSt M p n 8 M' d ks ∧ TrT n ks) (fun nx hn => ?_) (fun γ2 M3 h => ?_)
  · simp only [dFor, jRng2, dCons, dNil, dC, dVar, hName, if_true, if_false, ite_true, ite_false, Bool.false_eq_true, reduceIte, Bool.not_true, Bool.not_false, List.getElem?_cons_zero, List.getElem?_cons_succ, List.set_cons_zero, List.set_cons_succ, List.map_cons, List.map_nil, List.replicate, List.cons_append, List.nil_append, List.length_cons, List.length_nil, dstart]
    refine ⟨by omega, dForI_of (fun i γ M' => ∃ (o4 : Option D) (ks : List (Int × Int)), γ = [some (.ref p), some (.int most), some (.int n), some (.ref d), o4, none, none, none, none, none, none] ∧ PSt M p n i M' d ks ∧ TrT (1 + i) ks) ⟨none, [], rfl, W, fun s h1 h2 => by omega⟩ ?_ ?_⟩
    · rintro i e γ M' he ⟨o, ks, rfl, W, T⟩
      obtain ⟨hi, rfl⟩ := rgD_get he
      simp only [jEnumU, dTupleK, dCatK, dBMT, dIdxK, dSlK, dRevK, dVar, dC, dOp, dTest, dII, dIC, dFld, dFldS, dMake, dppNil, dppCons, dMerge, dDisp, dCatL, dRg1, dLstRg, dChain, dEq, dAnd, dOr, dNot, dIfE, dNext, dSeq, dDrop, dRet, dIfS, dNever, hName, hNil, hCons, hTup, hSub, dAsg, dNil, dCons, dTup, dLst, dLstM, dIx, dSet, dCall, dwipe, dYes, jSeq, jRng1, jRng2, dCB, dLen, dListM, dTuple, dII2, dAbs, dInt, dBM0, dBM, dAppend, dPop, dPopAt, dAndV, dNotV, dNeg, dIn, dCat, dNoPart, dPart, dSl, dNewT, dIsi, dLc, dFor, dDc, dFrzA, jKeys, dDictZ, dSortTI, jZipM, if_true, if_false, ite_true, ite_false, Bool.false_eq_true, reduceIte, Bool.not_true, Bool.not_false, List.getElem?_cons_zero, List.getElem?_cons_succ, List.set_cons_zero, List.set_cons_succ, List.map_cons, List.map_nil, List.replicate, List.cons_append, List.nil_append, List.length_cons, List.length_nil, dstart]
      refine ⟨p, 1 + i, rfl, W.dice, by omega, by omega, fun r M2 r0 r1 d2 a2 => ⟨by decide, ?_⟩⟩
      obtain ⟨M3, ks3, e3, W3, sub, mem⟩ := (W.to d2 a2).put2 (x := r) (y := 1 + i) (by unfold prOk; simp only; omega) (by omega)
      refine ⟨_, e3, _, ks3, rfl, W3, fun s h1 h2 => ?_⟩
      by_cases e : s = 1 + i
      · exact ⟨r, r0, by omega, by rw [e]; exact mem⟩
      · obtain ⟨r', g0, g1, g2⟩ := T s h1 (by omega)
        exact ⟨r', g0, g1, sub _ g2⟩
    · rintro γ M' ⟨o, ks, rfl, W, T⟩
      rw [rgD_len] at W T
      exact hn _ _ ⟨o, ks, rfl, W.weak (by omega), fun s h1 h2 => T s h1 (by omega)⟩
  clear W
  obtain ⟨o4, ks, rfl, W, T⟩ := h
  refine dSeq_then (fun γ' M' => ∃ (c : Int), γ' = [some (.ref p), some (.int most), some (.int n), some (.ref d), o4, some (.int c), none, none, none, none, none] ∧ 0 ≤ c ∧ c ≤ 5 ∧ PSt M p n 8 M' d ks) (fun nx hn => ?_) (fun γ2 M4 h => ?_)
  · simp only [jEnumU, dTupleK, dCatK, dBMT, dIdxK, dSlK, dRevK, dVar, dC, dOp, dTest, dII, dIC, dFld, dFldS, dMake, dppNil, dppCons, dMerge, dDisp, dCatL, dRg1, dLstRg, dChain, dEq, dAnd, dOr, dNot, dIfE, dNext, dSeq, dDrop, dRet, dIfS, dNever, hName, hNil, hCons, hTup, hSub, dAsg, dNil, dCons, dTup, dLst, dLstM, dIx, dSet, dCall, dwipe, dYes, jSeq, jRng1, jRng2, dCB, dLen, dListM, dTuple, dII2, dAbs, dInt, dBM0, dBM, dAppend, dPop, dPopAt, dAndV, dNotV, dNeg, dIn, dCat, dNoPart, dPart, dSl, dNewT, dIsi, dLc, dFor, dDc, dFrzA, jKeys, dDictZ, dSortTI, jZipM, if_true, if_false, ite_true, ite_false, Bool.false_eq_true, reduceIte, Bool.not_true, Bool.not_false, List.getElem?_cons_zero, List.getElem?_cons_succ, List.set_cons_zero, List.set_cons_succ, List.map_cons, List.map_nil, List.replicate, List.cons_append, List.nil_append, List.length_cons, List.length_nil, dstart]
    refine ⟨by decide, p, 4, rfl, W.dice, by decide, by decide, fun r M2 r0 r1 d2 a2 => ?_⟩
    rcases (by omega : r = 0 ∨ r = 1 ∨ r = 2 ∨ r = 3) with rfl | rfl | rfl | rfl
    · exact ⟨.int 0, ixL_at (k := 0) rfl rfl, hn _ _ ⟨0, rfl, by decide, by decide, W.to d2 a2⟩⟩
    · exact ⟨.int 2, ixL_at (k := 1) rfl rfl, hn _ _ ⟨2, rfl, by decide, by decide, W.to d2 a2⟩⟩
    · exact ⟨.int 3, ixL_at (k := 2) rfl rfl, hn _ _ ⟨3, rfl, by decide, by decide, W.to d2 a2⟩⟩
    · exact ⟨.int 5, ixL_at (k := 3) rfl rfl, hn _ _ ⟨5, rfl, by decide, by decide, W.to d2 a2⟩⟩
  clear W
  obtain ⟨c, rfl, c0, c5, W⟩ := h
  refine dSeq_then (fun γ' M' => ∃ (o4 o6 : Option D) (ks : List (Int × Int)), γ' = [some (.ref p), some (.int most), some (.int n), some (.ref d), o4, some (.int c), o6, none, none, none, none] ∧ PSt M p n 80 M' d ks ∧ TrT n ks) (fun nx hn => ?_) (fun γ2 M5 h => ?_)
  · simp only [dFor, jRng1, jRng2, dCons, dNil, dC, dVar, dOp, dII, hName, if_true, if_false, ite_true, ite_false, Bool.false_eq_true, reduceIte, Bool.not_true, Bool.not_false, List.getElem?_cons_zero, List.getElem?_cons_succ, List.set_cons_zero, List.set_cons_succ, List.map_cons, List.map_nil, List.replicate, List.cons_append, List.nil_append, List.length_cons, List.length_nil, dstart]
    refine ⟨by omega, dForI_of (fun i γ M' => ∃ (o4 o6 : Option D) (ks : List (Int × Int)), γ = [some (.ref p), some (.int most), some (.int n), some (.ref d), o4, some (.int c), o6, none, none, none, none] ∧ PSt M p n (8 + 8 * i) M' d ks ∧ TrT n ks) ⟨o4, none, ks, rfl, W, T⟩ ?_ ?_⟩
    · clear W T
      rintro i e γ M' he ⟨o4, o6, ks, rfl, W, T⟩
      obtain ⟨hi, rfl⟩ := rgD_get he
      simp only [if_true, if_false, ite_true, ite_false, Bool.false_eq_true, reduceIte, Bool.not_true, Bool.not_false, List.getElem?_cons_zero, List.getElem?_cons_succ, List.set_cons_zero, List.set_cons_succ, List.map_cons, List.map_nil, List.replicate, List.cons_append, List.nil_append, List.length_cons, List.length_nil, dstart]
      refine ⟨by omega, dForI_of (fun j γ M' => ∃ (o6 : Option D) (ks : List (Int × Int)), γ = [some (.ref p), some (.int most), some (.int n), some (.ref d), some (.int (0 + (i : Int))), some (.int c), o6, none, none, none, none] ∧ PSt M p n (8 + 8 * i + j) M' d ks ∧ TrT n ks) ⟨o6, ks, rfl, W, T⟩ ?_ ?_⟩
      · clear W T
        rintro j e γ M' he ⟨o6, ks, rfl, W, T⟩
        obtain ⟨hj, rfl⟩ := rgD_get he
        simp only [jEnumU, dTupleK, dCatK, dBMT, dIdxK, dSlK, dRevK, dVar, dC, dOp, dTest, dII, dIC, dFld, dFldS, dMake, dppNil, dppCons, dMerge, dDisp, dCatL, dRg1, dLstRg, dChain, dEq, dAnd, dOr, dNot, dIfE, dNext, dSeq, dDrop, dRet, dIfS, dNever, hName, hNil, hCons, hTup, hSub, dAsg, dNil, dCons, dTup, dLst, dLstM, dIx, dSet, dCall, dwipe, dYes, jSeq, jRng1, jRng2, dCB, dLen, dListM, dTuple, dII2, dAbs, dInt, dBM0, dBM, dAppend, dPop, dPopAt, dAndV, dNotV, dNeg, dIn, dCat, dNoPart, dPart, dSl, dNewT, dIsi, dLc, dFor, dDc, dFrzA, jKeys, dDictZ, dSortTI, jZipM, if_true, if_false, ite_true, ite_false, Bool.false_eq_true, reduceIte, Bool.not_true, Bool.not_false, List.getElem?_cons_zero, List.getElem?_cons_succ, List.set_cons_zero, List.set_cons_succ, List.map_cons, List.map_nil, List.replicate, List.cons_append, List.nil_append, List.length_cons, List.length_nil, dstart]
        by_cases hc : 0 < c
        · rw [if_pos (decide_eq_true hc)]
          refine ⟨p, c, rfl, W.dice, by omega, by omega, fun r M2 r0 r1 d2 a2 => ⟨rfl, rfl, ?_⟩⟩
          have W2 := W.to d2 a2
          rw [D.eq_int]
          by_cases hr : r = 0
          · rw [if_pos (by simpa using hr)]
            obtain ⟨M3, ks3, e3, W3, sub, _⟩ := W2.put2 (x := 0 + (i : Int)) (y := 0 + (i : Int) + 1 + j) (by unfold prOk; simp only; omega) (by omega)
            exact ⟨by decide, _, e3, _, ks3, rfl, W3.weak (by omega), fun s h1 h2 => let ⟨r', g0, g1, g2⟩ := T s h1 h2; ⟨r', g0, g1, sub _ g2⟩⟩
          · rw [if_neg (by simpa using hr)]
            exact ⟨_, ks, rfl, W2.weak (by omega), T⟩
        · rw [if_neg (by simpa using hc)]
          exact ⟨_, ks, rfl, W.weak (by omega), T⟩
      · rintro γ M' ⟨o6, ks, rfl, W, T⟩
        rw [rgD_len] at W
        exact ⟨_, o6, ks, rfl, W.weak (by omega), T⟩
    · rintro γ M' ⟨o4, o6, ks, rfl, W, T⟩
      rw [rgD_len] at W
      exact hn _ _ ⟨o4, o6, ks, rfl, W.weak (by omega), T⟩
  clear W T
  obtain ⟨o4, o6, ks, rfl, W, T⟩ := h
  refine dSeq_then (fun γ' M' => ∃ (os : List Int), γ' = [some (.ref p), some (.int most), some (.int n), some (.ref d), o4, some (.int c), o6, some (.kt (os.map .int)), none, none, none] ∧ os.Perm (allOf n) ∧ PSt M p n 80 M' d ks) (fun nx hn => ?_) (fun γ2 M6 h => ?_)
  · simp only [jEnumU, dTupleK, dCatK, dBMT, dIdxK, dSlK, dRevK, dVar, dC, dOp, dTest, dII, dIC, dFld, dFldS, dMake, dppNil, dppCons, dMerge, dDisp, dCatL, dRg1, dLstRg, dChain, dEq, dAnd, dOr, dNot, dIfE, dNext, dSeq, dDrop, dRet, dIfS, dNever, hName, hNil, hCons, hTup, hSub, dAsg, dNil, dCons, dTup, dLst, dLstM, dIx, dSet, dCall, dwipe, dYes, jSeq, jRng1, jRng2, dCB, dLen, dListM, dTuple, dII2, dAbs, dInt, dBM0, dBM, dAppend, dPop, dPopAt, dAndV, dNotV, dNeg, dIn, dCat, dNoPart, dPart, dSl, dNewT, dIsi, dLc, dFor, dDc, dFrzA, jKeys, dDictZ, dSortTI, jZipM, if_true, if_false, ite_true, ite_false, Bool.false_eq_true, reduceIte, Bool.not_true, Bool.not_false, List.getElem?_cons_zero, List.getElem?_cons_succ, List.set_cons_zero, List.set_cons_succ, List.map_cons, List.map_nil, List.replicate, List.cons_append, List.nil_append, List.length_cons, List.length_nil, dstart]
    have al := allOf_len n
    refine ⟨⟨by omega, by omega⟩, p, _, _, rfl, rfl, W.dice, by rw [rgL_all, List.length_map]; omega, fun ms M2 d2 E2 pm => ?_⟩
    rw [rgL_all] at pm
    obtain ⟨os, rfl, po⟩ := perm_mapD pm
    exact hn _ _ ⟨os, rfl, po, d2, W.ext.trans E2, E2 _ _ (by simpa using W.ne) W.at_, W.fr, W.ne, W.nd, W.ok, W.len⟩
  clear W
  obtain ⟨os, rfl, po, W⟩ := h
  simp only [jEnumU, dTupleK, dCatK, dBMT, dIdxK, dSlK, dRevK, dVar, dC, dOp, dTest, dII, dIC, dFld, dFldS, dMake, dppNil, dppCons, dMerge, dDisp, dCatL, dRg1, dLstRg, dChain, dEq, dAnd, dOr, dNot, dIfE, dNext, dSeq, dDrop, dRet, dIfS, dNever, hName, hNil, hCons, hTup, hSub, dAsg, dNil, dCons, dTup, dLst, dLstM, dIx, dSet, dCall, dwipe, dYes, jSeq, jRng1, jRng2, dCB, dLen, dListM, dTuple, dII2, dAbs, dInt, dBM0, dBM, dAppend, dPop, dPopAt, dAndV, dNotV, dNeg, dIn, dCat, dNoPart, dPart, dSl, dNewT, dIsi, dLc, dFor, dDc, dFrzA, jKeys, dDictZ, dSortTI, jZipM, if_true, if_false, ite_true, ite_false, Bool.false_eq_true, reduceIte, Bool.not_true, Bool.not_false, List.getElem?_cons_zero, List.getElem?_cons_succ, List.set_cons_zero, List.set_cons_succ, List.map_cons, List.map_nil, List.replicate, List.cons_append, List.nil_append, List.length_cons, List.length_nil, dstart]
  have kk : List.map (fun k => D.tup (List.map keyD k)) ((ks.map kvP).map (·.1)) = ks.map prD := by
    rw [List.map_map, List.map_map]
    exact List.map_congr_left fun q _ => rfl
  have wl := W.len
  have ol : os.length = n.toNat := by rw [po.length_eq, allOf_len]
  refine ⟨_, .dt ((ks.map kvP).map (·.1)) ((ks.map kvP).map (·.2)), _, rfl, by simp only [frzV, W.at_]; rfl, ?_⟩
  simp only [kk]
  refine ⟨by rw [List.length_map]; exact len_ok (by omega), dLcI_map (fun e => match e with | .tup [.int a, .int b] => prD (renP os (a, b)) | e => e) (fun i e he Q2 q2 => ?_) ?_⟩
  · obtain ⟨⟨a, b⟩, hq, rfl⟩ := get_pr he
    obtain ⟨a0, ab, bn⟩ := W.ok _ (List.mem_of_getElem? hq)
    simp only at a0 ab bn
    have ga : os[a.toNat]? = some (os.getD a.toNat 0) := by rw [List.getD_eq_getElem?_getD, List.getElem?_eq_getElem (by omega)]; rfl
    have gb : os[b.toNat]? = some (os.getD b.toNat 0) := by rw [List.getD_eq_getElem?_getD, List.getElem?_eq_getElem (by omega)]; rfl
    have xa : ∀ M, dIxV M (.kt (os.map .int)) (.int a) = some (.int (os.getD a.toNat 0)) := fun M => atI_at (k := a.toNat) (by omega) (by rw [List.getElem?_map, ga]; rfl)
    have xb : ∀ M, dIxV M (.kt (os.map .int)) (.int b) = some (.int (os.getD b.toNat 0)) := fun M => atI_at (k := b.toNat) (by omega) (by rw [List.getElem?_map, gb]; rfl)
    simp only [jEnumU, dTupleK, dCatK, dBMT, dIdxK, dSlK, dRevK, dVar, dC, dOp, dTest, dII, dIC, dFld, dFldS, dMake, dppNil, dppCons, dMerge, dDisp, dCatL, dRg1, dLstRg, dChain, dEq, dAnd, dOr, dNot, dIfE, dNext, dSeq, dDrop, dRet, dIfS, dNever, hName, hNil, hCons, hTup, hSub, dAsg, dNil, dCons, dTup, dLst, dLstM, dIx, dSet, dCall, dwipe, dYes, jSeq, jRng1, jRng2, dCB, dLen, dListM, dTuple, dII2, dAbs, dInt, dBM0, dBM, dAppend, dPop, dPopAt, dAndV, dNotV, dNeg, dIn, dCat, dNoPart, dPart, dSl, dNewT, dIsi, dLc, dFor, dDc, dFrzA, jKeys, dDictZ, dSortTI, jZipM, if_true, if_false, ite_true, ite_false, Bool.false_eq_true, reduceIte, Bool.not_true, Bool.not_false, List.getElem?_cons_zero, List.getElem?_cons_succ, List.set_cons_zero, List.set_cons_succ, List.map_cons, List.map_nil, List.replicate, List.cons_append, List.nil_append, List.length_cons, List.length_nil, dstart, prD]
    exact ⟨trivial, _, xa _, _, xb _, _, xa _, _, xb _, by decide, q2⟩
  · rw [show ((ks.map prD).map fun e => match e with | .tup [.int a, .int b] => prD (renP os (a, b)) | e => e) = (ks.map (renP os)).map prD from by
      rw [List.map_map, List.map_map]
      exact List.map_congr_left fun q _ => rfl]
    refine ⟨ks.map (renP os), .inl rfl, fun qs hq hs => ?_⟩
    exact ⟨by decide, fin_self (q n qs _ (ren_book n1 (by omega) W.nd W.ok T po hq hs) n2 (W.dice.mdel W.ne) (W.ext.mdel W.fr))⟩
theorem sc__law_dice : FnScope ["_law_script", "_law_cell"] ["_law_script"] (defScope s__law_dice) := ⟨rfl, rfl, rfl, by decide +kernel, rfl, by decide +kernel, by decide +kernel⟩
def sp__law_dice : DSp := fun ds M Q _ => ∃ ns : List Int, ds = [.ls (ns.map .int)] ∧ ns.length ≤ 63 ∧ ∀ p M2, M p = none → DiL M2 p → Agree M M2 [p] → Q (.ref p) M2
theorem c__law_dice (F : DFun K mg "_law_dice" s__law_dice ["_law_script"]) (B : Bn mg) (G : Gs mg)  : DCal P w K mg base CX0 1 "_law_dice" sp__law_dice := by
  refine dok F sc__law_dice (fun ds M Q E h => (by obtain ⟨_, h⟩ := h; first | (obtain ⟨e, _⟩ := h; subst e; rfl) | (obtain ⟨_, e, _⟩ := h; subst e; rfl) | (obtain ⟨_, _, e, _⟩ := h; subst e; rfl) | (obtain ⟨_, _, _, e, _⟩ := h; subst e; rfl) | (obtain ⟨_, _, _, _, e, _⟩ := h; subst e; rfl) | (obtain ⟨_, _, _, _, _, e, _⟩ := h; subst e; rfl) | (obtain ⟨_, _, _, _, _, _, e, _⟩ := h; subst e; rfl) | (obtain ⟨_, _, _, _, _, _, _, e, _⟩ := h; subst e; rfl) | (obtain ⟨_, _, _, _, _, _, _, _, e, _⟩ := h; subst e; rfl) | (obtain ⟨_, _, _, _, _, _, _, _, _, e, _⟩ := h; subst e; rfl) | (obtain ⟨_, _, _, _, _, _, _, _, _, _, e, _⟩ := h; subst e; rfl) | (obtain ⟨_, _, _, _, _, _, _, _, _, _, _, e, _⟩ := h; subst e; rfl) | (obtain ⟨_, _, _, _, _, _, _, _, _, _, _, _, e, _⟩ := h; subst e; rfl) | (obtain ⟨_, _, _, _, _, _, _, _, _, _, _, _, _, e, _⟩ := h; subst e; rfl) | (obtain ⟨_, _, _, _, _, _, _, _, _, _, _, _, _, _, e, _⟩ := h; subst e; rfl) | (obtain ⟨_, _, _, _, _, _, _, _, _, _, _, _, _, _, _, e, _⟩ := h; subst e; rfl) | (obtain ⟨_, _, _, _, _, _, _, _, _, _, _, _, _, _, _, _, e, _⟩ := h; subst e; rfl) | (obtain ⟨_, _, _, _, _, _, _, _, _, _, _, _, _, _, _, _, _, e, _⟩ := h; subst e; rfl) | (obtain ⟨_, _, _, _, _, _, _, _, _, _, _, _, _, _, _, _, _, _, e, _⟩ := h; subst e; rfl) | (obtain ⟨_, _, _, _, _, _, _, _, _, _, _, _, _, _, _, _, _, _, _, e, _⟩ := h; subst e; rfl) | (obtain ⟨_, _, _, _, _, _, _, _, _, _, _, _, _, _, _, _, _, _, _, _, e, _⟩ := h; subst e; rfl) | (obtain ⟨_, _, _, _, _, _, _, _, _, _, _, _, _, _, _, _, _, _, _, _, _, e, _⟩ := h; subst e; rfl) | (obtain ⟨_, _, _, _, _, _, _, _, _, _, _, _, _, _, _, _, _, _, _, _, _, _, e, _⟩ := h; subst e; rfl) | (obtain ⟨_, _, _, _, _, _, _, _, _, _, _, _, _, _, _, _, _, _, _, _, _, _, _, e, _⟩ := h; subst e; rfl) | (obtain ⟨_, _, _, _, _, _, _, _, _, _, _, _, _, _, _, _, _, _, _, _, _, _, _, _, e, _⟩ := h; subst e; rfl) | (obtain ⟨_, _, _, _, _, _, _, _, _, _, _, _, _, _, _, _, _, _, _, _, _, _, _, _, _, e, _⟩ := h; subst e; rfl))) (fun f cdv A outer s H E F0 hr => ?_)
  have nd := (sc__law_dice).nd
  refine ⟨_, _, (db_one (ds_ret (de_lstM (da_cons (dx_lc (own := [("_law_cell", 1)]) rfl nd (di_seq (de_slice (de_var 0) do_none (do_some de_int))) (blkOk_by (N := ["_law_script", "_law_cell"]) (sc := defScope s__law_dice) (by decide +kernel)) (fun _ _ _ _ _ => ⟨_, (dg_name 1 nd), (gw_name (by decide))⟩) (fun _ _ _ _ _ => ⟨_, dts_nil⟩) (fun _ _ _ _ _ => ⟨_, (de_blt call_abs lc_abs B.abs (da_cons (de_bty call_int1 lc_int B.int (da_cons (de_var 1) da_nil)) da_nil))⟩)) (da_cons de_int (da_cons de_int (da_cons de_int (da_cons de_int da_nil)))))))), ?_⟩
  rintro ds M Q E ⟨ns, rfl, hl, q⟩
  simp only [jEnumU, dTupleK, dCatK, dBMT, dIdxK, dSlK, dRevK, dVar, dC, dOp, dTest, dII, dIC, dFld, dFldS, dMake, dppNil, dppCons, dMerge, dDisp, dCatL, dRg1, dLstRg, dChain, dEq, dAnd, dOr, dNot, dIfE, dNext, dSeq, dDrop, dRet, dIfS, dNever, hName, hNil, hCons, hTup, hSub, dAsg, dNil, dCons, dTup, dLst, dLstM, dIx, dSet, dCall, dwipe, dYes, jSeq, jRng1, jRng2, dCB, dLen, dListM, dTuple, dII2, dAbs, dInt, dBM0, dBM, dAppend, dPop, dPopAt, dAndV, dNotV, dNeg, dIn, dCat, dNoPart, dPart, dSl, dNewT, dIsi, dLc, dFor, dDc, dFrzA, jKeys, dDictZ, dSortTI, jZipM, if_true, if_false, ite_true, ite_false, Bool.false_eq_true, reduceIte, Bool.not_true, Bool.not_false, List.getElem?_cons_zero, List.getElem?_cons_succ, List.set_cons_zero, List.set_cons_succ, List.map_cons, List.map_nil, List.replicate, List.cons_append, List.nil_append, List.length_cons, List.length_nil, dstart]
  have e : cutD (ns.map D.int) none (some 63) = ns.map D.int := by
    have h1 : HT.sIx (ns.map D.int).length 0 none = 0 := rfl
    have h2 : (ns.map D.int).length ≤ HT.sIx (ns.map D.int).length (ns.map D.int).length (some 63) := by
      rw [List.length_map]
      show ns.length ≤ min 63 ns.length
      omega
    unfold cutD
    rw [h1, List.drop_zero, List.take_of_length_le (by omega)]
  rw [e]
  refine ⟨by rw [List.length_map]; exact len_ok (by omega), fun i acc M' => M' = M ∧ ∃ ms : List Int, acc = ms.map .int, ⟨rfl, [], rfl⟩, ?_, ?_⟩
  · rintro i d acc M' hd ⟨rfl, ms, rfl⟩
    obtain ⟨x, hx, rfl⟩ := get_int hd
    simp only [jEnumU, dTupleK, dCatK, dBMT, dIdxK, dSlK, dRevK, dVar, dC, dOp, dTest, dII, dIC, dFld, dFldS, dMake, dppNil, dppCons, dMerge, dDisp, dCatL, dRg1, dLstRg, dChain, dEq, dAnd, dOr, dNot, dIfE, dNext, dSeq, dDrop, dRet, dIfS, dNever, hName, hNil, hCons, hTup, hSub, dAsg, dNil, dCons, dTup, dLst, dLstM, dIx, dSet, dCall, dwipe, dYes, jSeq, jRng1, jRng2, dCB, dLen, dListM, dTuple, dII2, dAbs, dInt, dBM0, dBM, dAppend, dPop, dPopAt, dAndV, dNotV, dNeg, dIn, dCat, dNoPart, dPart, dSl, dNewT, dIsi, dLc, dFor, dDc, dFrzA, jKeys, dDictZ, dSortTI, jZipM, if_true, if_false, ite_true, ite_false, Bool.false_eq_true, reduceIte, Bool.not_true, Bool.not_false, List.getElem?_cons_zero, List.getElem?_cons_succ, List.set_cons_zero, List.set_cons_succ, List.map_cons, List.map_nil, List.replicate, List.cons_append, List.nil_append, List.length_cons, List.length_nil, dstart]
    exact ⟨trivial, ms ++ [_], by rw [List.map_append]; rfl⟩
  · rintro acc M' ⟨rfl, ms, rfl⟩
    refine ⟨by decide, fun p hp => fin_self (q p _ hp ⟨ms, 0, 0, 1, 0, mset_same, by decide, by decide⟩ (Agree.mset (by simp)))⟩
theorem sc__law_tied : FnScope ["_law_size", "_law_ties", "_law_found", "_law_one", "_law_two", "_law_content", "_law_row"] ["_law_size", "_law_ties"] (defScope s__law_tied) := ⟨rfl, rfl, rfl, by decide +kernel, rfl, by decide +kernel, by decide +kernel⟩
def sp__law_tied : DSp := fun ds M Q _ => ∃ (n : Int) (ps : List (Int × Int)), ds = [.int n, .kt (ps.map prD)] ∧ 0 ≤ n ∧ n ≤ 10000 ∧ ps.length ≤ 1000000 ∧ PrsOk n ps ∧ Q (.lst (rowsL n ps)) M
theorem c__law_tied (F : DFun K mg "_law_tied" s__law_tied ["_law_size", "_law_ties"]) (B : Bn mg) (G : Gs mg)  : DCal P w K mg base CX0 1 "_law_tied" sp__law_tied := by
  refine dok F sc__law_tied (fun ds M Q E h => (by obtain ⟨_, h⟩ := h; first | (obtain ⟨e, _⟩ := h; subst e; rfl) | (obtain ⟨_, e, _⟩ := h; subst e; rfl) | (obtain ⟨_, _, e, _⟩ := h; subst e; rfl) | (obtain ⟨_, _, _, e, _⟩ := h; subst e; rfl) | (obtain ⟨_, _, _, _, e, _⟩ := h; subst e; rfl) | (obtain ⟨_, _, _, _, _, e, _⟩ := h; subst e; rfl) | (obtain ⟨_, _, _, _, _, _, e, _⟩ := h; subst e; rfl) | (obtain ⟨_, _, _, _, _, _, _, e, _⟩ := h; subst e; rfl) | (obtain ⟨_, _, _, _, _, _, _, _, e, _⟩ := h; subst e; rfl) | (obtain ⟨_, _, _, _, _, _, _, _, _, e, _⟩ := h; subst e; rfl) | (obtain ⟨_, _, _, _, _, _, _, _, _, _, e, _⟩ := h; subst e; rfl) | (obtain ⟨_, _, _, _, _, _, _, _, _, _, _, e, _⟩ := h; subst e; rfl) | (obtain ⟨_, _, _, _, _, _, _, _, _, _, _, _, e, _⟩ := h; subst e; rfl) | (obtain ⟨_, _, _, _, _, _, _, _, _, _, _, _, _, e, _⟩ := h; subst e; rfl) | (obtain ⟨_, _, _, _, _, _, _, _, _, _, _, _, _, _, e, _⟩ := h; subst e; rfl) | (obtain ⟨_, _, _, _, _, _, _, _, _, _, _, _, _, _, _, e, _⟩ := h; subst e; rfl) | (obtain ⟨_, _, _, _, _, _, _, _, _, _, _, _, _, _, _, _, e, _⟩ := h; subst e; rfl) | (obtain ⟨_, _, _, _, _, _, _, _, _, _, _, _, _, _, _, _, _, e, _⟩ := h; subst e; rfl) | (obtain ⟨_, _, _, _, _, _, _, _, _, _, _, _, _, _, _, _, _, _, e, _⟩ := h; subst e; rfl) | (obtain ⟨_, _, _, _, _, _, _, _, _, _, _, _, _, _, _, _, _, _, _, e, _⟩ := h; subst e; rfl) | (obtain ⟨_, _, _, _, _, _, _, _, _, _, _, _, _, _, _, _, _, _, _, _, e, _⟩ := h; subst e; rfl) | (obtain ⟨_, _, _, _, _, _, _, _, _, _, _, _, _, _, _, _, _, _, _, _, _, e, _⟩ := h; subst e; rfl) | (obtain ⟨_, _, _, _, _, _, _, _, _, _, _, _, _, _, _, _, _, _, _, _, _, _, e, _⟩ := h; subst e; rfl) | (obtain ⟨_, _, _, _, _, _, _, _, _, _, _, _, _, _, _, _, _, _, _, _, _, _, _, e, _⟩ := h; subst e; rfl) | (obtain ⟨_, _, _, _, _, _, _, _, _, _, _, _, _, _, _, _, _, _, _, _, _, _, _, _, e, _⟩ := h; subst e; rfl) | (obtain ⟨_, _, _, _, _, _, _, _, _, _, _, _, _, _, _, _, _, _, _, _, _, _, _, _, _, e, _⟩ := h; subst e; rfl))) (fun f cdv A outer s H E F0 hr => ?_)
  have nd := (sc__law_tied).nd
  refine ⟨_, _, (db_cons (dx_setLc 2 (own := [("_law_content", 5)]) rfl nd (sw_true rfl rfl rfl (by decide +kernel)) (di_range1 B.range (da_cons (de_var 0) da_nil)) (blkOk_by (N := ["_law_size", "_law_ties", "_law_found", "_law_one", "_law_two", "_law_content", "_law_row"]) (sc := defScope s__law_tied) (by decide +kernel)) (fun _ _ _ _ _ => ⟨_, (dg_name 5 nd), (gw_name (by decide))⟩) (fun _ _ _ _ _ => ⟨_, dts_nil⟩) (fun _ _ _ _ _ => ⟨_, (de_lstM da_nil)⟩))
      (db_cons (ds_for PassesOwn.never rfl (di_seq (de_var 1)) (dg_tup (n := 2) rfl (dgs_cons (dg_name 3 nd) (dgs_cons (dg_name 4 nd) dgs_nil))) (db_cons (ds_expr (de_append (de_ix hr (de_var 2) (de_var 3)) (da_cons (de_var 4) da_nil)))
      (db_one (ds_expr (de_append (de_ix hr (de_var 2) (de_var 4)) (da_cons (de_var 3) da_nil))))))
      (db_one (ds_ret (dx_lc (own := [("_law_row", 6)]) rfl nd (di_seq (de_var 2)) (blkOk_by (N := ["_law_size", "_law_ties", "_law_found", "_law_one", "_law_two", "_law_content", "_law_row"]) (sc := defScope s__law_tied) (by decide +kernel)) (fun _ _ _ _ _ => ⟨_, (dg_name 6 nd), (gw_name (by decide))⟩) (fun _ _ _ _ _ => ⟨_, dts_nil⟩) (fun _ _ _ _ _ => ⟨_, (de_sortI B.sorted (da_cons (de_var 6) da_nil))⟩)))))), ?_⟩
  rintro ds M Q E ⟨n, ps, rfl, h0, hn, hz, h, q⟩
  simp only [jEnumU, dTupleK, dCatK, dBMT, dIdxK, dSlK, dRevK, dVar, dC, dOp, dTest, dII, dIC, dFld, dFldS, dMake, dppNil, dppCons, dMerge, dDisp, dCatL, dRg1, dLstRg, dChain, dEq, dAnd, dOr, dNot, dIfE, dNext, dSeq, dDrop, dRet, dIfS, dNever, hName, hNil, hCons, hTup, hSub, dAsg, dNil, dCons, dTup, dLst, dLstM, dIx, dSet, dCall, dwipe, dYes, jSeq, jRng1, jRng2, dCB, dLen, dListM, dTuple, dII2, dAbs, dInt, dBM0, dBM, dAppend, dPop, dPopAt, dAndV, dNotV, dNeg, dIn, dCat, dNoPart, dPart, dSl, dNewT, dIsi, dLc, dFor, dDc, dFrzA, jKeys, dDictZ, dSortTI, jZipM, if_true, if_false, ite_true, ite_false, Bool.false_eq_true, reduceIte, Bool.not_true, Bool.not_false, List.getElem?_cons_zero, List.getElem?_cons_succ, List.set_cons_zero, List.set_cons_succ, List.map_cons, List.map_nil, List.replicate, List.cons_append, List.nil_append, List.length_cons, List.length_nil, dstart]
  refine ⟨by omega, by rw [rgD_len]; exact len_ok (by omega), lcI_fresh (fun d M Q h γ => h _) fun as M1 R ho hf => ?_⟩
  rw [rgD_len] at R
  have has : as.length = n.toNat := by rw [R.len]; simp
  refine dForI_of (fun i γ M' => ∃ o1 o2, γ = [some (.int n), some (.kt (ps.map prD)), some (.lst (as.map .ref)), o1, o2, none, none] ∧ RowsAt M' as ((List.range n.toNat).map fun (j : Nat) => (nbr (ps.take i) (j : Int)).map .int) ∧ ∀ p, p ∉ as → M' p = M p) ?_ ?_ ?_
  · refine ⟨none, none, rfl, ?_, ho⟩
    have e : (List.range n.toNat).map (fun (j : Nat) => (nbr (ps.take 0) (j : Int)).map D.int) = List.replicate n.toNat [] := by
      apply List.ext_getElem?
      intro j
      simp only [List.take_zero, nbr, List.flatMap_nil, List.map_nil, List.getElem?_map, List.getElem?_replicate]
      by_cases hj : j < n.toNat
      · rw [List.getElem?_range hj, if_pos hj]; rfl
      · rw [List.getElem?_eq_none (by simpa using hj), if_neg hj]; rfl
    rw [e]; exact R
  · rintro i d γ M2 hd ⟨o1, o2, rfl, R2, ho2⟩
    obtain ⟨⟨a, b⟩, hp, rfl⟩ := get_pr hd
    obtain ⟨k1, k2, k3⟩ := h.ok _ (List.mem_of_getElem? hp)
    simp only at k1 k2 k3
    have hi := (List.getElem?_eq_some_iff.mp hp).1
    have tl : (ps.take i).length ≤ ps.length := by rw [List.length_take]; omega
    obtain ⟨x, hx, mx, R3⟩ := R2.push (k := a.toNat) (d := .int b) (g := fun (j : Nat) => (nbr (ps.take i) (j : Int) ++ (if (j : Int) = a then [b] else [])).map .int) (by omega) (fun j => by
      by_cases e : j = a.toNat
      · have e2 : (j : Int) = a := by omega
        simp [e, e2, show ((a.toNat : Nat) : Int) = a by omega]
      · have e2 : ¬ (j : Int) = a := by omega
        simp [e, e2])
    simp only [jEnumU, dTupleK, dCatK, dBMT, dIdxK, dSlK, dRevK, dVar, dC, dOp, dTest, dII, dIC, dFld, dFldS, dMake, dppNil, dppCons, dMerge, dDisp, dCatL, dRg1, dLstRg, dChain, dEq, dAnd, dOr, dNot, dIfE, dNext, dSeq, dDrop, dRet, dIfS, dNever, hName, hNil, hCons, hTup, hSub, dAsg, dNil, dCons, dTup, dLst, dLstM, dIx, dSet, dCall, dwipe, dYes, jSeq, jRng1, jRng2, dCB, dLen, dListM, dTuple, dII2, dAbs, dInt, dBM0, dBM, dAppend, dPop, dPopAt, dAndV, dNotV, dNeg, dIn, dCat, dNoPart, dPart, dSl, dNewT, dIsi, dLc, dFor, dDc, dFrzA, jKeys, dDictZ, dSortTI, jZipM, if_true, if_false, ite_true, ite_false, Bool.false_eq_true, reduceIte, Bool.not_true, Bool.not_false, List.getElem?_cons_zero, List.getElem?_cons_succ, List.set_cons_zero, List.set_cons_succ, List.map_cons, List.map_nil, List.replicate, List.cons_append, List.nil_append, List.length_cons, List.length_nil, dstart, prD]
    refine ⟨trivial, .ref x, ref_at (by omega) hx, by simp only [tyD, mx], ?_⟩
    simp only [mx]
    have l1 := nbr_len (ps.take i) (a.toNat : Nat)
    refine ⟨len_lt (by rw [List.length_map]; omega), ?_⟩
    obtain ⟨y, hy, my, R4⟩ := R3.push (k := b.toNat) (d := .int a) (g := fun (j : Nat) => (nbr (ps.take (i + 1)) (j : Int)).map .int) (by omega) (fun j => by
      rw [take_succ_of hp, nbr_snoc]
      by_cases e : j = b.toNat
      · have e2 : (j : Int) = b := by omega
        have e3 : ¬ (j : Int) = a := by omega
        have e4 : ¬ a = (j : Int) := by omega
        simp [e, show ((b.toNat : Nat) : Int) = b by omega, show ¬ b = a by omega, show ¬ a = b by omega]
      · have e2 : ¬ b = (j : Int) := by omega
        by_cases e3 : (j : Int) = a
        · simp [e, e3, show ¬ b = a by omega, show ¬ a.toNat = b.toNat by omega]
        · have e4 : ¬ a = (j : Int) := by omega
          simp [e, e2, e3, e4])
    refine ⟨.ref y, ref_at (by omega) hy, by simp only [tyD, my], ?_⟩
    simp only [my]
    have l2 := nbr_len (ps.take i) (b.toNat : Nat)
    have e5 : ¬ ((b.toNat : Nat) : Int) = a := by omega
    refine ⟨len_lt (by rw [List.length_map, if_neg e5, List.append_nil]; omega), _, _, rfl, R4, fun p hp' => ?_⟩
    rw [mset_ne fun z => hp' (by rw [z]; exact List.mem_of_getElem? hy), mset_ne fun z => hp' (by rw [z]; exact List.mem_of_getElem? hx)]
    exact ho2 p hp'
  · rintro γ M2 ⟨o1, o2, rfl, R2, ho2⟩
    rw [List.length_map, List.take_length] at R2
    simp only [jEnumU, dTupleK, dCatK, dBMT, dIdxK, dSlK, dRevK, dVar, dC, dOp, dTest, dII, dIC, dFld, dFldS, dMake, dppNil, dppCons, dMerge, dDisp, dCatL, dRg1, dLstRg, dChain, dEq, dAnd, dOr, dNot, dIfE, dNext, dSeq, dDrop, dRet, dIfS, dNever, hName, hNil, hCons, hTup, hSub, dAsg, dNil, dCons, dTup, dLst, dLstM, dIx, dSet, dCall, dwipe, dYes, jSeq, jRng1, jRng2, dCB, dLen, dListM, dTuple, dII2, dAbs, dInt, dBM0, dBM, dAppend, dPop, dPopAt, dAndV, dNotV, dNeg, dIn, dCat, dNoPart, dPart, dSl, dNewT, dIsi, dLc, dFor, dDc, dFrzA, jKeys, dDictZ, dSortTI, jZipM, if_true, if_false, ite_true, ite_false, Bool.false_eq_true, reduceIte, Bool.not_true, Bool.not_false, List.getElem?_cons_zero, List.getElem?_cons_succ, List.set_cons_zero, List.set_cons_succ, List.map_cons, List.map_nil, List.replicate, List.cons_append, List.nil_append, List.length_cons, List.length_nil, dstart]
    refine ⟨by rw [List.length_map, has]; exact len_ok (by omega), dLcI_idx (fun k => .lst ((srt (nbr ps (k : Int))).map .int)) (fun k d hd Q2 q2 => ?_) ?_⟩
    · rw [List.getElem?_map] at hd
      obtain ⟨a, ha, rfl⟩ := Option.map_eq_some_iff.mp hd
      obtain ⟨r, hr1, hr2⟩ := R2.at' k a ha
      have hk : k < n.toNat := by rw [← has]; exact (List.getElem?_eq_some_iff.mp ha).1
      rw [List.getElem?_map, List.getElem?_range hk] at hr1
      cases hr1
      simp only [jEnumU, dTupleK, dCatK, dBMT, dIdxK, dSlK, dRevK, dVar, dC, dOp, dTest, dII, dIC, dFld, dFldS, dMake, dppNil, dppCons, dMerge, dDisp, dCatL, dRg1, dLstRg, dChain, dEq, dAnd, dOr, dNot, dIfE, dNext, dSeq, dDrop, dRet, dIfS, dNever, hName, hNil, hCons, hTup, hSub, dAsg, dNil, dCons, dTup, dLst, dLstM, dIx, dSet, dCall, dwipe, dYes, jSeq, jRng1, jRng2, dCB, dLen, dListM, dTuple, dII2, dAbs, dInt, dBM0, dBM, dAppend, dPop, dPopAt, dAndV, dNotV, dNeg, dIn, dCat, dNoPart, dPart, dSl, dNewT, dIsi, dLc, dFor, dDc, dFrzA, jKeys, dDictZ, dSortTI, jZipM, if_true, if_false, ite_true, ite_false, Bool.false_eq_true, reduceIte, Bool.not_true, Bool.not_false, List.getElem?_cons_zero, List.getElem?_cons_succ, List.set_cons_zero, List.set_cons_succ, List.map_cons, List.map_nil, List.replicate, List.cons_append, List.nil_append, List.length_cons, List.length_nil, dstart]
      exact dSortI_srt _ (.inr ⟨a, rfl, hr2⟩) q2
    · have e : (List.range (as.map D.ref).length).map (fun (k : Nat) => D.lst ((srt (nbr ps (k : Int))).map .int)) = rowsL n ps := by
        rw [List.length_map, has, rowsL, rowsOf, List.map_map]; rfl
      rw [e]
      refine fin_less (M2 := M) (fun p o hp => ?_) q
      rw [ho2 p fun z => ?_]
      · exact hp
      · rw [hf p z] at hp; cases hp
theorem sc__law_drawing : FnScope ["_law_dice_here", "_law_size", "_law_ties", "_law_minus", "_law_turning", "_law_row", "_law_tie"] ["_law_dice_here", "_law_size", "_law_ties", "_law_minus"] (defScope s__law_drawing) := ⟨rfl, rfl, rfl, by decide +kernel, rfl, by decide +kernel, by decide +kernel⟩
def sp__law_drawing : DSp := fun ds M Q _ => ∃ (p : Addr) (n : Int) (ps : List (Int × Int)) (mi : Bool), ds = [.ref p, .int n, .kt (ps.map prD), .bl mi] ∧ DiL M p ∧ BookOk n ps ∧ ∀ tn sg M2, Drw n ps tn sg → DiL M2 p → Ext M M2 [p] → Q (drwD tn sg) M2
theorem c__law_drawing (F : DFun K mg "_law_drawing" s__law_drawing ["_law_dice_here", "_law_size", "_law_ties", "_law_minus"]) (B : Bn mg) (G : Gs mg) (c__law_draw : DCal P w K mg base CX0 1 "_law_draw" sp__law_draw) (c__law_shuffled : DCal P w K mg base CX0 2 "_law_shuffled" sp__law_shuffled) (c__law_tied : DCal P w K mg base CX0 1 "_law_tied" sp__law_tied) : DCal P w K mg base CX0 3 "_law_drawing" sp__law_drawing := by
  refine dok F sc__law_drawing (fun ds M Q E h => (by obtain ⟨_, h⟩ := h; first | (obtain ⟨e, _⟩ := h; subst e; rfl) | (obtain ⟨_, e, _⟩ := h; subst e; rfl) | (obtain ⟨_, _, e, _⟩ := h; subst e; rfl) | (obtain ⟨_, _, _, e, _⟩ := h; subst e; rfl) | (obtain ⟨_, _, _, _, e, _⟩ := h; subst e; rfl) | (obtain ⟨_, _, _, _, _, e, _⟩ := h; subst e; rfl) | (obtain ⟨_, _, _, _, _, _, e, _⟩ := h; subst e; rfl) | (obtain ⟨_, _, _, _, _, _, _, e, _⟩ := h; subst e; rfl) | (obtain ⟨_, _, _, _, _, _, _, _, e, _⟩ := h; subst e; rfl) | (obtain ⟨_, _, _, _, _, _, _, _, _, e, _⟩ := h; subst e; rfl) | (obtain ⟨_, _, _, _, _, _, _, _, _, _, e, _⟩ := h; subst e; rfl) | (obtain ⟨_, _, _, _, _, _, _, _, _, _, _, e, _⟩ := h; subst e; rfl) | (obtain ⟨_, _, _, _, _, _, _, _, _, _, _, _, e, _⟩ := h; subst e; rfl) | (obtain ⟨_, _, _, _, _, _, _, _, _, _, _, _, _, e, _⟩ := h; subst e; rfl) | (obtain ⟨_, _, _, _, _, _, _, _, _, _, _, _, _, _, e, _⟩ := h; subst e; rfl) | (obtain ⟨_, _, _, _, _, _, _, _, _, _, _, _, _, _, _, e, _⟩ := h; subst e; rfl) | (obtain ⟨_, _, _, _, _, _, _, _, _, _, _, _, _, _, _, _, e, _⟩ := h; subst e; rfl) | (obtain ⟨_, _, _, _, _, _, _, _, _, _, _, _, _, _, _, _, _, e, _⟩ := h; subst e; rfl) | (obtain ⟨_, _, _, _, _, _, _, _, _, _, _, _, _, _, _, _, _, _, e, _⟩ := h; subst e; rfl) | (obtain ⟨_, _, _, _, _, _, _, _, _, _, _, _, _, _, _, _, _, _, _, e, _⟩ := h; subst e; rfl) | (obtain ⟨_, _, _, _, _, _, _, _, _, _, _, _, _, _, _, _, _, _, _, _, e, _⟩ := h; subst e; rfl) | (obtain ⟨_, _, _, _, _, _, _, _, _, _, _, _, _, _, _, _, _, _, _, _, _, e, _⟩ := h; subst e; rfl) | (obtain ⟨_, _, _, _, _, _, _, _, _, _, _, _, _, _, _, _, _, _, _, _, _, _, e, _⟩ := h; subst e; rfl) | (obtain ⟨_, _, _, _, _, _, _, _, _, _, _, _, _, _, _, _, _, _, _, _, _, _, _, e, _⟩ := h; subst e; rfl) | (obtain ⟨_, _, _, _, _, _, _, _, _, _, _, _, _, _, _, _, _, _, _, _, _, _, _, _, e, _⟩ := h; subst e; rfl) | (obtain ⟨_, _, _, _, _, _, _, _, _, _, _, _, _, _, _, _, _, _, _, _, _, _, _, _, _, e, _⟩ := h; subst e; rfl))) (fun f cdv A outer s H E F0 hr => ?_)
  have nd := (sc__law_drawing).nd
  refine ⟨_, _, (db_cons (ds_set 4 nd (de_bty call_tuple_of lc_tuple B.tuple (da_cons (dx_lc (own := [("_law_row", 5)]) rfl nd (di_seq (de_call c__law_tied hr (goes0A (E := DXK.no)) (da_cons (de_var 1) (da_cons (de_var 2) da_nil)))) (blkOk_by (N := ["_law_dice_here", "_law_size", "_law_ties", "_law_minus", "_law_turning", "_law_row", "_law_tie"]) (sc := defScope s__law_drawing) (by decide +kernel)) (fun _ _ _ _ _ => ⟨_, (dg_name 5 nd), (gw_name (by decide))⟩) (fun _ _ _ _ _ => ⟨_, dts_nil⟩) (fun _ _ _ _ _ => ⟨_, (de_call c__law_shuffled hr (goes0A (E := DXK.no)) (da_cons (de_var 0) (da_cons (de_var 5) da_nil)))⟩)) da_nil)))
      (db_one (ds_ret (de_tup (da_cons (de_var 4) (da_cons (de_bty call_tuple_of lc_tuple B.tuple (da_cons (dx_lc (own := [("_law_tie", 6)]) rfl nd (di_seq (de_var 2)) (blkOk_by (N := ["_law_dice_here", "_law_size", "_law_ties", "_law_minus", "_law_turning", "_law_row", "_law_tie"]) (sc := defScope s__law_drawing) (by decide +kernel)) (fun _ _ _ _ _ => ⟨_, (dg_name 6 nd), (gw_name (by decide))⟩) (fun _ _ _ _ _ => ⟨_, dts_nil⟩) (fun _ _ _ _ _ => ⟨_, (de_ifExp (DW.dt (dw_and (dt_val (de_var 3)) (dw_and1 (dt_eq hr (de_call c__law_draw hr (goes0A (E := DXK.no)) (da_cons (de_var 0) (da_cons de_int da_nil))) de_int)))) (de_neg de_int) de_int)⟩)) da_nil)) da_nil)))))), ?_⟩
  rintro ds M Q E ⟨p, n, ps, mi, rfl, hp, ok, q⟩
  have n8 := ok.hi
  have n1 := ok.lo
  have l28 := ok.pr.len28 n8
  simp only [jEnumU, dTupleK, dCatK, dBMT, dIdxK, dSlK, dRevK, dVar, dC, dOp, dTest, dII, dIC, dFld, dFldS, dMake, dppNil, dppCons, dMerge, dDisp, dCatL, dRg1, dLstRg, dChain, dEq, dAnd, dOr, dNot, dIfE, dNext, dSeq, dDrop, dRet, dIfS, dNever, hName, hNil, hCons, hTup, hSub, dAsg, dNil, dCons, dTup, dLst, dLstM, dIx, dSet, dCall, dwipe, dYes, jSeq, jRng1, jRng2, dCB, dLen, dListM, dTuple, dII2, dAbs, dInt, dBM0, dBM, dAppend, dPop, dPopAt, dAndV, dNotV, dNeg, dIn, dCat, dNoPart, dPart, dSl, dNewT, dIsi, dLc, dFor, dDc, dFrzA, jKeys, dDictZ, dSortTI, jZipM, if_true, if_false, ite_true, ite_false, Bool.false_eq_true, reduceIte, Bool.not_true, Bool.not_false, List.getElem?_cons_zero, List.getElem?_cons_succ, List.set_cons_zero, List.set_cons_succ, List.map_cons, List.map_nil, List.replicate, List.cons_append, List.nil_append, List.length_cons, List.length_nil, dstart]
  refine ⟨n, ps, rfl, by omega, by omega, by omega, ok.pr, ?_⟩
  simp only [if_true, if_false, ite_true, ite_false, Bool.false_eq_true, reduceIte, Bool.not_true, Bool.not_false, List.getElem?_cons_zero, List.getElem?_cons_succ, List.set_cons_zero, List.set_cons_succ, List.map_cons, List.map_nil, List.replicate, List.cons_append, List.nil_append, List.length_cons, List.length_nil, dstart]
  have rl : (rowsL n ps).length = n.toNat := by unfold rowsL rowsOf; rw [List.length_map, List.length_map, List.length_range]
  refine ⟨len_ok (by omega), fun i acc M' => ∃ tn : List (List Int), acc = tn.map krD ∧ tn.length = i ∧ (∀ (j : Nat) (r : List Int), tn[j]? = some r → r.Perm (nbr ps (j : Int))) ∧ DiL M' p ∧ Ext M M' [p], ⟨[], rfl, rfl, fun j r h => by simp at h, hp, Ext.refl M [p]⟩, ?_, ?_⟩
  · rintro i d2 acc M' hd ⟨tn, rfl, h2, h3, h4, h5⟩
    have hd := rowsL_at hd
    subst hd
    simp only [jEnumU, dTupleK, dCatK, dBMT, dIdxK, dSlK, dRevK, dVar, dC, dOp, dTest, dII, dIC, dFld, dFldS, dMake, dppNil, dppCons, dMerge, dDisp, dCatL, dRg1, dLstRg, dChain, dEq, dAnd, dOr, dNot, dIfE, dNext, dSeq, dDrop, dRet, dIfS, dNever, hName, hNil, hCons, hTup, hSub, dAsg, dNil, dCons, dTup, dLst, dLstM, dIx, dSet, dCall, dwipe, dYes, jSeq, jRng1, jRng2, dCB, dLen, dListM, dTuple, dII2, dAbs, dInt, dBM0, dBM, dAppend, dPop, dPopAt, dAndV, dNotV, dNeg, dIn, dCat, dNoPart, dPart, dSl, dNewT, dIsi, dLc, dFor, dDc, dFrzA, jKeys, dDictZ, dSortTI, jZipM, if_true, if_false, ite_true, ite_false, Bool.false_eq_true, reduceIte, Bool.not_true, Bool.not_false, List.getElem?_cons_zero, List.getElem?_cons_succ, List.set_cons_zero, List.set_cons_succ, List.map_cons, List.map_nil, List.replicate, List.cons_append, List.nil_append, List.length_cons, List.length_nil, dstart]
    have := nbr_len ps (i : Int)
    refine ⟨p, _, (srt (nbr ps (i : Int))).map .int, rfl, rfl, h4, by rw [List.length_map, srt_length]; omega, fun ms M2 d2 e2 pm => ?_⟩
    obtain ⟨k, rfl, pk⟩ := perm_mapD pm
    refine ⟨tn ++ [k], by rw [List.map_append]; rfl, by rw [List.length_append, h2]; rfl, fun j r hj => ?_, d2, h5.trans e2⟩
    by_cases e : j < i
    · rw [List.getElem?_append_left (by omega)] at hj; exact h3 j r hj
    · rw [List.getElem?_append_right (by omega)] at hj
      have : j = i := by
        have := (List.getElem?_eq_some_iff.mp hj).1
        simp at this
        omega
      subst this
      rw [h2, Nat.sub_self] at hj
      cases hj
      exact pk.trans (srt_perm _)
  · rintro acc M1 ⟨tn, rfl, h2, h3, h4, h5⟩
    rw [rl] at h2
    simp only [if_true, if_false, ite_true, ite_false, Bool.false_eq_true, reduceIte, Bool.not_true, Bool.not_false, List.getElem?_cons_zero, List.getElem?_cons_succ, List.set_cons_zero, List.set_cons_succ, List.map_cons, List.map_nil, List.replicate, List.cons_append, List.nil_append, List.length_cons, List.length_nil, dstart]
    refine ⟨by rw [List.length_map]; exact len_ok (by omega), fun i acc M' => ∃ sg : List Int, acc = sg.map .int ∧ sg.length = i ∧ (∀ x ∈ sg, x = 1 ∨ x = -1) ∧ DiL M' p ∧ Ext M M' [p], ⟨[], rfl, rfl, fun x h => by simp at h, h4, h5⟩, ?_, ?_⟩
    · rintro i d2 acc M' hd ⟨sg, rfl, g2, g3, g4, g5⟩
      simp only [jEnumU, dTupleK, dCatK, dBMT, dIdxK, dSlK, dRevK, dVar, dC, dOp, dTest, dII, dIC, dFld, dFldS, dMake, dppNil, dppCons, dMerge, dDisp, dCatL, dRg1, dLstRg, dChain, dEq, dAnd, dOr, dNot, dIfE, dNext, dSeq, dDrop, dRet, dIfS, dNever, hName, hNil, hCons, hTup, hSub, dAsg, dNil, dCons, dTup, dLst, dLstM, dIx, dSet, dCall, dwipe, dYes, jSeq, jRng1, jRng2, dCB, dLen, dListM, dTuple, dII2, dAbs, dInt, dBM0, dBM, dAppend, dPop, dPopAt, dAndV, dNotV, dNeg, dIn, dCat, dNoPart, dPart, dSl, dNewT, dIsi, dLc, dFor, dDc, dFrzA, jKeys, dDictZ, dSortTI, jZipM, if_true, if_false, ite_true, ite_false, Bool.false_eq_true, reduceIte, Bool.not_true, Bool.not_false, List.getElem?_cons_zero, List.getElem?_cons_succ, List.set_cons_zero, List.set_cons_succ, List.map_cons, List.map_nil, List.replicate, List.cons_append, List.nil_append, List.length_cons, List.length_nil, dstart]
      have st : ∀ (x : Int) (M2 : Mp), (x = 1 ∨ x = -1) → DiL M2 p → Ext M M2 [p] → ∃ sg' : List Int, sg.map D.int ++ [.int x] = sg'.map .int ∧ sg'.length = i + 1 ∧ (∀ x ∈ sg', x = 1 ∨ x = -1) ∧ DiL M2 p ∧ Ext M M2 [p] := fun x M2 hx hd he =>
        ⟨sg ++ [x], by rw [List.map_append]; rfl, by rw [List.length_append, g2]; rfl, fun y hy => by
          rcases List.mem_append.mp hy with z | z
          · exact g3 y z
          · rw [List.mem_singleton.mp z]; exact hx, hd, he⟩
      cases mi with
      | false =>
        rw [if_neg Bool.false_ne_true]
        exact st 1 M' (.inl rfl) g4 g5
      | true =>
        rw [if_pos rfl]
        refine ⟨p, 3, rfl, g4, by decide, by decide, fun r M2 r0 r1 d2 a2 => ⟨rfl, rfl, ?_⟩⟩
        split
        · exact st (-1) M2 (.inr rfl) d2 (g5.trans a2.ext)
        · exact st 1 M2 (.inl rfl) d2 (g5.trans a2.ext)
    · rintro acc M2 ⟨sg, rfl, g2, g3, g4, g5⟩
      rw [List.length_map] at g2
      simp only [if_true, if_false, ite_true, ite_false, Bool.false_eq_true, reduceIte, Bool.not_true, Bool.not_false, List.getElem?_cons_zero, List.getElem?_cons_succ, List.set_cons_zero, List.set_cons_succ, List.map_cons, List.map_nil, List.replicate, List.cons_append, List.nil_append, List.length_cons, List.length_nil, dstart]
      exact ⟨by decide, fin_self (q tn sg M2 ⟨by omega, h3, g2, g3⟩ g4 g5)⟩
theorem sc__law_pairs_of_corners : FnScope ["_law_size", "_law_ties", "_law_drawing_here", "_law_turning", "_law_signs", "_law_found", "_law_number", "_law_one", "_law_two", "_law_i", "_law_j", "_law_ahead", "_law_other"] ["_law_size", "_law_ties", "_law_drawing_here"] (defScope s__law_pairs_of_corners) := ⟨rfl, rfl, rfl, by decide +kernel, rfl, by decide +kernel, by decide +kernel⟩
def sp__law_pairs_of_corners : DSp := fun ds M Q _ => ∃ n ps tn sg, ds = [.int n, .kt (ps.map prD), drwD tn sg] ∧ BookOk n ps ∧ Drw n ps tn sg ∧ Q (.lst ((prsC ps tn sg).map ccD)) M
theorem c__law_pairs_of_corners (F : DFun K mg "_law_pairs_of_corners" s__law_pairs_of_corners ["_law_size", "_law_ties", "_law_drawing_here"]) (B : Bn mg) (G : Gs mg)  : DCal P w K mg base CX0 1 "_law_pairs_of_corners" sp__law_pairs_of_corners := by
  refine dok F sc__law_pairs_of_corners (fun ds M Q E h => (by obtain ⟨_, h⟩ := h; first | (obtain ⟨e, _⟩ := h; subst e; rfl) | (obtain ⟨_, e, _⟩ := h; subst e; rfl) | (obtain ⟨_, _, e, _⟩ := h; subst e; rfl) | (obtain ⟨_, _, _, e, _⟩ := h; subst e; rfl) | (obtain ⟨_, _, _, _, e, _⟩ := h; subst e; rfl) | (obtain ⟨_, _, _, _, _, e, _⟩ := h; subst e; rfl) | (obtain ⟨_, _, _, _, _, _, e, _⟩ := h; subst e; rfl) | (obtain ⟨_, _, _, _, _, _, _, e, _⟩ := h; subst e; rfl) | (obtain ⟨_, _, _, _, _, _, _, _, e, _⟩ := h; subst e; rfl) | (obtain ⟨_, _, _, _, _, _, _, _, _, e, _⟩ := h; subst e; rfl) | (obtain ⟨_, _, _, _, _, _, _, _, _, _, e, _⟩ := h; subst e; rfl) | (obtain ⟨_, _, _, _, _, _, _, _, _, _, _, e, _⟩ := h; subst e; rfl) | (obtain ⟨_, _, _, _, _, _, _, _, _, _, _, _, e, _⟩ := h; subst e; rfl) | (obtain ⟨_, _, _, _, _, _, _, _, _, _, _, _, _, e, _⟩ := h; subst e; rfl) | (obtain ⟨_, _, _, _, _, _, _, _, _, _, _, _, _, _, e, _⟩ := h; subst e; rfl) | (obtain ⟨_, _, _, _, _, _, _, _, _, _, _, _, _, _, _, e, _⟩ := h; subst e; rfl) | (obtain ⟨_, _, _, _, _, _, _, _, _, _, _, _, _, _, _, _, e, _⟩ := h; subst e; rfl) | (obtain ⟨_, _, _, _, _, _, _, _, _, _, _, _, _, _, _, _, _, e, _⟩ := h; subst e; rfl) | (obtain ⟨_, _, _, _, _, _, _, _, _, _, _, _, _, _, _, _, _, _, e, _⟩ := h; subst e; rfl) | (obtain ⟨_, _, _, _, _, _, _, _, _, _, _, _, _, _, _, _, _, _, _, e, _⟩ := h; subst e; rfl) | (obtain ⟨_, _, _, _, _, _, _, _, _, _, _, _, _, _, _, _, _, _, _, _, e, _⟩ := h; subst e; rfl) | (obtain ⟨_, _, _, _, _, _, _, _, _, _, _, _, _, _, _, _, _, _, _, _, _, e, _⟩ := h; subst e; rfl) | (obtain ⟨_, _, _, _, _, _, _, _, _, _, _, _, _, _, _, _, _, _, _, _, _, _, e, _⟩ := h; subst e; rfl) | (obtain ⟨_, _, _, _, _, _, _, _, _, _, _, _, _, _, _, _, _, _, _, _, _, _, _, e, _⟩ := h; subst e; rfl) | (obtain ⟨_, _, _, _, _, _, _, _, _, _, _, _, _, _, _, _, _, _, _, _, _, _, _, _, e, _⟩ := h; subst e; rfl) | (obtain ⟨_, _, _, _, _, _, _, _, _, _, _, _, _, _, _, _, _, _, _, _, _, _, _, _, _, e, _⟩ := h; subst e; rfl))) (fun f cdv A outer s H E F0 hr => ?_)
  have nd := (sc__law_pairs_of_corners).nd
  refine ⟨_, _, (db_cons (ds_asg (de_var 2) (dg_tup (n := 2) rfl (dgs_cons (dg_name 3 nd) (dgs_cons (dg_name 4 nd) dgs_nil))))
      (db_cons (ds_set 5 nd (de_lst da_nil))
      (db_cons (ds_for PassesOwn.never rfl (di_enumU B.enumerate (da_cons (de_var 1) da_nil)) (dg_tup (n := 2) rfl (dgs_cons (dg_name 6 nd) (dgs_cons (dg_tup (n := 2) rfl (dgs_cons (dg_name 7 nd) (dgs_cons (dg_name 8 nd) dgs_nil))) dgs_nil))) (db_cons (ds_set 9 nd (de_idxK hr (de_ix hr (de_var 3) (de_var 7)) (da_cons (de_var 8) da_nil)))
      (db_cons (ds_set 10 nd (de_idxK hr (de_ix hr (de_var 3) (de_var 8)) (da_cons (de_var 7) da_nil)))
      (db_cons (ds_set 11 nd (de_tup (da_cons (de_var 7) (da_cons (de_mod (de_bty call_int1 lc_int B.int (da_cons (de_sub (de_var 9) de_int) da_nil)) (de_len B.len (da_cons (de_ix hr (de_var 3) (de_var 7)) da_nil))) da_nil))))
      (db_cons (ds_set 12 nd (de_tup (da_cons (de_var 8) (da_cons (de_mod (de_bty call_int1 lc_int B.int (da_cons (de_sub (de_var 10) de_int) da_nil)) (de_len B.len (da_cons (de_ix hr (de_var 3) (de_var 8)) da_nil))) da_nil))))
      (db_one (ds_if (dt_eq hr (de_ix hr (de_var 4) (de_var 6)) de_int) (db_one (ds_set 5 nd (de_catL (de_var 5) (de_lst (da_cons (de_tup (da_cons (de_tup (da_cons (de_var 7) (da_cons (de_var 9) da_nil))) (da_cons (de_var 12) da_nil))) (da_cons (de_tup (da_cons (de_var 11) (da_cons (de_tup (da_cons (de_var 8) (da_cons (de_var 10) da_nil))) da_nil))) da_nil)))))) (db_one (ds_set 5 nd (de_catL (de_var 5) (de_lst (da_cons (de_tup (da_cons (de_tup (da_cons (de_var 7) (da_cons (de_var 9) da_nil))) (da_cons (de_tup (da_cons (de_var 8) (da_cons (de_var 10) da_nil))) da_nil))) (da_cons (de_tup (da_cons (de_var 11) (da_cons (de_var 12) da_nil))) da_nil)))))))))))))
      (db_one (ds_ret (de_var 5)))))), ?_⟩
  rintro ds M Q E ⟨n, ps, tn, sg, rfl, ok, R, q⟩
  have n8 := ok.hi
  have l28 := ok.pr.len28 ok.hi
  have tl := R.tl
  simp only [jEnumU, dTupleK, dCatK, dBMT, dIdxK, dSlK, dRevK, dVar, dC, dOp, dTest, dII, dIC, dFld, dFldS, dMake, dppNil, dppCons, dMerge, dDisp, dCatL, dRg1, dLstRg, dChain, dEq, dAnd, dOr, dNot, dIfE, dNext, dSeq, dDrop, dRet, dIfS, dNever, hName, hNil, hCons, hTup, hSub, dAsg, dNil, dCons, dTup, dLst, dLstM, dIx, dSet, dCall, dwipe, dYes, jSeq, jRng1, jRng2, dCB, dLen, dListM, dTuple, dII2, dAbs, dInt, dBM0, dBM, dAppend, dPop, dPopAt, dAndV, dNotV, dNeg, dIn, dCat, dNoPart, dPart, dSl, dNewT, dIsi, dLc, dFor, dDc, dFrzA, jKeys, dDictZ, dSortTI, jZipM, if_true, if_false, ite_true, ite_false, Bool.false_eq_true, reduceIte, Bool.not_true, Bool.not_false, List.getElem?_cons_zero, List.getElem?_cons_succ, List.set_cons_zero, List.set_cons_succ, List.map_cons, List.map_nil, List.replicate, List.cons_append, List.nil_append, List.length_cons, List.length_nil, dstart, drwD]
  refine ⟨trivial, by decide, _, _, rfl, rfl, ?_⟩
  refine dForI_of (fun i γ M' => ∃ o6 o7 o8 o9 o10 o11 o12 : Option D, γ = [some (.int n), some (.kt (ps.map prD)), some (.tup [.tup (tn.map krD), .tup (sg.map .int)]), some (.tup (tn.map krD)), some (.tup (sg.map .int)), some (.lst (((ps.take i).flatMap (prC ps tn sg)).map ccD)), o6, o7, o8, o9, o10, o11, o12] ∧ M' = M) ⟨_, _, _, _, _, _, _, rfl, rfl⟩ ?_ ?_
  · rintro i d γ M' hd ⟨o6, o7, o8, o9, o10, o11, o12, rfl, hM⟩
    subst hM
    obtain ⟨x, hx, rfl⟩ := enumD_get hd
    obtain ⟨q', hq, rfl⟩ := get_pr hx
    obtain ⟨a, b⟩ := q'
    have qm := List.mem_of_getElem? hq
    have qo := ok.pr.ok _ qm
    unfold prOk at qo
    simp only at qo
    have hab : b ∈ nbr ps a := nbr_mem.mpr (.inl qm)
    have hba : a ∈ nbr ps b := nbr_mem.mpr (.inr qm)
    have ra := nbr_rg ok.pr hab
    obtain ⟨r1, hr1, pr1⟩ := R.row (b := a) ra.2.1.1 ra.2.1.2
    obtain ⟨r2, hr2, pr2⟩ := R.row (b := b) ra.1.1 ra.1.2
    have er1 : tn.getD a.toNat [] = r1 := by rw [List.getD_eq_getElem?_getD, hr1]; rfl
    have er2 : tn.getD b.toNat [] = r2 := by rw [List.getD_eq_getElem?_getD, hr2]; rfl
    obtain ⟨j1, jl1, jp1, jn1, je1⟩ := idx_at (r := r1) (x := b) (pr1.mem_iff.mpr hab)
    obtain ⟨j2, jl2, jp2, jn2, je2⟩ := idx_at (r := r2) (x := a) (pr2.mem_iff.mpr hba)
    have pe : (if b < a then b else a, if a < b then b else a) = (a, b) := by rw [if_neg (by omega), if_pos (by omega)]
    obtain ⟨k, kl, kp, kn, ke⟩ := sgn_at (sg := sg) (a := a) (b := b) R.sl (by rw [pe]; exact qm)
    rw [pe] at kp kn
    have psn : ps.Nodup := ok.pr.lt.imp fun {x y} h e => by subst e; unfold prLt at h; omega
    have ki : k = i := (List.getElem?_inj kl psn).mp (kp.trans hq.symm)
    subst ki
    have sv := R.sv _ (List.mem_of_getElem? ke)
    have bn : ∀ (r : List Int) (x : Int) (j : Nat), (∀ (m : Nat) (y : Int), m < j → r[m]? = some y → y ≠ x) → ∀ (m : Nat) (z' : D), m < j → (r.map D.int)[m]? = some z' → z'.eq (.int x) = false := fun r x j h m z' hm hz => by
      obtain ⟨w, hw, rfl⟩ := get_int hz
      have := h m w hm hw
      simpa using this
    have TF : ∀ (l : List D), (D.kt l).isKt = true := fun _ => rfl
    have tl2 : (((ps.take k).flatMap (prC ps tn sg)).map ccD).length ≤ 56 := by
      rw [List.length_map, List.length_flatMap]
      have : ((ps.take k).map fun a => (prC ps tn sg a).length) = List.replicate (ps.take k).length 2 := by
        refine List.eq_replicate_iff.mpr ⟨by rw [List.length_map], fun x hx => ?_⟩
        obtain ⟨_, _, rfl⟩ := List.mem_map.mp hx; rfl
      rw [this, List.sum_replicate_nat, List.length_take]
      omega
    have en : (((ps.take k).flatMap (prC ps tn sg)).map ccD) ++ (prC ps tn sg (a, b)).map ccD = (((ps.take (k + 1)).flatMap (prC ps tn sg)).map ccD) := by
      rw [take_succ_of hq, List.flatMap_append, List.map_append, List.flatMap_singleton]
    simp only [jEnumU, dTupleK, dCatK, dBMT, dIdxK, dSlK, dRevK, dVar, dC, dOp, dTest, dII, dIC, dFld, dFldS, dMake, dppNil, dppCons, dMerge, dDisp, dCatL, dRg1, dLstRg, dChain, dEq, dAnd, dOr, dNot, dIfE, dNext, dSeq, dDrop, dRet, dIfS, dNever, hName, hNil, hCons, hTup, hSub, dAsg, dNil, dCons, dTup, dLst, dLstM, dIx, dSet, dCall, dwipe, dYes, jSeq, jRng1, jRng2, dCB, dLen, dListM, dTuple, dII2, dAbs, dInt, dBM0, dBM, dAppend, dPop, dPopAt, dAndV, dNotV, dNeg, dIn, dCat, dNoPart, dPart, dSl, dNewT, dIsi, dLc, dFor, dDc, dFrzA, jKeys, dDictZ, dSortTI, jZipM, if_true, if_false, ite_true, ite_false, Bool.false_eq_true, reduceIte, Bool.not_true, Bool.not_false, List.getElem?_cons_zero, List.getElem?_cons_succ, List.set_cons_zero, List.set_cons_succ, List.map_cons, List.map_nil, List.replicate, List.cons_append, List.nil_append, List.length_cons, List.length_nil, dstart, prD, krD]
    have g1 : dIxV M' (.tup (tn.map krD)) (.int a) = some (krD r1) := ixT_at (k := a.toNat) (by omega) (by rw [List.getElem?_map, hr1]; rfl)
    have g2 : dIxV M' (.tup (tn.map krD)) (.int b) = some (krD r2) := ixT_at (k := b.toNat) (by omega) (by rw [List.getElem?_map, hr2]; rfl)
    refine ⟨(by first | exact trivial | rfl), (by first | exact trivial | rfl), krD r1, g1, (by first | exact trivial | rfl), ?_⟩
    simp only [krD]
    refine ⟨j1, .int b, ok_kr r1, rfl, by rw [List.getElem?_map, jp1]; rfl, by simp, bn r1 b j1 jn1, krD r2, g2, (by first | exact trivial | rfl), ?_⟩
    simp only [krD]
    refine ⟨j2, .int a, ok_kr r2, rfl, by rw [List.getElem?_map, jp2]; rfl, by simp, bn r2 a j2 jn2, krD r1, g1, r1.length, by simp only [lenV, krD, List.length_map], by omega, by rw [sizeLine_eq]; decide, krD r2, g2, r2.length, by simp only [lenV, krD, List.length_map], by omega, by rw [sizeLine_eq]; decide, .int (sgnOf ps sg a b), ixT_at (k := k) rfl (by rw [List.getElem?_map, ke]; rfl), rfl, rfl, ?_⟩
    rw [D.eq_int]
    rw [← en]
    rcases sv with e | e
    · have pv : (prC ps tn sg (a, b)).map ccD = [.tup [.tup [.int a, .int (j1 : Int)], .tup [.int b, .int (((j2 : Int) - 1) % (r2.length : Int))]], .tup [.tup [.int a, .int (((j1 : Int) - 1) % (r1.length : Int))], .tup [.int b, .int (j2 : Int)]]] := by
        unfold prC tlC hdC plc lenR
        simp only [er1, er2, je1, je2, e]
        rfl
      rw [e, if_pos (by decide), pv]
      refine ⟨by rw [sizeLine_eq]; decide, by rw [sizeLine_eq]; decide, by rw [sizeLine_eq]; decide, by rw [sizeLine_eq]; decide, by rw [sizeLine_eq]; decide, _, _, rfl, rfl, by rw [sizeLine_eq]; simp only [List.length_cons, List.length_nil]; omega, _, _, _, _, _, _, _, rfl, trivial⟩
    · have pv : (prC ps tn sg (a, b)).map ccD = [.tup [.tup [.int a, .int (j1 : Int)], .tup [.int b, .int (j2 : Int)]], .tup [.tup [.int a, .int (((j1 : Int) - 1) % (r1.length : Int))], .tup [.int b, .int (((j2 : Int) - 1) % (r2.length : Int))]]] := by
        unfold prC tlC hdC plc lenR
        simp only [er1, er2, je1, je2, e]
        rfl
      rw [e, if_neg (by decide), pv]
      refine ⟨by rw [sizeLine_eq]; decide, by rw [sizeLine_eq]; decide, by rw [sizeLine_eq]; decide, by rw [sizeLine_eq]; decide, by rw [sizeLine_eq]; decide, _, _, rfl, rfl, by rw [sizeLine_eq]; simp only [List.length_cons, List.length_nil]; omega, _, _, _, _, _, _, _, rfl, trivial⟩
  · rintro γ M' ⟨o6, o7, o8, o9, o10, o11, o12, rfl, hM⟩
    subst hM
    have el : (enumD (ps.map prD)).length = ps.length := by unfold enumD; simp
    rw [el, List.take_length]
    simp only [jEnumU, dTupleK, dCatK, dBMT, dIdxK, dSlK, dRevK, dVar, dC, dOp, dTest, dII, dIC, dFld, dFldS, dMake, dppNil, dppCons, dMerge, dDisp, dCatL, dRg1, dLstRg, dChain, dEq, dAnd, dOr, dNot, dIfE, dNext, dSeq, dDrop, dRet, dIfS, dNever, hName, hNil, hCons, hTup, hSub, dAsg, dNil, dCons, dTup, dLst, dLstM, dIx, dSet, dCall, dwipe, dYes, jSeq, jRng1, jRng2, dCB, dLen, dListM, dTuple, dII2, dAbs, dInt, dBM0, dBM, dAppend, dPop, dPopAt, dAndV, dNotV, dNeg, dIn, dCat, dNoPart, dPart, dSl, dNewT, dIsi, dLc, dFor, dDc, dFrzA, jKeys, dDictZ, dSortTI, jZipM, if_true, if_false, ite_true, ite_false, Bool.false_eq_true, reduceIte, Bool.not_true, Bool.not_false, List.getElem?_cons_zero, List.getElem?_cons_succ, List.set_cons_zero, List.set_cons_succ, List.map_cons, List.map_nil, List.replicate, List.cons_append, List.nil_append, List.length_cons, List.length_nil, dstart]
    exact fin_self q
theorem sc__law_rims : FnScope ["_law_size", "_law_ties", "_law_drawing_here", "_law_lots", "_law_content", "_law_at", "_law_one", "_law_two", "_law_first", "_law_second", "_law_corner"] ["_law_size", "_law_ties", "_law_drawing_here"] (defScope s__law_rims) := ⟨rfl, rfl, rfl, by decide +kernel, rfl, by decide +kernel, by decide +kernel⟩
def sp__law_rims : DSp := fun ds M Q _ => ∃ n ps tn sg, ds = [.int n, .kt (ps.map prD), drwD tn sg] ∧ BookOk n ps ∧ Drw n ps tn sg ∧ ∀ (r : Int) M2, Ext M M2 [] → (ps = [] → r = 1) → (∀ rows, Rnds n ps tn sg rows → ps ≠ [] → r = ((rows.length / 2 : Nat) : Int)) → Q (.int r) M2
theorem c__law_rims (F : DFun K mg "_law_rims" s__law_rims ["_law_size", "_law_ties", "_law_drawing_here"]) (B : Bn mg) (G : Gs mg) (c__law_pairs_of_corners : DCal P w K mg base CX0 1 "_law_pairs_of_corners" sp__law_pairs_of_corners) : DCal P w K mg base CX0 2 "_law_rims" sp__law_rims := by
  refine dok F sc__law_rims (fun ds M Q E h => (by obtain ⟨_, h⟩ := h; first | (obtain ⟨e, _⟩ := h; subst e; rfl) | (obtain ⟨_, e, _⟩ := h; subst e; rfl) | (obtain ⟨_, _, e, _⟩ := h; subst e; rfl) | (obtain ⟨_, _, _, e, _⟩ := h; subst e; rfl) | (obtain ⟨_, _, _, _, e, _⟩ := h; subst e; rfl) | (obtain ⟨_, _, _, _, _, e, _⟩ := h; subst e; rfl) | (obtain ⟨_, _, _, _, _, _, e, _⟩ := h; subst e; rfl) | (obtain ⟨_, _, _, _, _, _, _, e, _⟩ := h; subst e; rfl) | (obtain ⟨_, _, _, _, _, _, _, _, e, _⟩ := h; subst e; rfl) | (obtain ⟨_, _, _, _, _, _, _, _, _, e, _⟩ := h; subst e; rfl) | (obtain ⟨_, _, _, _, _, _, _, _, _, _, e, _⟩ := h; subst e; rfl) | (obtain ⟨_, _, _, _, _, _, _, _, _, _, _, e, _⟩ := h; subst e; rfl) | (obtain ⟨_, _, _, _, _, _, _, _, _, _, _, _, e, _⟩ := h; subst e; rfl) | (obtain ⟨_, _, _, _, _, _, _, _, _, _, _, _, _, e, _⟩ := h; subst e; rfl) | (obtain ⟨_, _, _, _, _, _, _, _, _, _, _, _, _, _, e, _⟩ := h; subst e; rfl) | (obtain ⟨_, _, _, _, _, _, _, _, _, _, _, _, _, _, _, e, _⟩ := h; subst e; rfl) | (obtain ⟨_, _, _, _, _, _, _, _, _, _, _, _, _, _, _, _, e, _⟩ := h; subst e; rfl) | (obtain ⟨_, _, _, _, _, _, _, _, _, _, _, _, _, _, _, _, _, e, _⟩ := h; subst e; rfl) | (obtain ⟨_, _, _, _, _, _, _, _, _, _, _, _, _, _, _, _, _, _, e, _⟩ := h; subst e; rfl) | (obtain ⟨_, _, _, _, _, _, _, _, _, _, _, _, _, _, _, _, _, _, _, e, _⟩ := h; subst e; rfl) | (obtain ⟨_, _, _, _, _, _, _, _, _, _, _, _, _, _, _, _, _, _, _, _, e, _⟩ := h; subst e; rfl) | (obtain ⟨_, _, _, _, _, _, _, _, _, _, _, _, _, _, _, _, _, _, _, _, _, e, _⟩ := h; subst e; rfl) | (obtain ⟨_, _, _, _, _, _, _, _, _, _, _, _, _, _, _, _, _, _, _, _, _, _, e, _⟩ := h; subst e; rfl) | (obtain ⟨_, _, _, _, _, _, _, _, _, _, _, _, _, _, _, _, _, _, _, _, _, _, _, e, _⟩ := h; subst e; rfl) | (obtain ⟨_, _, _, _, _, _, _, _, _, _, _, _, _, _, _, _, _, _, _, _, _, _, _, _, e, _⟩ := h; subst e; rfl) | (obtain ⟨_, _, _, _, _, _, _, _, _, _, _, _, _, _, _, _, _, _, _, _, _, _, _, _, _, e, _⟩ := h; subst e; rfl))) (fun f cdv A outer s H E F0 hr => ?_)
  have nd := (sc__law_rims).nd
  refine ⟨_, _, (db_cons (ds_if (dt_eq hr (de_len B.len (da_cons (de_var 1) da_nil)) de_int) (db_one (ds_ret de_int)) db_nil)
      (db_cons (ds_set 3 nd de_newT)
      (db_cons (ds_for PassesOwn.never rfl (di_range1 B.range (da_cons (de_var 0) da_nil)) (dg_name 4 nd) (db_one (ds_for PassesOwn.never rfl (di_range1 B.range (da_cons (de_len B.len (da_cons (de_ix hr (de_ix hr (de_var 2) de_int) (de_var 4)) da_nil)) da_nil)) (dg_name 5 nd) (db_one (ds_put hr (de_var 3) (de_tup (da_cons (de_var 4) (da_cons (de_var 5) da_nil))) (de_tup (da_cons (de_var 4) (da_cons (de_var 5) da_nil))))))))
      (db_cons (ds_for PassesOwn.never rfl (di_seq (de_call c__law_pairs_of_corners hr (goes0A (E := DXK.no)) (da_cons (de_var 0) (da_cons (de_var 1) (da_cons (de_var 2) da_nil))))) (dg_tup (n := 2) rfl (dgs_cons (dg_name 6 nd) (dgs_cons (dg_name 7 nd) dgs_nil))) (db_cons (ds_set 8 nd (de_var 6))
      (db_cons (ds_while PassesOwn.never (dt_ne hr (de_ix hr (de_var 3) (de_var 8)) (de_var 8)) (db_one (ds_set 8 nd (de_ix hr (de_var 3) (de_var 8)))))
      (db_cons (ds_set 9 nd (de_var 7))
      (db_cons (ds_while PassesOwn.never (dt_ne hr (de_ix hr (de_var 3) (de_var 9)) (de_var 9)) (db_one (ds_set 9 nd (de_ix hr (de_var 3) (de_var 9)))))
      (db_one (ds_put hr (de_var 3) (de_var 9) (de_var 8))))))))
      (db_frzA 3 (db_one (ds_ret (de_len B.len (da_cons (dx_lcL (own := [("_law_corner", 10)]) rfl nd (dil_keys (de_var 3)) (blkOk_by (N := ["_law_size", "_law_ties", "_law_drawing_here", "_law_lots", "_law_content", "_law_at", "_law_one", "_law_two", "_law_first", "_law_second", "_law_corner"]) (sc := defScope s__law_rims) (by decide +kernel)) (fun _ _ _ _ _ => ⟨_, (dg_name 10 nd), (gw_name (by decide))⟩) (fun _ _ _ _ _ => ⟨_, (dts_one (dt_eq hr (de_ix hr (de_var 3) (de_var 10)) (de_var 10)))⟩) (fun _ _ _ _ _ => ⟨_, (de_var 10)⟩)) da_nil))))))))), ?_⟩
  rintro ds M Q E ⟨n, ps, tn, sg, rfl, ok, R, q⟩
  have n8 := ok.hi
  have l28 := ok.pr.len28 ok.hi
  have n1 := ok.lo
  have tl := R.tl
  have cl := cor_len ok R n.toNat
  have pl := prs_len ps tn sg
  have pk := prs_cor ok R
  simp only [jEnumU, dTupleK, dCatK, dBMT, dIdxK, dSlK, dRevK, dVar, dC, dOp, dTest, dII, dIC, dFld, dFldS, dMake, dppNil, dppCons, dMerge, dDisp, dCatL, dRg1, dLstRg, dChain, dEq, dAnd, dOr, dNot, dIfE, dNext, dSeq, dDrop, dRet, dIfS, dNever, hName, hNil, hCons, hTup, hSub, dAsg, dNil, dCons, dTup, dLst, dLstM, dIx, dSet, dCall, dwipe, dYes, jSeq, jRng1, jRng2, dCB, dLen, dListM, dTuple, dII2, dAbs, dInt, dBM0, dBM, dAppend, dPop, dPopAt, dAndV, dNotV, dNeg, dIn, dCat, dNoPart, dPart, dSl, dNewT, dIsi, dLc, dFor, dDc, dFrzA, jKeys, dDictZ, dSortTI, jZipM, if_true, if_false, ite_true, ite_false, Bool.false_eq_true, reduceIte, Bool.not_true, Bool.not_false, List.getElem?_cons_zero, List.getElem?_cons_succ, List.set_cons_zero, List.set_cons_succ, List.map_cons, List.map_nil, List.replicate, List.cons_append, List.nil_append, List.length_cons, List.length_nil, dstart]
  refine ⟨ps.length, by simp only [lenV, List.length_map], rfl, rfl, ?_⟩
  rw [D.eq_int]
  by_cases z : ps = []
  · rw [if_pos (by simp [z])]
    exact fin_self (q 1 M (Ext.refl _ _) (fun _ => rfl) fun rows _ h => absurd z h)
  rw [if_neg (by simpa using z)]
  refine fun p hp => ⟨⟨by omega, by omega⟩, ?_⟩
  refine dForI_of (fun i γ M' => ∃ o4 o5 : Option D, γ = [some (.int n), some (.kt (ps.map prD)), some (drwD tn sg), some (.ref p), o4, o5, none, none, none, none, none] ∧ M' = mset M p (.dT ((corF tn i).map (kvF fun x => x)))) ⟨_, _, rfl, rfl⟩ ?_ ?_
  · rintro i e γ M' he ⟨o4, o5, rfl, hM⟩
    obtain ⟨hi, rfl⟩ := rgD_get he
    subst hM
    obtain ⟨r, hr, pr⟩ := R.row (b := (i : Int)) (by omega) (by omega)
    rw [Int.toNat_natCast] at hr
    have er : tn.getD i [] = r := by rw [List.getD_eq_getElem?_getD, hr]; rfl
    have rl := pr.length_eq
    have nl := nbr_len ps (i : Int)
    have cl2 := cor_len ok R i
    simp only [jEnumU, dTupleK, dCatK, dBMT, dIdxK, dSlK, dRevK, dVar, dC, dOp, dTest, dII, dIC, dFld, dFldS, dMake, dppNil, dppCons, dMerge, dDisp, dCatL, dRg1, dLstRg, dChain, dEq, dAnd, dOr, dNot, dIfE, dNext, dSeq, dDrop, dRet, dIfS, dNever, hName, hNil, hCons, hTup, hSub, dAsg, dNil, dCons, dTup, dLst, dLstM, dIx, dSet, dCall, dwipe, dYes, jSeq, jRng1, jRng2, dCB, dLen, dListM, dTuple, dII2, dAbs, dInt, dBM0, dBM, dAppend, dPop, dPopAt, dAndV, dNotV, dNeg, dIn, dCat, dNoPart, dPart, dSl, dNewT, dIsi, dLc, dFor, dDc, dFrzA, jKeys, dDictZ, dSortTI, jZipM, if_true, if_false, ite_true, ite_false, Bool.false_eq_true, reduceIte, Bool.not_true, Bool.not_false, List.getElem?_cons_zero, List.getElem?_cons_succ, List.set_cons_zero, List.set_cons_succ, List.map_cons, List.map_nil, List.replicate, List.cons_append, List.nil_append, List.length_cons, List.length_nil, dstart, drwD]
    refine ⟨.tup (tn.map krD), ixT_at (k := 0) rfl rfl, krD r, ixT_at (k := i) (by omega) (by rw [List.getElem?_map, hr]; rfl), r.length, by simp only [lenV, krD, List.length_map], by omega, ?_⟩
    rw [Int.toNat_natCast]
    refine dForI_of (fun j γ M' => ∃ o5 : Option D, γ = [some (.int n), some (.kt (ps.map prD)), some (drwD tn sg), some (.ref p), some (.int (0 + (i : Int))), o5, none, none, none, none, none] ∧ M' = mset M p (.dT ((corF tn i ++ (List.range j).map fun (k : Nat) => ((i : Int), (k : Int))).map (kvF fun x => x)))) ⟨_, rfl, by simp⟩ ?_ ?_
    · rintro j e γ M' he ⟨o5, rfl, hM⟩
      obtain ⟨hj, rfl⟩ := rgD_get he
      subst hM
      have fresh : ((i : Int), (j : Int)) ∉ corF tn i ++ (List.range j).map fun (k : Nat) => ((i : Int), (k : Int)) := by
        rw [List.mem_append, not_or]
        refine ⟨fun h => ?_, fun h => ?_⟩
        · have := ((cor_mem i).mp h).1.2
          simp only at this
          omega
        · obtain ⟨k, hk, e⟩ := List.mem_map.mp h
          have := List.mem_range.mp hk
          have := congrArg Prod.snd e
          simp only at this
          omega
      have st := storeN_kvF (M := mset M p (.dT ((corF tn i ++ (List.range j).map fun (k : Nat) => ((i : Int), (k : Int))).map (kvF fun x => x)))) (p := p) mset_same (v := ((i : Int), (j : Int))) fresh (by rw [List.length_append, List.length_map, List.length_range]; omega)
      simp only [jEnumU, dTupleK, dCatK, dBMT, dIdxK, dSlK, dRevK, dVar, dC, dOp, dTest, dII, dIC, dFld, dFldS, dMake, dppNil, dppCons, dMerge, dDisp, dCatL, dRg1, dLstRg, dChain, dEq, dAnd, dOr, dNot, dIfE, dNext, dSeq, dDrop, dRet, dIfS, dNever, hName, hNil, hCons, hTup, hSub, dAsg, dNil, dCons, dTup, dLst, dLstM, dIx, dSet, dCall, dwipe, dYes, jSeq, jRng1, jRng2, dCB, dLen, dListM, dTuple, dII2, dAbs, dInt, dBM0, dBM, dAppend, dPop, dPopAt, dAndV, dNotV, dNeg, dIn, dCat, dNoPart, dPart, dSl, dNewT, dIsi, dLc, dFor, dDc, dFrzA, jKeys, dDictZ, dSortTI, jZipM, if_true, if_false, ite_true, ite_false, Bool.false_eq_true, reduceIte, Bool.not_true, Bool.not_false, List.getElem?_cons_zero, List.getElem?_cons_succ, List.set_cons_zero, List.set_cons_succ, List.map_cons, List.map_nil, List.replicate, List.cons_append, List.nil_append, List.length_cons, List.length_nil, dstart]
      rw [Int.zero_add, Int.zero_add]
      refine ⟨by rw [sizeLine_eq]; decide, by rw [sizeLine_eq]; decide, _, st, _, rfl, ?_⟩
      have e2 : corF tn i ++ (List.range (j + 1)).map (fun (k : Nat) => ((i : Int), (k : Int))) = (corF tn i ++ (List.range j).map fun (k : Nat) => ((i : Int), (k : Int))) ++ [((i : Int), (j : Int))] := by
        rw [List.range_succ, List.map_append, List.append_assoc]; rfl
      rw [mset_mset, e2, List.map_append (l₂ := [_])]
      rfl
    · rintro γ M' ⟨o5, rfl, hM⟩
      rw [rgD_len] at hM
      refine ⟨_, _, rfl, ?_⟩
      rw [hM]
      conv => rhs; unfold corF
      rw [er]
  · rintro γ M' ⟨o4, o5, rfl, hM⟩
    subst hM
    rw [rgD_len]
    simp only [jEnumU, dTupleK, dCatK, dBMT, dIdxK, dSlK, dRevK, dVar, dC, dOp, dTest, dII, dIC, dFld, dFldS, dMake, dppNil, dppCons, dMerge, dDisp, dCatL, dRg1, dLstRg, dChain, dEq, dAnd, dOr, dNot, dIfE, dNext, dSeq, dDrop, dRet, dIfS, dNever, hName, hNil, hCons, hTup, hSub, dAsg, dNil, dCons, dTup, dLst, dLstM, dIx, dSet, dCall, dwipe, dYes, jSeq, jRng1, jRng2, dCB, dLen, dListM, dTuple, dII2, dAbs, dInt, dBM0, dBM, dAppend, dPop, dPopAt, dAndV, dNotV, dNeg, dIn, dCat, dNoPart, dPart, dSl, dNewT, dIsi, dLc, dFor, dDc, dFrzA, jKeys, dDictZ, dSortTI, jZipM, if_true, if_false, ite_true, ite_false, Bool.false_eq_true, reduceIte, Bool.not_true, Bool.not_false, List.getElem?_cons_zero, List.getElem?_cons_succ, List.set_cons_zero, List.set_cons_succ, List.map_cons, List.map_nil, List.replicate, List.cons_append, List.nil_append, List.length_cons, List.length_nil, dstart]
    refine ⟨n, ps, tn, sg, rfl, ok, R, ?_⟩
    simp only [if_true, if_false, ite_true, ite_false, Bool.false_eq_true, reduceIte, Bool.not_true, Bool.not_false, List.getElem?_cons_zero, List.getElem?_cons_succ, List.set_cons_zero, List.set_cons_succ, List.map_cons, List.map_nil, List.replicate, List.cons_append, List.nil_append, List.length_cons, List.length_nil, dstart]
    have cl3 : (corF tn n.toNat).length ≤ 1000 := by omega
    generalize hks : corF tn n.toNat = ks at *
    refine dForI_of (fun i γ M' => ∃ (o4 o5 o6 o7 o8 o9 : Option D) (f : Int × Int → Int × Int), γ = [some (.int n), some (.kt (ps.map prD)), some (drwD tn sg), some (.ref p), o4, o5, o6, o7, o8, o9, none] ∧ M' = mset M p (.dT (ks.map (kvF f))) ∧ UfI ks ((prsC ps tn sg).take i) i f) ⟨_, _, _, _, _, _, _, rfl, rfl, UfI.start ks⟩ ?_ ?_
    · rintro i e γ M' he ⟨o4, o5, o6, o7, o8, o9, f, rfl, hM, U⟩
      rw [List.getElem?_map, Option.map_eq_some_iff] at he
      obtain ⟨⟨x, y⟩, hxy, rfl⟩ := he
      obtain ⟨xk, yk⟩ := pk _ (List.mem_of_getElem? hxy)
      simp only at xk yk
      have U2 := U.next xk yk
      rw [← take_succ_of hxy] at U2
      have ep : ∀ u v : Int × Int, (prD u).eq (prD v) = decide (u = v) := fun u v => eq_prC u v
      have okp : ∀ u : Int × Int, (prD u).ok 60 = true := fun u => okL_int [u.1, u.2] 59
      have hMp : M' p = some (.dT (ks.map (kvF f))) := by rw [hM, mset_same]
      have lk := fun (j : Nat) (u : Int × Int) (hu : u ∈ ks) => look_kvF hMp (itF_in U.to j u hu)
      simp only [jEnumU, dTupleK, dCatK, dBMT, dIdxK, dSlK, dRevK, dVar, dC, dOp, dTest, dII, dIC, dFld, dFldS, dMake, dppNil, dppCons, dMerge, dDisp, dCatL, dRg1, dLstRg, dChain, dEq, dAnd, dOr, dNot, dIfE, dNext, dSeq, dDrop, dRet, dIfS, dNever, hName, hNil, hCons, hTup, hSub, dAsg, dNil, dCons, dTup, dLst, dLstM, dIx, dSet, dCall, dwipe, dYes, jSeq, jRng1, jRng2, dCB, dLen, dListM, dTuple, dII2, dAbs, dInt, dBM0, dBM, dAppend, dPop, dPopAt, dAndV, dNotV, dNeg, dIn, dCat, dNoPart, dPart, dSl, dNewT, dIsi, dLc, dFor, dDc, dFrzA, jKeys, dDictZ, dSortTI, jZipM, if_true, if_false, ite_true, ite_false, Bool.false_eq_true, reduceIte, Bool.not_true, Bool.not_false, List.getElem?_cons_zero, List.getElem?_cons_succ, List.set_cons_zero, List.set_cons_succ, List.map_cons, List.map_nil, List.replicate, List.cons_append, List.nil_append, List.length_cons, List.length_nil, dstart, ccD]
      refine ⟨trivial, ?_⟩
      refine ⟨fun m γ M2 => ∃ j, γ = [some (.int n), some (.kt (ps.map prD)), some (drwD tn sg), some (.ref p), o4, o5, some (prD x), some (prD y), some (prD (itF f j x)), o9, none] ∧ M2 = M' ∧ j + m = i, ⟨i, 0, rfl, rfl, by omega⟩, ?_⟩
      rintro m γ M2 ⟨j, rfl, rfl, hj⟩
      simp only [jEnumU, dTupleK, dCatK, dBMT, dIdxK, dSlK, dRevK, dVar, dC, dOp, dTest, dII, dIC, dFld, dFldS, dMake, dppNil, dppCons, dMerge, dDisp, dCatL, dRg1, dLstRg, dChain, dEq, dAnd, dOr, dNot, dIfE, dNext, dSeq, dDrop, dRet, dIfS, dNever, hName, hNil, hCons, hTup, hSub, dAsg, dNil, dCons, dTup, dLst, dLstM, dIx, dSet, dCall, dwipe, dYes, jSeq, jRng1, jRng2, dCB, dLen, dListM, dTuple, dII2, dAbs, dInt, dBM0, dBM, dAppend, dPop, dPopAt, dAndV, dNotV, dNeg, dIn, dCat, dNoPart, dPart, dSl, dNewT, dIsi, dLc, dFor, dDc, dFrzA, jKeys, dDictZ, dSortTI, jZipM, if_true, if_false, ite_true, ite_false, Bool.false_eq_true, reduceIte, Bool.not_true, Bool.not_false, List.getElem?_cons_zero, List.getElem?_cons_succ, List.set_cons_zero, List.set_cons_succ, List.map_cons, List.map_nil, List.replicate, List.cons_append, List.nil_append, List.length_cons, List.length_nil, dstart]
      refine ⟨_, lk j x xk, okp _, okp _, ?_⟩
      rw [ep]
      by_cases h1 : f (itF f j x) = itF f j x
      · rw [decide_eq_true h1, if_neg (by decide)]
        have r1 := U.root (by omega) h1
        refine ⟨fun m γ M3 => ∃ j2, γ = [some (.int n), some (.kt (ps.map prD)), some (drwD tn sg), some (.ref p), o4, o5, some (prD x), some (prD y), some (prD (itF f j x)), some (prD (itF f j2 y)), none] ∧ M3 = M2 ∧ j2 + m = i, ⟨i, 0, rfl, rfl, by omega⟩, ?_⟩
        rintro m2 γ M3 ⟨j2, rfl, rfl, hj2⟩
        simp only [jEnumU, dTupleK, dCatK, dBMT, dIdxK, dSlK, dRevK, dVar, dC, dOp, dTest, dII, dIC, dFld, dFldS, dMake, dppNil, dppCons, dMerge, dDisp, dCatL, dRg1, dLstRg, dChain, dEq, dAnd, dOr, dNot, dIfE, dNext, dSeq, dDrop, dRet, dIfS, dNever, hName, hNil, hCons, hTup, hSub, dAsg, dNil, dCons, dTup, dLst, dLstM, dIx, dSet, dCall, dwipe, dYes, jSeq, jRng1, jRng2, dCB, dLen, dListM, dTuple, dII2, dAbs, dInt, dBM0, dBM, dAppend, dPop, dPopAt, dAndV, dNotV, dNeg, dIn, dCat, dNoPart, dPart, dSl, dNewT, dIsi, dLc, dFor, dDc, dFrzA, jKeys, dDictZ, dSortTI, jZipM, if_true, if_false, ite_true, ite_false, Bool.false_eq_true, reduceIte, Bool.not_true, Bool.not_false, List.getElem?_cons_zero, List.getElem?_cons_succ, List.set_cons_zero, List.set_cons_succ, List.map_cons, List.map_nil, List.replicate, List.cons_append, List.nil_append, List.length_cons, List.length_nil, dstart]
        refine ⟨_, lk j2 y yk, okp _, okp _, ?_⟩
        rw [ep]
        by_cases h2 : f (itF f j2 y) = itF f j2 y
        · rw [decide_eq_true h2, if_neg (by decide)]
          have r2 := U.root (by omega) h2
          have st := storeO_kvF hMp (x := itF f j2 y) (v := itF f j x) (itF_in U.to j2 y yk) (by omega)
          refine ⟨_, st, _, _, _, _, _, _, _, rfl, ?_, U2⟩
          rw [hM, mset_mset, r1, r2]
        · rw [decide_eq_false h2, if_pos (by decide)]
          refine ⟨_, lk j2 y yk, m2 - 1, ?_, j2 + 1, ?_, trivial, ?_⟩
          · have : j2 ≠ i := fun e => h2 (by rw [e]; exact U.rt y yk)
            omega
          · rw [itF_add]; rfl
          · have : j2 ≠ i := fun e => h2 (by rw [e]; exact U.rt y yk)
            omega
      · rw [decide_eq_false h1, if_pos (by decide)]
        refine ⟨_, lk j x xk, m - 1, ?_, j + 1, ?_, trivial, ?_⟩
        · have : j ≠ i := fun e => h1 (by rw [e]; exact U.rt x xk)
          omega
        · rw [itF_add]; rfl
        · have : j ≠ i := fun e => h1 (by rw [e]; exact U.rt x xk)
          omega
    · rintro γ M' ⟨o4, o5, o6, o7, o8, o9, f, rfl, hM, U⟩
      rw [List.length_map, List.take_length] at U
      have ek : ((ks.map (kvF f)).map (·.1)).map (fun k => D.tup (k.map keyD)) = ks.map prD := by rw [List.map_map, List.map_map]; rfl
      simp only [jEnumU, dTupleK, dCatK, dBMT, dIdxK, dSlK, dRevK, dVar, dC, dOp, dTest, dII, dIC, dFld, dFldS, dMake, dppNil, dppCons, dMerge, dDisp, dCatL, dRg1, dLstRg, dChain, dEq, dAnd, dOr, dNot, dIfE, dNext, dSeq, dDrop, dRet, dIfS, dNever, hName, hNil, hCons, hTup, hSub, dAsg, dNil, dCons, dTup, dLst, dLstM, dIx, dSet, dCall, dwipe, dYes, jSeq, jRng1, jRng2, dCB, dLen, dListM, dTuple, dII2, dAbs, dInt, dBM0, dBM, dAppend, dPop, dPopAt, dAndV, dNotV, dNeg, dIn, dCat, dNoPart, dPart, dSl, dNewT, dIsi, dLc, dFor, dDc, dFrzA, jKeys, dDictZ, dSortTI, jZipM, if_true, if_false, ite_true, ite_false, Bool.false_eq_true, reduceIte, Bool.not_true, Bool.not_false, List.getElem?_cons_zero, List.getElem?_cons_succ, List.set_cons_zero, List.set_cons_succ, List.map_cons, List.map_nil, List.replicate, List.cons_append, List.nil_append, List.length_cons, List.length_nil, dstart]
      refine ⟨_, .dt ((ks.map (kvF f)).map (·.1)) ((ks.map (kvF f)).map (·.2)), _, rfl, by simp only [frzV, hM, mset_same]; rfl, ?_⟩
      simp only [if_true, if_false, ite_true, ite_false, Bool.false_eq_true, reduceIte, Bool.not_true, Bool.not_false, List.getElem?_cons_zero, List.getElem?_cons_succ, List.set_cons_zero, List.set_cons_succ, List.map_cons, List.map_nil, List.replicate, List.cons_append, List.nil_append, List.length_cons, List.length_nil, dstart]
      rw [ek]
      refine ⟨by rw [List.length_map]; exact len_ok (by omega), dLcI_filterS (fun M2 => Ext M M2 []) ks prD (fun k => decide (f k = k)) prD (by first | exact ((Ext.refl M []).mset hp).mdel hp | (rw [hM]; exact ((Ext.refl M []).mset hp).mdel hp)) (fun i k M2 hk hM2 Q2 qf qt => ?_) fun M2 hM2 => ?_⟩
      · have km := List.mem_of_getElem? hk
        simp only [jEnumU, dTupleK, dCatK, dBMT, dIdxK, dSlK, dRevK, dVar, dC, dOp, dTest, dII, dIC, dFld, dFldS, dMake, dppNil, dppCons, dMerge, dDisp, dCatL, dRg1, dLstRg, dChain, dEq, dAnd, dOr, dNot, dIfE, dNext, dSeq, dDrop, dRet, dIfS, dNever, hName, hNil, hCons, hTup, hSub, dAsg, dNil, dCons, dTup, dLst, dLstM, dIx, dSet, dCall, dwipe, dYes, jSeq, jRng1, jRng2, dCB, dLen, dListM, dTuple, dII2, dAbs, dInt, dBM0, dBM, dAppend, dPop, dPopAt, dAndV, dNotV, dNeg, dIn, dCat, dNoPart, dPart, dSl, dNewT, dIsi, dLc, dFor, dDc, dFrzA, jKeys, dDictZ, dSortTI, jZipM, if_true, if_false, ite_true, ite_false, Bool.false_eq_true, reduceIte, Bool.not_true, Bool.not_false, List.getElem?_cons_zero, List.getElem?_cons_succ, List.set_cons_zero, List.set_cons_succ, List.map_cons, List.map_nil, List.replicate, List.cons_append, List.nil_append, List.length_cons, List.length_nil, dstart]
        refine ⟨_, dt_kvF km, okL_int [(f k).1, (f k).2] 59, okL_int [k.1, k.2] 59, ?_⟩
        rw [eq_prC]
        by_cases h : f k = k
        · rw [if_pos (decide_eq_true h)]
          exact qt _ hM2 (decide_eq_true h)
        · rw [if_neg (by simpa using h)]
          exact qf _ hM2 (decide_eq_false h)
      · refine ⟨(ks.filter fun k => decide (f k = k)).length, by simp only [lenV, List.length_map], fin_self (q _ _ hM2 (fun e => absurd e z) fun rows hr _ => ?_)⟩
        subst hks
        rw [rims_law ok R hr U]
        congr 1
        omega
theorem sc_is_integer : FnScope ["thing"] ["thing"] (defScope s_is_integer) := ⟨rfl, rfl, rfl, by decide +kernel, rfl, by decide +kernel, by decide +kernel⟩
def sp_is_integer : DSp := fun ds M Q _ => ∃ d, ds = [d] ∧ (tyN M d).isSome = true ∧ Q (.bl d.isInt) M
theorem c_is_integer (F : DFun K mg "is_integer" s_is_integer ["thing"]) (B : Bn mg) (G : Gs mg)  : DCal P w K mg base CX0 1 "is_integer" sp_is_integer := by
  refine dok F sc_is_integer (fun ds M Q E h => (by obtain ⟨_, h⟩ := h; first | (obtain ⟨e, _⟩ := h; subst e; rfl) | (obtain ⟨_, e, _⟩ := h; subst e; rfl) | (obtain ⟨_, _, e, _⟩ := h; subst e; rfl) | (obtain ⟨_, _, _, e, _⟩ := h; subst e; rfl) | (obtain ⟨_, _, _, _, e, _⟩ := h; subst e; rfl) | (obtain ⟨_, _, _, _, _, e, _⟩ := h; subst e; rfl) | (obtain ⟨_, _, _, _, _, _, e, _⟩ := h; subst e; rfl) | (obtain ⟨_, _, _, _, _, _, _, e, _⟩ := h; subst e; rfl) | (obtain ⟨_, _, _, _, _, _, _, _, e, _⟩ := h; subst e; rfl) | (obtain ⟨_, _, _, _, _, _, _, _, _, e, _⟩ := h; subst e; rfl) | (obtain ⟨_, _, _, _, _, _, _, _, _, _, e, _⟩ := h; subst e; rfl) | (obtain ⟨_, _, _, _, _, _, _, _, _, _, _, e, _⟩ := h; subst e; rfl) | (obtain ⟨_, _, _, _, _, _, _, _, _, _, _, _, e, _⟩ := h; subst e; rfl) | (obtain ⟨_, _, _, _, _, _, _, _, _, _, _, _, _, e, _⟩ := h; subst e; rfl) | (obtain ⟨_, _, _, _, _, _, _, _, _, _, _, _, _, _, e, _⟩ := h; subst e; rfl) | (obtain ⟨_, _, _, _, _, _, _, _, _, _, _, _, _, _, _, e, _⟩ := h; subst e; rfl) | (obtain ⟨_, _, _, _, _, _, _, _, _, _, _, _, _, _, _, _, e, _⟩ := h; subst e; rfl) | (obtain ⟨_, _, _, _, _, _, _, _, _, _, _, _, _, _, _, _, _, e, _⟩ := h; subst e; rfl) | (obtain ⟨_, _, _, _, _, _, _, _, _, _, _, _, _, _, _, _, _, _, e, _⟩ := h; subst e; rfl) | (obtain ⟨_, _, _, _, _, _, _, _, _, _, _, _, _, _, _, _, _, _, _, e, _⟩ := h; subst e; rfl) | (obtain ⟨_, _, _, _, _, _, _, _, _, _, _, _, _, _, _, _, _, _, _, _, e, _⟩ := h; subst e; rfl) | (obtain ⟨_, _, _, _, _, _, _, _, _, _, _, _, _, _, _, _, _, _, _, _, _, e, _⟩ := h; subst e; rfl) | (obtain ⟨_, _, _, _, _, _, _, _, _, _, _, _, _, _, _, _, _, _, _, _, _, _, e, _⟩ := h; subst e; rfl) | (obtain ⟨_, _, _, _, _, _, _, _, _, _, _, _, _, _, _, _, _, _, _, _, _, _, _, e, _⟩ := h; subst e; rfl) | (obtain ⟨_, _, _, _, _, _, _, _, _, _, _, _, _, _, _, _, _, _, _, _, _, _, _, _, e, _⟩ := h; subst e; rfl) | (obtain ⟨_, _, _, _, _, _, _, _, _, _, _, _, _, _, _, _, _, _, _, _, _, _, _, _, _, e, _⟩ := h; subst e; rfl))) (fun f cdv A outer s H E F0 hr => ?_)
  have nd := (sc_is_integer).nd
  refine ⟨_, _, (db_one (ds_ret (de_and (de_isi B.isinstance (da_cons (de_var 0) (da_cons (de_ty (n := "int") B.int) da_nil))) (de_one (de_not (de_isi B.isinstance (da_cons (de_var 0) (da_cons (de_ty (n := "bool") B.bool) da_nil)))))))), ?_⟩
  rintro ds M Q E ⟨d, rfl, h, q⟩
  simp only [jEnumU, dTupleK, dCatK, dBMT, dIdxK, dSlK, dRevK, dVar, dC, dOp, dTest, dII, dIC, dFld, dFldS, dMake, dppNil, dppCons, dMerge, dDisp, dCatL, dRg1, dLstRg, dChain, dEq, dAnd, dOr, dNot, dIfE, dNext, dSeq, dDrop, dRet, dIfS, dNever, hName, hNil, hCons, hTup, hSub, dAsg, dNil, dCons, dTup, dLst, dLstM, dIx, dSet, dCall, dwipe, dYes, jSeq, jRng1, jRng2, dCB, dLen, dListM, dTuple, dII2, dAbs, dInt, dBM0, dBM, dAppend, dPop, dPopAt, dAndV, dNotV, dNeg, dIn, dCat, dNoPart, dPart, dSl, dNewT, dIsi, dLc, dFor, dDc, dFrzA, jKeys, dDictZ, dSortTI, jZipM, if_true, if_false, ite_true, ite_false, Bool.false_eq_true, reduceIte, Bool.not_true, Bool.not_false, List.getElem?_cons_zero, List.getElem?_cons_succ, List.set_cons_zero, List.set_cons_succ, List.map_cons, List.map_nil, List.replicate, List.cons_append, List.nil_append, List.length_cons, List.length_nil, dstart]
  obtain ⟨T, hT⟩ := Option.isSome_iff_exists.mp h
  obtain ⟨e1, e2⟩ := ty_int hT
  refine ⟨by decide +kernel, T, hT, ?_⟩
  rw [e1]
  cases d <;> first
    | exact ⟨by decide +kernel, T, hT, by rw [e2]; exact fin_self q⟩
    | exact fin_self q
theorem sc_are_signs : FnScope ["thing", "many", "sign"] ["thing", "many"] (defScope s_are_signs) := ⟨rfl, rfl, rfl, by decide +kernel, rfl, by decide +kernel, by decide +kernel⟩
def sp_are_signs : DSp := fun ds M Q _ => ∃ (sg : List Int) (m : Nat), ds = [.tup (sg.map .int), .int (m : Nat)] ∧ sg.length = m ∧ m ≤ 1000 ∧ (∀ x ∈ sg, x = 1 ∨ x = -1) ∧ Q (.bl true) M
theorem c_are_signs (F : DFun K mg "are_signs" s_are_signs ["thing", "many"]) (B : Bn mg) (G : Gs mg) (c_is_integer : DCal P w K mg base CX0 1 "is_integer" sp_is_integer) : DCal P w K mg base CX0 2 "are_signs" sp_are_signs := by
  refine dok F sc_are_signs (fun ds M Q E h => (by obtain ⟨_, h⟩ := h; first | (obtain ⟨e, _⟩ := h; subst e; rfl) | (obtain ⟨_, e, _⟩ := h; subst e; rfl) | (obtain ⟨_, _, e, _⟩ := h; subst e; rfl) | (obtain ⟨_, _, _, e, _⟩ := h; subst e; rfl) | (obtain ⟨_, _, _, _, e, _⟩ := h; subst e; rfl) | (obtain ⟨_, _, _, _, _, e, _⟩ := h; subst e; rfl) | (obtain ⟨_, _, _, _, _, _, e, _⟩ := h; subst e; rfl) | (obtain ⟨_, _, _, _, _, _, _, e, _⟩ := h; subst e; rfl) | (obtain ⟨_, _, _, _, _, _, _, _, e, _⟩ := h; subst e; rfl) | (obtain ⟨_, _, _, _, _, _, _, _, _, e, _⟩ := h; subst e; rfl) | (obtain ⟨_, _, _, _, _, _, _, _, _, _, e, _⟩ := h; subst e; rfl) | (obtain ⟨_, _, _, _, _, _, _, _, _, _, _, e, _⟩ := h; subst e; rfl) | (obtain ⟨_, _, _, _, _, _, _, _, _, _, _, _, e, _⟩ := h; subst e; rfl) | (obtain ⟨_, _, _, _, _, _, _, _, _, _, _, _, _, e, _⟩ := h; subst e; rfl) | (obtain ⟨_, _, _, _, _, _, _, _, _, _, _, _, _, _, e, _⟩ := h; subst e; rfl) | (obtain ⟨_, _, _, _, _, _, _, _, _, _, _, _, _, _, _, e, _⟩ := h; subst e; rfl) | (obtain ⟨_, _, _, _, _, _, _, _, _, _, _, _, _, _, _, _, e, _⟩ := h; subst e; rfl) | (obtain ⟨_, _, _, _, _, _, _, _, _, _, _, _, _, _, _, _, _, e, _⟩ := h; subst e; rfl) | (obtain ⟨_, _, _, _, _, _, _, _, _, _, _, _, _, _, _, _, _, _, e, _⟩ := h; subst e; rfl) | (obtain ⟨_, _, _, _, _, _, _, _, _, _, _, _, _, _, _, _, _, _, _, e, _⟩ := h; subst e; rfl) | (obtain ⟨_, _, _, _, _, _, _, _, _, _, _, _, _, _, _, _, _, _, _, _, e, _⟩ := h; subst e; rfl) | (obtain ⟨_, _, _, _, _, _, _, _, _, _, _, _, _, _, _, _, _, _, _, _, _, e, _⟩ := h; subst e; rfl) | (obtain ⟨_, _, _, _, _, _, _, _, _, _, _, _, _, _, _, _, _, _, _, _, _, _, e, _⟩ := h; subst e; rfl) | (obtain ⟨_, _, _, _, _, _, _, _, _, _, _, _, _, _, _, _, _, _, _, _, _, _, _, e, _⟩ := h; subst e; rfl) | (obtain ⟨_, _, _, _, _, _, _, _, _, _, _, _, _, _, _, _, _, _, _, _, _, _, _, _, e, _⟩ := h; subst e; rfl) | (obtain ⟨_, _, _, _, _, _, _, _, _, _, _, _, _, _, _, _, _, _, _, _, _, _, _, _, _, e, _⟩ := h; subst e; rfl))) (fun f cdv A outer s H E F0 hr => ?_)
  have nd := (sc_are_signs).nd
  refine ⟨_, _, (db_cons (ds_if (DW.dt (dw_or (dt_not (dt_val (de_isi B.isinstance (da_cons (de_var 0) (da_cons (de_ty (n := "tuple") B.tuple) da_nil))))) (dw_or1 (dt_ne hr (de_len B.len (da_cons (de_var 0) da_nil)) (de_var 1))))) (db_one (ds_ret de_bl)) db_nil)
      (db_one (ds_ret (de_blt (cr_all rfl) lc_flags B.all (da_cons (dx_lc (own := [("sign", 2)]) rfl nd (di_seq (de_var 0)) (blkOk_by (N := ["thing", "many", "sign"]) (sc := defScope s_are_signs) (by decide +kernel)) (fun _ _ _ _ _ => ⟨_, (dg_name 2 nd), (gw_name (by decide))⟩) (fun _ _ _ _ _ => ⟨_, dts_nil⟩) (fun _ _ _ _ _ => ⟨_, (de_and (de_call c_is_integer hr (goes0A (E := DXK.no)) (da_cons (de_var 2) da_nil)) (de_one (de_in hr (de_var 2) (de_tup (da_cons de_int (da_cons (de_neg de_int) da_nil))))))⟩)) da_nil))))), ?_⟩
  rintro ds M Q E ⟨sg, m, rfl, hl, hm, hs, q⟩
  simp only [jEnumU, dTupleK, dCatK, dBMT, dIdxK, dSlK, dRevK, dVar, dC, dOp, dTest, dII, dIC, dFld, dFldS, dMake, dppNil, dppCons, dMerge, dDisp, dCatL, dRg1, dLstRg, dChain, dEq, dAnd, dOr, dNot, dIfE, dNext, dSeq, dDrop, dRet, dIfS, dNever, hName, hNil, hCons, hTup, hSub, dAsg, dNil, dCons, dTup, dLst, dLstM, dIx, dSet, dCall, dwipe, dYes, jSeq, jRng1, jRng2, dCB, dLen, dListM, dTuple, dII2, dAbs, dInt, dBM0, dBM, dAppend, dPop, dPopAt, dAndV, dNotV, dNeg, dIn, dCat, dNoPart, dPart, dSl, dNewT, dIsi, dLc, dFor, dDc, dFrzA, jKeys, dDictZ, dSortTI, jZipM, if_true, if_false, ite_true, ite_false, Bool.false_eq_true, reduceIte, Bool.not_true, Bool.not_false, List.getElem?_cons_zero, List.getElem?_cons_succ, List.set_cons_zero, List.set_cons_succ, List.map_cons, List.map_nil, List.replicate, List.cons_append, List.nil_append, List.length_cons, List.length_nil, dstart]
  refine ⟨by decide +kernel, "tuple", rfl, ?_⟩
  rw [if_neg (by decide +kernel)]
  refine ⟨sg.length, by simp only [lenV, List.length_map], rfl, rfl, ?_⟩
  rw [D.eq_int, if_neg (by simp; omega)]
  refine ⟨by rw [List.length_map]; exact len_ok (by omega), dLcI_map (fun _ => .bl true) (fun i e he Q2 q2 => ?_) ⟨_, map_bl true _, ?_⟩⟩
  · obtain ⟨x, hx, rfl⟩ := get_int he
    have h := hs x (List.mem_of_getElem? hx)
    simp only [jEnumU, dTupleK, dCatK, dBMT, dIdxK, dSlK, dRevK, dVar, dC, dOp, dTest, dII, dIC, dFld, dFldS, dMake, dppNil, dppCons, dMerge, dDisp, dCatL, dRg1, dLstRg, dChain, dEq, dAnd, dOr, dNot, dIfE, dNext, dSeq, dDrop, dRet, dIfS, dNever, hName, hNil, hCons, hTup, hSub, dAsg, dNil, dCons, dTup, dLst, dLstM, dIx, dSet, dCall, dwipe, dYes, jSeq, jRng1, jRng2, dCB, dLen, dListM, dTuple, dII2, dAbs, dInt, dBM0, dBM, dAppend, dPop, dPopAt, dAndV, dNotV, dNeg, dIn, dCat, dNoPart, dPart, dSl, dNewT, dIsi, dLc, dFor, dDc, dFrzA, jKeys, dDictZ, dSortTI, jZipM, if_true, if_false, ite_true, ite_false, Bool.false_eq_true, reduceIte, Bool.not_true, Bool.not_false, List.getElem?_cons_zero, List.getElem?_cons_succ, List.set_cons_zero, List.set_cons_succ, List.map_cons, List.map_nil, List.replicate, List.cons_append, List.nil_append, List.length_cons, List.length_nil, dstart]
    refine ⟨.int x, rfl, rfl, by rw [sizeLine_eq]; decide, decide (x ∈ [1, -1]), in_tupI (ns := [1, -1]), ?_⟩
    rw [show decide (x ∈ [(1 : Int), -1]) = true by rcases h with rfl | rfl <;> decide]
    exact q2
  · have ea : (List.replicate (sg.map D.int).length true).all id = true := by simp
    simp only [ea]
    exact fin_self q
theorem sc_is_turn : FnScope ["thing", "others", "content"] ["thing", "others"] (defScope s_is_turn) := ⟨rfl, rfl, rfl, by decide +kernel, rfl, by decide +kernel, by decide +kernel⟩
def sp_is_turn : DSp := fun ds M Q _ => ∃ (r s : List Int), ds = [krD r, .tup (s.map .int)] ∧ r.Perm s ∧ s.Pairwise (· < ·) ∧ s.length ≤ 60 ∧ Q (.bl true) M
theorem c_is_turn (F : DFun K mg "is_turn" s_is_turn ["thing", "others"]) (B : Bn mg) (G : Gs mg) (c_is_integer : DCal P w K mg base CX0 1 "is_integer" sp_is_integer) : DCal P w K mg base CX0 2 "is_turn" sp_is_turn := by
  refine dok F sc_is_turn (fun ds M Q E h => (by obtain ⟨_, h⟩ := h; first | (obtain ⟨e, _⟩ := h; subst e; rfl) | (obtain ⟨_, e, _⟩ := h; subst e; rfl) | (obtain ⟨_, _, e, _⟩ := h; subst e; rfl) | (obtain ⟨_, _, _, e, _⟩ := h; subst e; rfl) | (obtain ⟨_, _, _, _, e, _⟩ := h; subst e; rfl) | (obtain ⟨_, _, _, _, _, e, _⟩ := h; subst e; rfl) | (obtain ⟨_, _, _, _, _, _, e, _⟩ := h; subst e; rfl) | (obtain ⟨_, _, _, _, _, _, _, e, _⟩ := h; subst e; rfl) | (obtain ⟨_, _, _, _, _, _, _, _, e, _⟩ := h; subst e; rfl) | (obtain ⟨_, _, _, _, _, _, _, _, _, e, _⟩ := h; subst e; rfl) | (obtain ⟨_, _, _, _, _, _, _, _, _, _, e, _⟩ := h; subst e; rfl) | (obtain ⟨_, _, _, _, _, _, _, _, _, _, _, e, _⟩ := h; subst e; rfl) | (obtain ⟨_, _, _, _, _, _, _, _, _, _, _, _, e, _⟩ := h; subst e; rfl) | (obtain ⟨_, _, _, _, _, _, _, _, _, _, _, _, _, e, _⟩ := h; subst e; rfl) | (obtain ⟨_, _, _, _, _, _, _, _, _, _, _, _, _, _, e, _⟩ := h; subst e; rfl) | (obtain ⟨_, _, _, _, _, _, _, _, _, _, _, _, _, _, _, e, _⟩ := h; subst e; rfl) | (obtain ⟨_, _, _, _, _, _, _, _, _, _, _, _, _, _, _, _, e, _⟩ := h; subst e; rfl) | (obtain ⟨_, _, _, _, _, _, _, _, _, _, _, _, _, _, _, _, _, e, _⟩ := h; subst e; rfl) | (obtain ⟨_, _, _, _, _, _, _, _, _, _, _, _, _, _, _, _, _, _, e, _⟩ := h; subst e; rfl) | (obtain ⟨_, _, _, _, _, _, _, _, _, _, _, _, _, _, _, _, _, _, _, e, _⟩ := h; subst e; rfl) | (obtain ⟨_, _, _, _, _, _, _, _, _, _, _, _, _, _, _, _, _, _, _, _, e, _⟩ := h; subst e; rfl) | (obtain ⟨_, _, _, _, _, _, _, _, _, _, _, _, _, _, _, _, _, _, _, _, _, e, _⟩ := h; subst e; rfl) | (obtain ⟨_, _, _, _, _, _, _, _, _, _, _, _, _, _, _, _, _, _, _, _, _, _, e, _⟩ := h; subst e; rfl) | (obtain ⟨_, _, _, _, _, _, _, _, _, _, _, _, _, _, _, _, _, _, _, _, _, _, _, e, _⟩ := h; subst e; rfl) | (obtain ⟨_, _, _, _, _, _, _, _, _, _, _, _, _, _, _, _, _, _, _, _, _, _, _, _, e, _⟩ := h; subst e; rfl) | (obtain ⟨_, _, _, _, _, _, _, _, _, _, _, _, _, _, _, _, _, _, _, _, _, _, _, _, _, e, _⟩ := h; subst e; rfl))) (fun f cdv A outer s H E F0 hr => ?_)
  have nd := (sc_is_turn).nd
  refine ⟨_, _, (db_cons (ds_if (DW.dt (dw_or (dt_not (dt_val (de_isi B.isinstance (da_cons (de_var 0) (da_cons (de_ty (n := "tuple") B.tuple) da_nil))))) (dw_or1 (dt_ne hr (de_len B.len (da_cons (de_var 0) da_nil)) (de_len B.len (da_cons (de_var 1) da_nil)))))) (db_one (ds_ret de_bl)) db_nil)
      (db_one (ds_ret (de_and (de_blt (cr_all rfl) lc_flags B.all (da_cons (dx_lc (own := [("content", 2)]) rfl nd (di_seq (de_var 0)) (blkOk_by (N := ["thing", "others", "content"]) (sc := defScope s_is_turn) (by decide +kernel)) (fun _ _ _ _ _ => ⟨_, (dg_name 2 nd), (gw_name (by decide))⟩) (fun _ _ _ _ _ => ⟨_, dts_nil⟩) (fun _ _ _ _ _ => ⟨_, (de_call c_is_integer hr (goes0A (E := DXK.no)) (da_cons (de_var 2) da_nil))⟩)) da_nil)) (de_one (de_eq hr (de_bty call_tuple_of lc_tuple B.tuple (da_cons (de_sortTI B.sorted (da_cons (de_var 0) da_nil)) da_nil)) (de_var 1))))))), ?_⟩
  rintro ds M Q E ⟨r, s, rfl, pm, pw, sl, q⟩
  have rl := pm.length_eq
  simp only [jEnumU, dTupleK, dCatK, dBMT, dIdxK, dSlK, dRevK, dVar, dC, dOp, dTest, dII, dIC, dFld, dFldS, dMake, dppNil, dppCons, dMerge, dDisp, dCatL, dRg1, dLstRg, dChain, dEq, dAnd, dOr, dNot, dIfE, dNext, dSeq, dDrop, dRet, dIfS, dNever, hName, hNil, hCons, hTup, hSub, dAsg, dNil, dCons, dTup, dLst, dLstM, dIx, dSet, dCall, dwipe, dYes, jSeq, jRng1, jRng2, dCB, dLen, dListM, dTuple, dII2, dAbs, dInt, dBM0, dBM, dAppend, dPop, dPopAt, dAndV, dNotV, dNeg, dIn, dCat, dNoPart, dPart, dSl, dNewT, dIsi, dLc, dFor, dDc, dFrzA, jKeys, dDictZ, dSortTI, jZipM, if_true, if_false, ite_true, ite_false, Bool.false_eq_true, reduceIte, Bool.not_true, Bool.not_false, List.getElem?_cons_zero, List.getElem?_cons_succ, List.set_cons_zero, List.set_cons_succ, List.map_cons, List.map_nil, List.replicate, List.cons_append, List.nil_append, List.length_cons, List.length_nil, dstart, krD]
  refine ⟨by decide +kernel, "tuple", rfl, ?_⟩
  rw [if_neg (by decide +kernel)]
  refine ⟨r.length, by simp only [lenV, List.length_map], s.length, by simp only [lenV, List.length_map], rfl, rfl, ?_⟩
  rw [D.eq_int, if_neg (by simp; omega)]
  refine ⟨by rw [List.length_map]; exact len_ok (by omega), dLcI_map (fun _ => .bl true) (fun i e he Q2 q2 => ?_) ⟨_, map_bl true _, ?_⟩⟩
  · obtain ⟨x, hx, rfl⟩ := get_int he
    simp only [jEnumU, dTupleK, dCatK, dBMT, dIdxK, dSlK, dRevK, dVar, dC, dOp, dTest, dII, dIC, dFld, dFldS, dMake, dppNil, dppCons, dMerge, dDisp, dCatL, dRg1, dLstRg, dChain, dEq, dAnd, dOr, dNot, dIfE, dNext, dSeq, dDrop, dRet, dIfS, dNever, hName, hNil, hCons, hTup, hSub, dAsg, dNil, dCons, dTup, dLst, dLstM, dIx, dSet, dCall, dwipe, dYes, jSeq, jRng1, jRng2, dCB, dLen, dListM, dTuple, dII2, dAbs, dInt, dBM0, dBM, dAppend, dPop, dPopAt, dAndV, dNotV, dNeg, dIn, dCat, dNoPart, dPart, dSl, dNewT, dIsi, dLc, dFor, dDc, dFrzA, jKeys, dDictZ, dSortTI, jZipM, if_true, if_false, ite_true, ite_false, Bool.false_eq_true, reduceIte, Bool.not_true, Bool.not_false, List.getElem?_cons_zero, List.getElem?_cons_succ, List.set_cons_zero, List.set_cons_succ, List.map_cons, List.map_nil, List.replicate, List.cons_append, List.nil_append, List.length_cons, List.length_nil, dstart]
    exact ⟨.int x, rfl, rfl, q2⟩
  · have ea : (List.replicate (r.map D.int).length true).all id = true := by simp
    simp only [ea, if_true]
    refine ⟨r, rfl, by omega, fun ms h1 h2 => ⟨okL_int _ _, okL_int _ _, ?_⟩⟩
    have e : ms = s := List.Perm.eq_of_pairwise (le := (· ≤ ·)) (fun a b _ _ h1 h2 => by omega) h2 (pw.imp fun {a b} h => by omega) (h1.trans pm)
    rw [e, D.eq_tup, eqL_int, decide_eq_true rfl]
    exact fin_self q
theorem sc_tied_of : FnScope ["book"] ["book"] (defScope s_tied_of) := ⟨rfl, rfl, rfl, by decide +kernel, rfl, by decide +kernel, by decide +kernel⟩
def sp_tied_of (C_TB : Addr) : DSp := fun ds M Q _ => ∃ p n ps d, ds = [.ref p] ∧ BookAt C_TB M p n ps d ∧ Q (.lst (rowsD n ps)) M
theorem c_tied_of {C_TB : Addr} (F : DFun K mg "tied_of" s_tied_of ["book"]) (B : Bn mg) (G : Gs mg) (TB : Cl_TB K mg C_TB) : DCal P w K mg base CX0 1 "tied_of" (sp_tied_of C_TB) := by
  refine dok F sc_tied_of (fun ds M Q E h => (by obtain ⟨_, h⟩ := h; first | (obtain ⟨e, _⟩ := h; subst e; rfl) | (obtain ⟨_, e, _⟩ := h; subst e; rfl) | (obtain ⟨_, _, e, _⟩ := h; subst e; rfl) | (obtain ⟨_, _, _, e, _⟩ := h; subst e; rfl) | (obtain ⟨_, _, _, _, e, _⟩ := h; subst e; rfl) | (obtain ⟨_, _, _, _, _, e, _⟩ := h; subst e; rfl) | (obtain ⟨_, _, _, _, _, _, e, _⟩ := h; subst e; rfl) | (obtain ⟨_, _, _, _, _, _, _, e, _⟩ := h; subst e; rfl) | (obtain ⟨_, _, _, _, _, _, _, _, e, _⟩ := h; subst e; rfl) | (obtain ⟨_, _, _, _, _, _, _, _, _, e, _⟩ := h; subst e; rfl) | (obtain ⟨_, _, _, _, _, _, _, _, _, _, e, _⟩ := h; subst e; rfl) | (obtain ⟨_, _, _, _, _, _, _, _, _, _, _, e, _⟩ := h; subst e; rfl) | (obtain ⟨_, _, _, _, _, _, _, _, _, _, _, _, e, _⟩ := h; subst e; rfl) | (obtain ⟨_, _, _, _, _, _, _, _, _, _, _, _, _, e, _⟩ := h; subst e; rfl) | (obtain ⟨_, _, _, _, _, _, _, _, _, _, _, _, _, _, e, _⟩ := h; subst e; rfl) | (obtain ⟨_, _, _, _, _, _, _, _, _, _, _, _, _, _, _, e, _⟩ := h; subst e; rfl) | (obtain ⟨_, _, _, _, _, _, _, _, _, _, _, _, _, _, _, _, e, _⟩ := h; subst e; rfl) | (obtain ⟨_, _, _, _, _, _, _, _, _, _, _, _, _, _, _, _, _, e, _⟩ := h; subst e; rfl) | (obtain ⟨_, _, _, _, _, _, _, _, _, _, _, _, _, _, _, _, _, _, e, _⟩ := h; subst e; rfl) | (obtain ⟨_, _, _, _, _, _, _, _, _, _, _, _, _, _, _, _, _, _, _, e, _⟩ := h; subst e; rfl) | (obtain ⟨_, _, _, _, _, _, _, _, _, _, _, _, _, _, _, _, _, _, _, _, e, _⟩ := h; subst e; rfl) | (obtain ⟨_, _, _, _, _, _, _, _, _, _, _, _, _, _, _, _, _, _, _, _, _, e, _⟩ := h; subst e; rfl) | (obtain ⟨_, _, _, _, _, _, _, _, _, _, _, _, _, _, _, _, _, _, _, _, _, _, e, _⟩ := h; subst e; rfl) | (obtain ⟨_, _, _, _, _, _, _, _, _, _, _, _, _, _, _, _, _, _, _, _, _, _, _, e, _⟩ := h; subst e; rfl) | (obtain ⟨_, _, _, _, _, _, _, _, _, _, _, _, _, _, _, _, _, _, _, _, _, _, _, _, e, _⟩ := h; subst e; rfl) | (obtain ⟨_, _, _, _, _, _, _, _, _, _, _, _, _, _, _, _, _, _, _, _, _, _, _, _, _, e, _⟩ := h; subst e; rfl))) (fun f cdv A outer s H E F0 hr => ?_)
  have nd := (sc_tied_of).nd
  refine ⟨_, _, (db_one (ds_ret (de_ix hr (de_fld TB.cl TB.n_kept_facts (de_var 0)) de_str))), ?_⟩
  rintro ds M Q E ⟨p, n, ps, d, rfl, W, q⟩
  simp only [jEnumU, dTupleK, dCatK, dBMT, dIdxK, dSlK, dRevK, dVar, dC, dOp, dTest, dII, dIC, dFld, dFldS, dMake, dppNil, dppCons, dMerge, dDisp, dCatL, dRg1, dLstRg, dChain, dEq, dAnd, dOr, dNot, dIfE, dNext, dSeq, dDrop, dRet, dIfS, dNever, hName, hNil, hCons, hTup, hSub, dAsg, dNil, dCons, dTup, dLst, dLstM, dIx, dSet, dCall, dwipe, dYes, jSeq, jRng1, jRng2, dCB, dLen, dListM, dTuple, dII2, dAbs, dInt, dBM0, dBM, dAppend, dPop, dPopAt, dAndV, dNotV, dNeg, dIn, dCat, dNoPart, dPart, dSl, dNewT, dIsi, dLc, dFor, dDc, dFrzA, jKeys, dDictZ, dSortTI, jZipM, if_true, if_false, ite_true, ite_false, Bool.false_eq_true, reduceIte, Bool.not_true, Bool.not_false, List.getElem?_cons_zero, List.getElem?_cons_succ, List.set_cons_zero, List.set_cons_succ, List.map_cons, List.map_nil, List.replicate, List.cons_append, List.nil_append, List.length_cons, List.length_nil, dstart, W.ob]
  exact ⟨trivial, .ref d, fb_facts n ps d, .lst (rowsD n ps), by rw [ix_dK W.fc, dval_cons, if_pos rfl], fin_self q⟩
theorem sc_is_right_drawing : FnScope ["book", "thing", "turn", "others"] ["book", "thing"] (defScope s_is_right_drawing) := ⟨rfl, rfl, rfl, by decide +kernel, rfl, by decide +kernel, by decide +kernel⟩
def sp_is_right_drawing (C_TB : Addr) : DSp := fun ds M Q _ => ∃ b n ps d tn sg, ds = [.ref b, drwD tn sg] ∧ BookAt C_TB M b n ps d ∧ Drw n ps tn sg ∧ Q (.bl true) M
theorem c_is_right_drawing {C_TB : Addr} (F : DFun K mg "is_right_drawing" s_is_right_drawing ["book", "thing"]) (B : Bn mg) (G : Gs mg) (TB : Cl_TB K mg C_TB) (c_are_signs : DCal P w K mg base CX0 2 "are_signs" sp_are_signs) (c_is_turn : DCal P w K mg base CX0 2 "is_turn" sp_is_turn) (c_tied_of : DCal P w K mg base CX0 1 "tied_of" (sp_tied_of C_TB)) : DCal P w K mg base CX0 3 "is_right_drawing" (sp_is_right_drawing C_TB) := by
  refine dok F sc_is_right_drawing (fun ds M Q E h => (by obtain ⟨_, h⟩ := h; first | (obtain ⟨e, _⟩ := h; subst e; rfl) | (obtain ⟨_, e, _⟩ := h; subst e; rfl) | (obtain ⟨_, _, e, _⟩ := h; subst e; rfl) | (obtain ⟨_, _, _, e, _⟩ := h; subst e; rfl) | (obtain ⟨_, _, _, _, e, _⟩ := h; subst e; rfl) | (obtain ⟨_, _, _, _, _, e, _⟩ := h; subst e; rfl) | (obtain ⟨_, _, _, _, _, _, e, _⟩ := h; subst e; rfl) | (obtain ⟨_, _, _, _, _, _, _, e, _⟩ := h; subst e; rfl) | (obtain ⟨_, _, _, _, _, _, _, _, e, _⟩ := h; subst e; rfl) | (obtain ⟨_, _, _, _, _, _, _, _, _, e, _⟩ := h; subst e; rfl) | (obtain ⟨_, _, _, _, _, _, _, _, _, _, e, _⟩ := h; subst e; rfl) | (obtain ⟨_, _, _, _, _, _, _, _, _, _, _, e, _⟩ := h; subst e; rfl) | (obtain ⟨_, _, _, _, _, _, _, _, _, _, _, _, e, _⟩ := h; subst e; rfl) | (obtain ⟨_, _, _, _, _, _, _, _, _, _, _, _, _, e, _⟩ := h; subst e; rfl) | (obtain ⟨_, _, _, _, _, _, _, _, _, _, _, _, _, _, e, _⟩ := h; subst e; rfl) | (obtain ⟨_, _, _, _, _, _, _, _, _, _, _, _, _, _, _, e, _⟩ := h; subst e; rfl) | (obtain ⟨_, _, _, _, _, _, _, _, _, _, _, _, _, _, _, _, e, _⟩ := h; subst e; rfl) | (obtain ⟨_, _, _, _, _, _, _, _, _, _, _, _, _, _, _, _, _, e, _⟩ := h; subst e; rfl) | (obtain ⟨_, _, _, _, _, _, _, _, _, _, _, _, _, _, _, _, _, _, e, _⟩ := h; subst e; rfl) | (obtain ⟨_, _, _, _, _, _, _, _, _, _, _, _, _, _, _, _, _, _, _, e, _⟩ := h; subst e; rfl) | (obtain ⟨_, _, _, _, _, _, _, _, _, _, _, _, _, _, _, _, _, _, _, _, e, _⟩ := h; subst e; rfl) | (obtain ⟨_, _, _, _, _, _, _, _, _, _, _, _, _, _, _, _, _, _, _, _, _, e, _⟩ := h; subst e; rfl) | (obtain ⟨_, _, _, _, _, _, _, _, _, _, _, _, _, _, _, _, _, _, _, _, _, _, e, _⟩ := h; subst e; rfl) | (obtain ⟨_, _, _, _, _, _, _, _, _, _, _, _, _, _, _, _, _, _, _, _, _, _, _, e, _⟩ := h; subst e; rfl) | (obtain ⟨_, _, _, _, _, _, _, _, _, _, _, _, _, _, _, _, _, _, _, _, _, _, _, _, e, _⟩ := h; subst e; rfl) | (obtain ⟨_, _, _, _, _, _, _, _, _, _, _, _, _, _, _, _, _, _, _, _, _, _, _, _, _, e, _⟩ := h; subst e; rfl))) (fun f cdv A outer s H E F0 hr => ?_)
  have nd := (sc_is_right_drawing).nd
  refine ⟨_, _, (db_cons (ds_if (DW.dt (dw_or (dt_not (dt_val (de_isi B.isinstance (da_cons (de_var 1) (da_cons (de_ty (n := "tuple") B.tuple) da_nil))))) (dw_or (dt_ne hr (de_len B.len (da_cons (de_var 1) da_nil)) de_int) (dw_or1 (dt_not (dt_val (de_isi B.isinstance (da_cons (de_ix hr (de_var 1) de_int) (da_cons (de_ty (n := "tuple") B.tuple) da_nil))))))))) (db_one (ds_ret de_bl)) db_nil)
      (db_cons (ds_if (DW.dt (dw_or (dt_ne hr (de_len B.len (da_cons (de_ix hr (de_var 1) de_int) da_nil)) (de_fld TB.cl TB.n_kept_size (de_var 0))) (dw_or1 (dt_not (dt_val (de_call c_are_signs hr (goes0A (E := DXK.no)) (da_cons (de_ix hr (de_var 1) de_int) (da_cons (de_len B.len (da_cons (de_fld TB.cl TB.n_kept_ties (de_var 0)) da_nil)) da_nil)))))))) (db_one (ds_ret de_bl)) db_nil)
      (db_one (ds_ret (de_blt (cr_all rfl) lc_flags B.all (da_cons (dx_lc (own := [("turn", 2), ("others", 3)]) rfl nd (di_zipM B.zip (da_cons (de_ix hr (de_var 1) de_int) (da_cons (de_call c_tied_of hr (goes0A (E := DXK.no)) (da_cons (de_var 0) da_nil)) da_nil))) (blkOk_by (N := ["book", "thing", "turn", "others"]) (sc := defScope s_is_right_drawing) (by decide +kernel)) (fun _ _ _ _ _ => ⟨_, (dg_tup (n := 2) rfl (dgs_cons (dg_name 2 nd) (dgs_cons (dg_name 3 nd) dgs_nil))), (gw_tup (gws_cons gm_name (gm_cons gm_name gm_nil) (gw_name (by decide)) (gws_cons gm_name gm_nil (gw_name (by decide)) gws_nil)))⟩) (fun _ _ _ _ _ => ⟨_, dts_nil⟩) (fun _ _ _ _ _ => ⟨_, (de_call c_is_turn hr (goes0A (E := DXK.no)) (da_cons (de_var 2) (da_cons (de_var 3) da_nil)))⟩)) da_nil)))))), ?_⟩
  rintro ds M Q E ⟨b, n, ps, d, tn, sg, rfl, B, R, q⟩
  have n8 := B.ok.hi
  have l28 := B.ok.pr.len28 n8
  have tl := R.tl
  have sl := R.sl
  simp only [jEnumU, dTupleK, dCatK, dBMT, dIdxK, dSlK, dRevK, dVar, dC, dOp, dTest, dII, dIC, dFld, dFldS, dMake, dppNil, dppCons, dMerge, dDisp, dCatL, dRg1, dLstRg, dChain, dEq, dAnd, dOr, dNot, dIfE, dNext, dSeq, dDrop, dRet, dIfS, dNever, hName, hNil, hCons, hTup, hSub, dAsg, dNil, dCons, dTup, dLst, dLstM, dIx, dSet, dCall, dwipe, dYes, jSeq, jRng1, jRng2, dCB, dLen, dListM, dTuple, dII2, dAbs, dInt, dBM0, dBM, dAppend, dPop, dPopAt, dAndV, dNotV, dNeg, dIn, dCat, dNoPart, dPart, dSl, dNewT, dIsi, dLc, dFor, dDc, dFrzA, jKeys, dDictZ, dSortTI, jZipM, if_true, if_false, ite_true, ite_false, Bool.false_eq_true, reduceIte, Bool.not_true, Bool.not_false, List.getElem?_cons_zero, List.getElem?_cons_succ, List.set_cons_zero, List.set_cons_succ, List.map_cons, List.map_nil, List.replicate, List.cons_append, List.nil_append, List.length_cons, List.length_nil, dstart, drwD]
  refine ⟨by decide +kernel, "tuple", rfl, ?_⟩
  rw [if_neg (by decide +kernel)]
  refine ⟨2, rfl, rfl, rfl, ?_⟩
  rw [D.eq_int, if_neg (by decide)]
  refine ⟨.tup (tn.map krD), ixT_at (k := 0) rfl rfl, by decide +kernel, "tuple", rfl, ?_⟩
  rw [if_neg (by decide +kernel)]
  refine ⟨.tup (tn.map krD), ixT_at (k := 0) rfl rfl, tn.length, by simp only [lenV, List.length_map], ?_⟩
  simp only [B.ob]
  refine ⟨trivial, .int n, rfl, rfl, rfl, ?_⟩
  rw [D.eq_int, if_neg (by simp; omega)]
  refine ⟨.tup (sg.map .int), ixT_at (k := 1) rfl rfl, trivial, .kt (ps.map prD), rfl, ps.length, by simp only [lenV, List.length_map], sg, ps.length, rfl, sl, by omega, R.sv, ?_⟩
  simp only [if_true, if_false, ite_true, ite_false, Bool.false_eq_true, reduceIte, Bool.not_true, Bool.not_false, List.getElem?_cons_zero, List.getElem?_cons_succ, List.set_cons_zero, List.set_cons_succ, List.map_cons, List.map_nil, List.replicate, List.cons_append, List.nil_append, List.length_cons, List.length_nil, dstart]
  refine ⟨.tup (tn.map krD), ixT_at (k := 0) rfl rfl, b, n, ps, d, rfl, B, ?_⟩
  have rl : (rowsD n ps).length = tn.length := by unfold rowsD rowsOf; rw [List.length_map, List.length_map, List.length_range]; omega
  simp only [seqOf]
  refine ⟨by rw [List.length_map]; omega, by rw [zipD_len, List.length_map]; exact len_ok (by omega), dLcI_map (fun _ => .bl true) (fun i e he Q2 q2 => ?_) ⟨_, map_bl true _, ?_⟩⟩
  · obtain ⟨r, hr, rfl⟩ := zip_kr he
    have nd := nbr_nodup (i := (i : Int)) B.ok.pr
    have pm := R.tp i r hr
    have l8 := nbr_len ps (i : Int)
    simp only [jEnumU, dTupleK, dCatK, dBMT, dIdxK, dSlK, dRevK, dVar, dC, dOp, dTest, dII, dIC, dFld, dFldS, dMake, dppNil, dppCons, dMerge, dDisp, dCatL, dRg1, dLstRg, dChain, dEq, dAnd, dOr, dNot, dIfE, dNext, dSeq, dDrop, dRet, dIfS, dNever, hName, hNil, hCons, hTup, hSub, dAsg, dNil, dCons, dTup, dLst, dLstM, dIx, dSet, dCall, dwipe, dYes, jSeq, jRng1, jRng2, dCB, dLen, dListM, dTuple, dII2, dAbs, dInt, dBM0, dBM, dAppend, dPop, dPopAt, dAndV, dNotV, dNeg, dIn, dCat, dNoPart, dPart, dSl, dNewT, dIsi, dLc, dFor, dDc, dFrzA, jKeys, dDictZ, dSortTI, jZipM, if_true, if_false, ite_true, ite_false, Bool.false_eq_true, reduceIte, Bool.not_true, Bool.not_false, List.getElem?_cons_zero, List.getElem?_cons_succ, List.set_cons_zero, List.set_cons_succ, List.map_cons, List.map_nil, List.replicate, List.cons_append, List.nil_append, List.length_cons, List.length_nil, dstart]
    exact ⟨trivial, r, srt (nbr ps (i : Int)), rfl, pm.trans (srt_perm _).symm, srt_lt nd, by rw [srt_length]; omega, q2⟩
  · have ea : (List.replicate (zipD (tn.map krD) (rowsD n ps)).length true).all id = true := by simp
    simp only [ea]
    exact fin_self q
theorem sc_check_drawing : FnScope ["book", "drawing"] ["book", "drawing"] (defScope s_check_drawing) := ⟨rfl, rfl, rfl, by decide +kernel, rfl, by decide +kernel, by decide +kernel⟩
def sp_check_drawing (C_TB : Addr) : DSp := fun ds M Q _ => ∃ b n ps d tn sg, ds = [.ref b, drwD tn sg] ∧ BookAt C_TB M b n ps d ∧ Drw n ps tn sg ∧ Q .non M
theorem c_check_drawing {C_TB : Addr} (F : DFun K mg "check_drawing" s_check_drawing ["book", "drawing"]) (B : Bn mg) (G : Gs mg) (c_is_right_drawing : DCal P w K mg base CX0 3 "is_right_drawing" (sp_is_right_drawing C_TB)) : DCal P w K mg base CX0 4 "check_drawing" (sp_check_drawing C_TB) := by
  refine dok F sc_check_drawing (fun ds M Q E h => (by obtain ⟨_, h⟩ := h; first | (obtain ⟨e, _⟩ := h; subst e; rfl) | (obtain ⟨_, e, _⟩ := h; subst e; rfl) | (obtain ⟨_, _, e, _⟩ := h; subst e; rfl) | (obtain ⟨_, _, _, e, _⟩ := h; subst e; rfl) | (obtain ⟨_, _, _, _, e, _⟩ := h; subst e; rfl) | (obtain ⟨_, _, _, _, _, e, _⟩ := h; subst e; rfl) | (obtain ⟨_, _, _, _, _, _, e, _⟩ := h; subst e; rfl) | (obtain ⟨_, _, _, _, _, _, _, e, _⟩ := h; subst e; rfl) | (obtain ⟨_, _, _, _, _, _, _, _, e, _⟩ := h; subst e; rfl) | (obtain ⟨_, _, _, _, _, _, _, _, _, e, _⟩ := h; subst e; rfl) | (obtain ⟨_, _, _, _, _, _, _, _, _, _, e, _⟩ := h; subst e; rfl) | (obtain ⟨_, _, _, _, _, _, _, _, _, _, _, e, _⟩ := h; subst e; rfl) | (obtain ⟨_, _, _, _, _, _, _, _, _, _, _, _, e, _⟩ := h; subst e; rfl) | (obtain ⟨_, _, _, _, _, _, _, _, _, _, _, _, _, e, _⟩ := h; subst e; rfl) | (obtain ⟨_, _, _, _, _, _, _, _, _, _, _, _, _, _, e, _⟩ := h; subst e; rfl) | (obtain ⟨_, _, _, _, _, _, _, _, _, _, _, _, _, _, _, e, _⟩ := h; subst e; rfl) | (obtain ⟨_, _, _, _, _, _, _, _, _, _, _, _, _, _, _, _, e, _⟩ := h; subst e; rfl) | (obtain ⟨_, _, _, _, _, _, _, _, _, _, _, _, _, _, _, _, _, e, _⟩ := h; subst e; rfl) | (obtain ⟨_, _, _, _, _, _, _, _, _, _, _, _, _, _, _, _, _, _, e, _⟩ := h; subst e; rfl) | (obtain ⟨_, _, _, _, _, _, _, _, _, _, _, _, _, _, _, _, _, _, _, e, _⟩ := h; subst e; rfl) | (obtain ⟨_, _, _, _, _, _, _, _, _, _, _, _, _, _, _, _, _, _, _, _, e, _⟩ := h; subst e; rfl) | (obtain ⟨_, _, _, _, _, _, _, _, _, _, _, _, _, _, _, _, _, _, _, _, _, e, _⟩ := h; subst e; rfl) | (obtain ⟨_, _, _, _, _, _, _, _, _, _, _, _, _, _, _, _, _, _, _, _, _, _, e, _⟩ := h; subst e; rfl) | (obtain ⟨_, _, _, _, _, _, _, _, _, _, _, _, _, _, _, _, _, _, _, _, _, _, _, e, _⟩ := h; subst e; rfl) | (obtain ⟨_, _, _, _, _, _, _, _, _, _, _, _, _, _, _, _, _, _, _, _, _, _, _, _, e, _⟩ := h; subst e; rfl) | (obtain ⟨_, _, _, _, _, _, _, _, _, _, _, _, _, _, _, _, _, _, _, _, _, _, _, _, _, e, _⟩ := h; subst e; rfl))) (fun f cdv A outer s H E F0 hr => ?_)
  have nd := (sc_check_drawing).nd
  refine ⟨_, _, (db_one (ds_if (dt_not (dt_val (de_call c_is_right_drawing hr (goes0A (E := DXK.no)) (da_cons (de_var 0) (da_cons (de_var 1) da_nil))))) (db_one ds_never) db_nil)), ?_⟩
  rintro ds M Q E ⟨b, n, ps, d, tn, sg, rfl, B, R, q⟩
  simp only [jEnumU, dTupleK, dCatK, dBMT, dIdxK, dSlK, dRevK, dVar, dC, dOp, dTest, dII, dIC, dFld, dFldS, dMake, dppNil, dppCons, dMerge, dDisp, dCatL, dRg1, dLstRg, dChain, dEq, dAnd, dOr, dNot, dIfE, dNext, dSeq, dDrop, dRet, dIfS, dNever, hName, hNil, hCons, hTup, hSub, dAsg, dNil, dCons, dTup, dLst, dLstM, dIx, dSet, dCall, dwipe, dYes, jSeq, jRng1, jRng2, dCB, dLen, dListM, dTuple, dII2, dAbs, dInt, dBM0, dBM, dAppend, dPop, dPopAt, dAndV, dNotV, dNeg, dIn, dCat, dNoPart, dPart, dSl, dNewT, dIsi, dLc, dFor, dDc, dFrzA, jKeys, dDictZ, dSortTI, jZipM, if_true, if_false, ite_true, ite_false, Bool.false_eq_true, reduceIte, Bool.not_true, Bool.not_false, List.getElem?_cons_zero, List.getElem?_cons_succ, List.set_cons_zero, List.set_cons_succ, List.map_cons, List.map_nil, List.replicate, List.cons_append, List.nil_append, List.length_cons, List.length_nil, dstart]
  exact ⟨b, n, ps, d, tn, sg, rfl, B, R, fin_self q⟩
theorem sc_tie_of : FnScope ["one", "other"] ["one", "other"] (defScope s_tie_of) := ⟨rfl, rfl, rfl, by decide +kernel, rfl, by decide +kernel, by decide +kernel⟩
def sp_tie_of : DSp := fun ds M Q _ => ∃ a b : Int, ds = [.int a, .int b] ∧ Q (prD (if b < a then b else a, if a < b then b else a)) M
theorem c_tie_of (F : DFun K mg "tie_of" s_tie_of ["one", "other"]) (B : Bn mg) (G : Gs mg)  : DCal P w K mg base CX0 1 "tie_of" sp_tie_of := by
  refine dok F sc_tie_of (fun ds M Q E h => (by obtain ⟨_, h⟩ := h; first | (obtain ⟨e, _⟩ := h; subst e; rfl) | (obtain ⟨_, e, _⟩ := h; subst e; rfl) | (obtain ⟨_, _, e, _⟩ := h; subst e; rfl) | (obtain ⟨_, _, _, e, _⟩ := h; subst e; rfl) | (obtain ⟨_, _, _, _, e, _⟩ := h; subst e; rfl) | (obtain ⟨_, _, _, _, _, e, _⟩ := h; subst e; rfl) | (obtain ⟨_, _, _, _, _, _, e, _⟩ := h; subst e; rfl) | (obtain ⟨_, _, _, _, _, _, _, e, _⟩ := h; subst e; rfl) | (obtain ⟨_, _, _, _, _, _, _, _, e, _⟩ := h; subst e; rfl) | (obtain ⟨_, _, _, _, _, _, _, _, _, e, _⟩ := h; subst e; rfl) | (obtain ⟨_, _, _, _, _, _, _, _, _, _, e, _⟩ := h; subst e; rfl) | (obtain ⟨_, _, _, _, _, _, _, _, _, _, _, e, _⟩ := h; subst e; rfl) | (obtain ⟨_, _, _, _, _, _, _, _, _, _, _, _, e, _⟩ := h; subst e; rfl) | (obtain ⟨_, _, _, _, _, _, _, _, _, _, _, _, _, e, _⟩ := h; subst e; rfl) | (obtain ⟨_, _, _, _, _, _, _, _, _, _, _, _, _, _, e, _⟩ := h; subst e; rfl) | (obtain ⟨_, _, _, _, _, _, _, _, _, _, _, _, _, _, _, e, _⟩ := h; subst e; rfl) | (obtain ⟨_, _, _, _, _, _, _, _, _, _, _, _, _, _, _, _, e, _⟩ := h; subst e; rfl) | (obtain ⟨_, _, _, _, _, _, _, _, _, _, _, _, _, _, _, _, _, e, _⟩ := h; subst e; rfl) | (obtain ⟨_, _, _, _, _, _, _, _, _, _, _, _, _, _, _, _, _, _, e, _⟩ := h; subst e; rfl) | (obtain ⟨_, _, _, _, _, _, _, _, _, _, _, _, _, _, _, _, _, _, _, e, _⟩ := h; subst e; rfl) | (obtain ⟨_, _, _, _, _, _, _, _, _, _, _, _, _, _, _, _, _, _, _, _, e, _⟩ := h; subst e; rfl) | (obtain ⟨_, _, _, _, _, _, _, _, _, _, _, _, _, _, _, _, _, _, _, _, _, e, _⟩ := h; subst e; rfl) | (obtain ⟨_, _, _, _, _, _, _, _, _, _, _, _, _, _, _, _, _, _, _, _, _, _, e, _⟩ := h; subst e; rfl) | (obtain ⟨_, _, _, _, _, _, _, _, _, _, _, _, _, _, _, _, _, _, _, _, _, _, _, e, _⟩ := h; subst e; rfl) | (obtain ⟨_, _, _, _, _, _, _, _, _, _, _, _, _, _, _, _, _, _, _, _, _, _, _, _, e, _⟩ := h; subst e; rfl) | (obtain ⟨_, _, _, _, _, _, _, _, _, _, _, _, _, _, _, _, _, _, _, _, _, _, _, _, _, e, _⟩ := h; subst e; rfl))) (fun f cdv A outer s H E F0 hr => ?_)
  have nd := (sc_tie_of).nd
  refine ⟨_, _, (db_one (ds_ret (de_tup (da_cons (de_blt (call_min2 rfl) lc_min2 B.min (da_cons (de_var 0) (da_cons (de_var 1) da_nil))) (da_cons (de_blt (call_max2 rfl) lc_max2 B.max (da_cons (de_var 0) (da_cons (de_var 1) da_nil))) da_nil))))), ?_⟩
  rintro ds M Q E ⟨a, b, rfl, q⟩
  simp only [jEnumU, dTupleK, dCatK, dBMT, dIdxK, dSlK, dRevK, dVar, dC, dOp, dTest, dII, dIC, dFld, dFldS, dMake, dppNil, dppCons, dMerge, dDisp, dCatL, dRg1, dLstRg, dChain, dEq, dAnd, dOr, dNot, dIfE, dNext, dSeq, dDrop, dRet, dIfS, dNever, hName, hNil, hCons, hTup, hSub, dAsg, dNil, dCons, dTup, dLst, dLstM, dIx, dSet, dCall, dwipe, dYes, jSeq, jRng1, jRng2, dCB, dLen, dListM, dTuple, dII2, dAbs, dInt, dBM0, dBM, dAppend, dPop, dPopAt, dAndV, dNotV, dNeg, dIn, dCat, dNoPart, dPart, dSl, dNewT, dIsi, dLc, dFor, dDc, dFrzA, jKeys, dDictZ, dSortTI, jZipM, if_true, if_false, ite_true, ite_false, Bool.false_eq_true, reduceIte, Bool.not_true, Bool.not_false, List.getElem?_cons_zero, List.getElem?_cons_succ, List.set_cons_zero, List.set_cons_succ, List.map_cons, List.map_nil, List.replicate, List.cons_append, List.nil_append, List.length_cons, List.length_nil, dstart]
  exact ⟨by decide, fin_self q⟩
theorem sc_steps_behind : FnScope ["turning", "signs", "found", "content", "turn", "at", "other", "sign", "ahead", "behind"] ["turning", "signs"] (defScope s_steps_behind) := ⟨rfl, rfl, rfl, by decide +kernel, rfl, by decide +kernel, by decide +kernel⟩
def sp_steps_behind : DSp := fun ds M Q _ => ∃ (n : Int) (ps : List (Int × Int)) (tn : List (List Int)) (sg : List Int) (sa : Addr), ds = [.tup (tn.map krD), .ref sa] ∧ BookOk n ps ∧ Drw n ps tn sg ∧ M sa = some (.dT ((ps.map fun q => [.inl q.1, .inl q.2]).zip (sg.map .int))) ∧ ∀ (a : Addr) (ks : List Stp), M a = none → ks.Nodup → ks.length ≤ 2000 → (∀ s, s ∈ ks ↔ StpP n ps s) → Q (.ref a) (mset M a (.dT (ks.map (kvS ps tn sg))))
theorem c_steps_behind (F : DFun K mg "steps_behind" s_steps_behind ["turning", "signs"]) (B : Bn mg) (G : Gs mg) (c_tie_of : DCal P w K mg base CX0 1 "tie_of" sp_tie_of) : DCal P w K mg base CX0 2 "steps_behind" sp_steps_behind := by
  refine dok F sc_steps_behind (fun ds M Q E h => (by obtain ⟨_, h⟩ := h; first | (obtain ⟨e, _⟩ := h; subst e; rfl) | (obtain ⟨_, e, _⟩ := h; subst e; rfl) | (obtain ⟨_, _, e, _⟩ := h; subst e; rfl) | (obtain ⟨_, _, _, e, _⟩ := h; subst e; rfl) | (obtain ⟨_, _, _, _, e, _⟩ := h; subst e; rfl) | (obtain ⟨_, _, _, _, _, e, _⟩ := h; subst e; rfl) | (obtain ⟨_, _, _, _, _, _, e, _⟩ := h; subst e; rfl) | (obtain ⟨_, _, _, _, _, _, _, e, _⟩ := h; subst e; rfl) | (obtain ⟨_, _, _, _, _, _, _, _, e, _⟩ := h; subst e; rfl) | (obtain ⟨_, _, _, _, _, _, _, _, _, e, _⟩ := h; subst e; rfl) | (obtain ⟨_, _, _, _, _, _, _, _, _, _, e, _⟩ := h; subst e; rfl) | (obtain ⟨_, _, _, _, _, _, _, _, _, _, _, e, _⟩ := h; subst e; rfl) | (obtain ⟨_, _, _, _, _, _, _, _, _, _, _, _, e, _⟩ := h; subst e; rfl) | (obtain ⟨_, _, _, _, _, _, _, _, _, _, _, _, _, e, _⟩ := h; subst e; rfl) | (obtain ⟨_, _, _, _, _, _, _, _, _, _, _, _, _, _, e, _⟩ := h; subst e; rfl) | (obtain ⟨_, _, _, _, _, _, _, _, _, _, _, _, _, _, _, e, _⟩ := h; subst e; rfl) | (obtain ⟨_, _, _, _, _, _, _, _, _, _, _, _, _, _, _, _, e, _⟩ := h; subst e; rfl) | (obtain ⟨_, _, _, _, _, _, _, _, _, _, _, _, _, _, _, _, _, e, _⟩ := h; subst e; rfl) | (obtain ⟨_, _, _, _, _, _, _, _, _, _, _, _, _, _, _, _, _, _, e, _⟩ := h; subst e; rfl) | (obtain ⟨_, _, _, _, _, _, _, _, _, _, _, _, _, _, _, _, _, _, _, e, _⟩ := h; subst e; rfl) | (obtain ⟨_, _, _, _, _, _, _, _, _, _, _, _, _, _, _, _, _, _, _, _, e, _⟩ := h; subst e; rfl) | (obtain ⟨_, _, _, _, _, _, _, _, _, _, _, _, _, _, _, _, _, _, _, _, _, e, _⟩ := h; subst e; rfl) | (obtain ⟨_, _, _, _, _, _, _, _, _, _, _, _, _, _, _, _, _, _, _, _, _, _, e, _⟩ := h; subst e; rfl) | (obtain ⟨_, _, _, _, _, _, _, _, _, _, _, _, _, _, _, _, _, _, _, _, _, _, _, e, _⟩ := h; subst e; rfl) | (obtain ⟨_, _, _, _, _, _, _, _, _, _, _, _, _, _, _, _, _, _, _, _, _, _, _, _, e, _⟩ := h; subst e; rfl) | (obtain ⟨_, _, _, _, _, _, _, _, _, _, _, _, _, _, _, _, _, _, _, _, _, _, _, _, _, e, _⟩ := h; subst e; rfl))) (fun f cdv A outer s H E F0 hr => ?_)
  have nd := (sc_steps_behind).nd
  refine ⟨_, _, (db_cons (ds_set 2 nd de_newT)
      (db_cons (ds_for PassesOwn.never rfl (di_enumU B.enumerate (da_cons (de_var 0) da_nil)) (dg_tup (n := 2) rfl (dgs_cons (dg_name 3 nd) (dgs_cons (dg_name 4 nd) dgs_nil))) (db_one (ds_for PassesOwn.never rfl (di_enumU B.enumerate (da_cons (de_var 4) da_nil)) (dg_tup (n := 2) rfl (dgs_cons (dg_name 5 nd) (dgs_cons (dg_name 6 nd) dgs_nil))) (db_cons (ds_set 7 nd (de_ix hr (de_var 1) (de_call c_tie_of hr (goes0A (E := DXK.no)) (da_cons (de_var 3) (da_cons (de_var 6) da_nil)))))
      (db_cons (ds_set 8 nd (de_ix hr (de_var 4) (de_sub (de_var 5) de_int)))
      (db_cons (ds_set 9 nd (de_ix hr (de_var 4) (de_mod (de_add (de_var 5) de_int) (de_len B.len (da_cons (de_var 4) da_nil)))))
      (db_cons (ds_put hr (de_var 2) (de_tup (da_cons (de_var 6) (da_cons (de_var 3) (da_cons (de_var 7) da_nil)))) (de_tup (da_cons (de_var 3) (da_cons (de_var 9) (da_cons de_int da_nil)))))
      (db_one (ds_put hr (de_var 2) (de_tup (da_cons (de_var 6) (da_cons (de_var 3) (da_cons (de_neg (de_var 7)) da_nil)))) (de_tup (da_cons (de_var 3) (da_cons (de_var 8) (da_cons (de_neg de_int) da_nil)))))))))))))
      (db_one (ds_ret (de_var 2))))), ?_⟩
  rintro ds M Q E ⟨n, ps, tn, sg, sa, rfl, ok, R, hs, q⟩
  have n8 := ok.hi
  have tl := R.tl
  have l28 := ok.pr.len28 n8
  simp only [jEnumU, dTupleK, dCatK, dBMT, dIdxK, dSlK, dRevK, dVar, dC, dOp, dTest, dII, dIC, dFld, dFldS, dMake, dppNil, dppCons, dMerge, dDisp, dCatL, dRg1, dLstRg, dChain, dEq, dAnd, dOr, dNot, dIfE, dNext, dSeq, dDrop, dRet, dIfS, dNever, hName, hNil, hCons, hTup, hSub, dAsg, dNil, dCons, dTup, dLst, dLstM, dIx, dSet, dCall, dwipe, dYes, jSeq, jRng1, jRng2, dCB, dLen, dListM, dTuple, dII2, dAbs, dInt, dBM0, dBM, dAppend, dPop, dPopAt, dAndV, dNotV, dNeg, dIn, dCat, dNoPart, dPart, dSl, dNewT, dIsi, dLc, dFor, dDc, dFrzA, jKeys, dDictZ, dSortTI, jZipM, if_true, if_false, ite_true, ite_false, Bool.false_eq_true, reduceIte, Bool.not_true, Bool.not_false, List.getElem?_cons_zero, List.getElem?_cons_succ, List.set_cons_zero, List.set_cons_succ, List.map_cons, List.map_nil, List.replicate, List.cons_append, List.nil_append, List.length_cons, List.length_nil, dstart]
  refine fun p hp => ⟨_, _, rfl, rfl, ?_⟩
  have spn : sa ≠ p := fun e => by rw [e, hp] at hs; cases hs
  refine dForI_of (fun i γ M' => ∃ (o3 o4 o5 o6 o7 o8 o9 : Option D) (ks : List Stp), γ = [some (.tup (tn.map krD)), some (.ref sa), some (.ref p), o3, o4, o5, o6, o7, o8, o9] ∧ M' = mset M p (.dT (ks.map (kvS ps tn sg))) ∧ ks.Nodup ∧ ks.length ≤ 200 * i ∧ ∀ s, s ∈ ks ↔ StpP n ps s ∧ s.2.1 < (i : Int)) ⟨none, none, none, none, none, none, none, [], rfl, rfl, List.nodup_nil, by simp, fun s => ⟨fun h => (nomatch h), fun h => (by have := h.1.b0; omega)⟩⟩ ?_ ?_
  · rintro i d γ M' hd ⟨o3, o4, o5, o6, o7, o8, o9, ks, rfl, rfl, nd, kl, km⟩
    obtain ⟨x, hx, rfl⟩ := enumD_get hd
    obtain ⟨r, hr, rfl⟩ := get_kr hx
    have ii := (List.getElem?_eq_some_iff.mp hr).1
    have pm := R.tp i r hr
    have rnd : r.Nodup := pm.nodup_iff.mpr (nbr_nodup ok.pr)
    have rl : r.length ≤ 56 := by rw [pm.length_eq]; have := nbr_len ps (i : Int); omega
    simp only [jEnumU, dTupleK, dCatK, dBMT, dIdxK, dSlK, dRevK, dVar, dC, dOp, dTest, dII, dIC, dFld, dFldS, dMake, dppNil, dppCons, dMerge, dDisp, dCatL, dRg1, dLstRg, dChain, dEq, dAnd, dOr, dNot, dIfE, dNext, dSeq, dDrop, dRet, dIfS, dNever, hName, hNil, hCons, hTup, hSub, dAsg, dNil, dCons, dTup, dLst, dLstM, dIx, dSet, dCall, dwipe, dYes, jSeq, jRng1, jRng2, dCB, dLen, dListM, dTuple, dII2, dAbs, dInt, dBM0, dBM, dAppend, dPop, dPopAt, dAndV, dNotV, dNeg, dIn, dCat, dNoPart, dPart, dSl, dNewT, dIsi, dLc, dFor, dDc, dFrzA, jKeys, dDictZ, dSortTI, jZipM, if_true, if_false, ite_true, ite_false, Bool.false_eq_true, reduceIte, Bool.not_true, Bool.not_false, List.getElem?_cons_zero, List.getElem?_cons_succ, List.set_cons_zero, List.set_cons_succ, List.map_cons, List.map_nil, List.replicate, List.cons_append, List.nil_append, List.length_cons, List.length_nil, dstart]
    refine ⟨trivial, _, _, rfl, rfl, ?_⟩
    refine dForI_of (fun j γ M' => ∃ (o5 o6 o7 o8 o9 : Option D) (ks : List Stp), γ = [some (.tup (tn.map krD)), some (.ref sa), some (.ref p), some (.int (i : Nat)), some (krD r), o5, o6, o7, o8, o9] ∧ M' = mset M p (.dT (ks.map (kvS ps tn sg))) ∧ ks.Nodup ∧ ks.length ≤ 200 * i + 2 * j ∧ ∀ s, s ∈ ks ↔ StpP n ps s ∧ (s.2.1 < (i : Int) ∨ s.2.1 = (i : Int) ∧ s.1 ∈ r.take j)) ⟨o5, o6, o7, o8, o9, ks, rfl, rfl, nd, by omega, fun s => by rw [km s]; simp⟩ ?_ ?_
    · clear km nd kl
      rintro j d γ M' hd ⟨o5, o6, o7, o8, o9, ks, rfl, rfl, nd, kl, km⟩
      obtain ⟨x, hx, rfl⟩ := enumD_get hd
      obtain ⟨c, hc, rfl⟩ := get_int hx
      have jl := (List.getElem?_eq_some_iff.mp hc).1
      have cn : c ∈ nbr ps (i : Int) := pm.mem_iff.mp (List.mem_of_getElem? hc)
      have mem := tie_mem ok.pr (nbr_comm.mp cn)
      have lk := sgn_look R.sl mem
      have sv := R.sgn mem
      have e1 : tn.getD (i : Int).toNat [] = r := by rw [List.getD_eq_getElem?_getD, Int.toNat_natCast, hr]; rfl
      have e2 : r.idxOf c = j := by
        obtain ⟨k, k1, k2, k3, k4⟩ := idx_at (List.mem_of_getElem? hc)
        have := (List.getElem?_inj k1 rnd).mp (k2.trans hc.symm)
        omega
      have e3 : sgnOf ps sg c (i : Int) = sgnOf ps sg (i : Int) c := sgn_comm _ _
      have b1 : stpD (behS ps tn sg (c, (i : Int), sgnOf ps sg (i : Int) c)) = .tup [.int (i : Int), .int (r.getD (((j : Int) + 1) % (r.length : Int)).toNat 0), .int 1] := by
        unfold behS stpD
        simp only [e1, e2, e3]
        have : sgnOf ps sg (i : Int) c * sgnOf ps sg (i : Int) c = 1 := by rcases sv with h | h <;> rw [h] <;> rfl
        rw [this]
      have b2 : stpD (behS ps tn sg (c, (i : Int), -sgnOf ps sg (i : Int) c)) = .tup [.int (i : Int), .int (r.getD (((j : Int) + -1) % (r.length : Int)).toNat 0), .int (-1)] := by
        unfold behS stpD
        simp only [e1, e2, e3]
        have : -sgnOf ps sg (i : Int) c * sgnOf ps sg (i : Int) c = -1 := by rcases sv with h | h <;> rw [h] <;> rfl
        rw [this]
      have q1 : (c : Int) < n ∧ 0 ≤ c := by
        rcases nbr_mem.mp cn with z | z
        · have := ok.pr.ok _ z; unfold prOk at this; simp only at this; omega
        · have := ok.pr.ok _ z; unfold prOk at this; simp only at this; omega
      simp only [jEnumU, dTupleK, dCatK, dBMT, dIdxK, dSlK, dRevK, dVar, dC, dOp, dTest, dII, dIC, dFld, dFldS, dMake, dppNil, dppCons, dMerge, dDisp, dCatL, dRg1, dLstRg, dChain, dEq, dAnd, dOr, dNot, dIfE, dNext, dSeq, dDrop, dRet, dIfS, dNever, hName, hNil, hCons, hTup, hSub, dAsg, dNil, dCons, dTup, dLst, dLstM, dIx, dSet, dCall, dwipe, dYes, jSeq, jRng1, jRng2, dCB, dLen, dListM, dTuple, dII2, dAbs, dInt, dBM0, dBM, dAppend, dPop, dPopAt, dAndV, dNotV, dNeg, dIn, dCat, dNoPart, dPart, dSl, dNewT, dIsi, dLc, dFor, dDc, dFrzA, jKeys, dDictZ, dSortTI, jZipM, if_true, if_false, ite_true, ite_false, Bool.false_eq_true, reduceIte, Bool.not_true, Bool.not_false, List.getElem?_cons_zero, List.getElem?_cons_succ, List.set_cons_zero, List.set_cons_succ, List.map_cons, List.map_nil, List.replicate, List.cons_append, List.nil_append, List.length_cons, List.length_nil, dstart]
      refine ⟨trivial, (i : Int), c, rfl, .int (sgnOf ps sg (i : Int) c), ?_, _, at_before jl, r.length, by simp only [lenV, krD, List.length_map], by omega, _, at_behind jl, by rw [sizeLine_eq]; decide, by rw [sizeLine_eq]; decide, _, (b1 ▸ store_fS (f := fun s => stpD (behS ps tn sg s)) mset_same (by omega) : _), by rw [sizeLine_eq]; decide, ?_⟩
      · simp only [dIxV, dLook, mset_ne spn, hs, prD, keysOf, keyOf, Option.map_some, lk]
        rfl
      simp only [mset_mset]
      have l2 := insS_len (ks := ks) (s := (c, (i : Int), sgnOf ps sg (i : Int) c))
      have l3 := insS_len (ks := insS ks (c, (i : Int), sgnOf ps sg (i : Int) c)) (s := (c, (i : Int), -sgnOf ps sg (i : Int) c))
      refine ⟨by rw [sizeLine_eq]; decide, _, (b2 ▸ store_fS (f := fun s => stpD (behS ps tn sg s)) mset_same (by omega) : _), _, _, _, _, _, _, rfl, mset_mset, insS_nd (insS_nd nd), by omega, fun s => ?_⟩
      rw [insS_mem, insS_mem, km s, take_succ_of hc, List.mem_append, List.mem_singleton]
      have sp : ∀ t, t = 1 ∨ t = -1 → StpP n ps (c, (i : Int), t) := fun t ht => ⟨⟨q1.2, q1.1⟩, ⟨by simp only; omega, by simp only; omega⟩, cn, ht⟩
      constructor
      · rintro ((⟨h1, h2⟩ | h) | h)
        · exact ⟨h1, h2.imp id fun h => ⟨h.1, .inl h.2⟩⟩
        · rw [h]; exact ⟨sp _ sv, .inr ⟨rfl, .inr rfl⟩⟩
        · rw [h]; exact ⟨sp _ (by rcases sv with h | h <;> rw [h] <;> decide), .inr ⟨rfl, .inr rfl⟩⟩
      · rintro ⟨h1, h2 | ⟨h2, h3 | h3⟩⟩
        · exact .inl (.inl ⟨h1, .inl h2⟩)
        · exact .inl (.inl ⟨h1, .inr ⟨h2, h3⟩⟩)
        · have ht := h1.t
          by_cases e : s.2.2 = sgnOf ps sg (i : Int) c
          · exact .inl (.inr (Prod.ext h3 (Prod.ext h2 e)))
          · exact .inr (Prod.ext h3 (Prod.ext h2 (by simp only; omega)))
    · rintro γ M' ⟨o5, o6, o7, o8, o9, ks, rfl, rfl, nd, kl, km⟩
      rw [enumD_len, List.length_map] at kl km
      refine ⟨_, _, _, _, _, _, _, ks, rfl, rfl, nd, by omega, fun s => ?_⟩
      rw [km s, List.take_length]
      constructor
      · rintro ⟨h1, h2 | h2⟩
        · exact ⟨h1, by omega⟩
        · exact ⟨h1, by omega⟩
      · rintro ⟨h1, h2⟩
        refine ⟨h1, ?_⟩
        by_cases e : s.2.1 = (i : Int)
        · exact .inr ⟨e, pm.mem_iff.mpr (e ▸ h1.nb)⟩
        · exact .inl (by omega)
  · rintro γ M' ⟨o3, o4, o5, o6, o7, o8, o9, ks, rfl, rfl, nd, kl, km⟩
    rw [enumD_len, List.length_map] at kl km
    simp only [jEnumU, dTupleK, dCatK, dBMT, dIdxK, dSlK, dRevK, dVar, dC, dOp, dTest, dII, dIC, dFld, dFldS, dMake, dppNil, dppCons, dMerge, dDisp, dCatL, dRg1, dLstRg, dChain, dEq, dAnd, dOr, dNot, dIfE, dNext, dSeq, dDrop, dRet, dIfS, dNever, hName, hNil, hCons, hTup, hSub, dAsg, dNil, dCons, dTup, dLst, dLstM, dIx, dSet, dCall, dwipe, dYes, jSeq, jRng1, jRng2, dCB, dLen, dListM, dTuple, dII2, dAbs, dInt, dBM0, dBM, dAppend, dPop, dPopAt, dAndV, dNotV, dNeg, dIn, dCat, dNoPart, dPart, dSl, dNewT, dIsi, dLc, dFor, dDc, dFrzA, jKeys, dDictZ, dSortTI, jZipM, if_true, if_false, ite_true, ite_false, Bool.false_eq_true, reduceIte, Bool.not_true, Bool.not_false, List.getElem?_cons_zero, List.getElem?_cons_succ, List.set_cons_zero, List.set_cons_succ, List.map_cons, List.map_nil, List.replicate, List.cons_append, List.nil_append, List.length_cons, List.length_nil, dstart]
    exact fin_self (q p ks hp nd (by omega) fun s => ⟨fun h => ((km s).mp h).1, fun h => (km s).mpr ⟨h, by have := h.b0; omega⟩⟩)
theorem sc_rounds_along : FnScope ["turning", "signs", "behind", "known", "found", "first", "row", "step"] ["turning", "signs"] (defScope s_rounds_along) := ⟨rfl, rfl, rfl, by decide +kernel, rfl, by decide +kernel, by decide +kernel⟩
def sp_rounds_along : DSp := fun ds M Q _ => ∃ (n : Int) (ps : List (Int × Int)) (tn : List (List Int)) (sg : List Int) (sa : Addr), ds = [.tup (tn.map krD), .ref sa] ∧ BookOk n ps ∧ Drw n ps tn sg ∧ M sa = some (.dT ((ps.map fun q => [.inl q.1, .inl q.2]).zip (sg.map .int))) ∧ ∀ (a : Addr) (rows : List (List Stp)) (M2 : Mp), M a = none → M2 a = some (.lst (rows.map rowS)) → Ext M M2 [] → Rnds n ps tn sg rows → Q (.ref a) M2
theorem c_rounds_along (F : DFun K mg "rounds_along" s_rounds_along ["turning", "signs"]) (B : Bn mg) (G : Gs mg) (c_steps_behind : DCal P w K mg base CX0 2 "steps_behind" sp_steps_behind) : DCal P w K mg base CX0 3 "rounds_along" sp_rounds_along := by
  refine dok F sc_rounds_along (fun ds M Q E h => (by obtain ⟨_, h⟩ := h; first | (obtain ⟨e, _⟩ := h; subst e; rfl) | (obtain ⟨_, e, _⟩ := h; subst e; rfl) | (obtain ⟨_, _, e, _⟩ := h; subst e; rfl) | (obtain ⟨_, _, _, e, _⟩ := h; subst e; rfl) | (obtain ⟨_, _, _, _, e, _⟩ := h; subst e; rfl) | (obtain ⟨_, _, _, _, _, e, _⟩ := h; subst e; rfl) | (obtain ⟨_, _, _, _, _, _, e, _⟩ := h; subst e; rfl) | (obtain ⟨_, _, _, _, _, _, _, e, _⟩ := h; subst e; rfl) | (obtain ⟨_, _, _, _, _, _, _, _, e, _⟩ := h; subst e; rfl) | (obtain ⟨_, _, _, _, _, _, _, _, _, e, _⟩ := h; subst e; rfl) | (obtain ⟨_, _, _, _, _, _, _, _, _, _, e, _⟩ := h; subst e; rfl) | (obtain ⟨_, _, _, _, _, _, _, _, _, _, _, e, _⟩ := h; subst e; rfl) | (obtain ⟨_, _, _, _, _, _, _, _, _, _, _, _, e, _⟩ := h; subst e; rfl) | (obtain ⟨_, _, _, _, _, _, _, _, _, _, _, _, _, e, _⟩ := h; subst e; rfl) | (obtain ⟨_, _, _, _, _, _, _, _, _, _, _, _, _, _, e, _⟩ := h; subst e; rfl) | (obtain ⟨_, _, _, _, _, _, _, _, _, _, _, _, _, _, _, e, _⟩ := h; subst e; rfl) | (obtain ⟨_, _, _, _, _, _, _, _, _, _, _, _, _, _, _, _, e, _⟩ := h; subst e; rfl) | (obtain ⟨_, _, _, _, _, _, _, _, _, _, _, _, _, _, _, _, _, e, _⟩ := h; subst e; rfl) | (obtain ⟨_, _, _, _, _, _, _, _, _, _, _, _, _, _, _, _, _, _, e, _⟩ := h; subst e; rfl) | (obtain ⟨_, _, _, _, _, _, _, _, _, _, _, _, _, _, _, _, _, _, _, e, _⟩ := h; subst e; rfl) | (obtain ⟨_, _, _, _, _, _, _, _, _, _, _, _, _, _, _, _, _, _, _, _, e, _⟩ := h; subst e; rfl) | (obtain ⟨_, _, _, _, _, _, _, _, _, _, _, _, _, _, _, _, _, _, _, _, _, e, _⟩ := h; subst e; rfl) | (obtain ⟨_, _, _, _, _, _, _, _, _, _, _, _, _, _, _, _, _, _, _, _, _, _, e, _⟩ := h; subst e; rfl) | (obtain ⟨_, _, _, _, _, _, _, _, _, _, _, _, _, _, _, _, _, _, _, _, _, _, _, e, _⟩ := h; subst e; rfl) | (obtain ⟨_, _, _, _, _, _, _, _, _, _, _, _, _, _, _, _, _, _, _, _, _, _, _, _, e, _⟩ := h; subst e; rfl) | (obtain ⟨_, _, _, _, _, _, _, _, _, _, _, _, _, _, _, _, _, _, _, _, _, _, _, _, _, e, _⟩ := h; subst e; rfl))) (fun f cdv A outer s H E F0 hr => ?_)
  have nd := (sc_rounds_along).nd
  refine ⟨_, _, (db_cons (ds_set 2 nd (de_call c_steps_behind hr (goes0A (E := DXK.no)) (da_cons (de_var 0) (da_cons (de_var 1) da_nil))))
      (db_cons (ds_set 3 nd de_newT)
      (db_cons (ds_set 4 nd (de_lstM da_nil))
      (db_frzA 2 (db_cons (ds_forL PassesOwn.never rfl (dil_keys (de_var 2)) (dg_name 5 nd) (db_one (ds_if (dt_notIn hr (de_var 5) (de_var 3)) (db_cons (ds_set 6 nd (de_lstM da_nil))
      (db_cons (ds_set 7 nd (de_var 5))
      (db_cons (ds_while PassesOwn.never (dt_notIn hr (de_var 7) (de_var 3)) (db_cons (ds_put hr (de_var 3) (de_var 7) de_bl)
      (db_cons (ds_expr (de_append (de_var 6) (da_cons (de_var 7) da_nil)))
      (db_one (ds_set 7 nd (de_ix hr (de_var 2) (de_var 7)))))))
      (db_frzA 6 (db_one (ds_expr (de_append (de_var 4) (da_cons (de_var 6) da_nil)))))))) db_nil)))
      (db_one (ds_ret (de_var 4)))))))), ?_⟩
  rintro ds M Q E ⟨n, ps, tn, sg, sa, rfl, ok, R, hs, q⟩
  have Mi := beh_mir ok R
  simp only [jEnumU, dTupleK, dCatK, dBMT, dIdxK, dSlK, dRevK, dVar, dC, dOp, dTest, dII, dIC, dFld, dFldS, dMake, dppNil, dppCons, dMerge, dDisp, dCatL, dRg1, dLstRg, dChain, dEq, dAnd, dOr, dNot, dIfE, dNext, dSeq, dDrop, dRet, dIfS, dNever, hName, hNil, hCons, hTup, hSub, dAsg, dNil, dCons, dTup, dLst, dLstM, dIx, dSet, dCall, dwipe, dYes, jSeq, jRng1, jRng2, dCB, dLen, dListM, dTuple, dII2, dAbs, dInt, dBM0, dBM, dAppend, dPop, dPopAt, dAndV, dNotV, dNeg, dIn, dCat, dNoPart, dPart, dSl, dNewT, dIsi, dLc, dFor, dDc, dFrzA, jKeys, dDictZ, dSortTI, jZipM, if_true, if_false, ite_true, ite_false, Bool.false_eq_true, reduceIte, Bool.not_true, Bool.not_false, List.getElem?_cons_zero, List.getElem?_cons_succ, List.set_cons_zero, List.set_cons_succ, List.map_cons, List.map_nil, List.replicate, List.cons_append, List.nil_append, List.length_cons, List.length_nil, dstart]
  refine ⟨n, ps, tn, sg, sa, rfl, ok, R, hs, fun a0 ks h0 knd k2 kmem p1 hp1 => ⟨by decide, fun p2 hp2 => ?_⟩⟩
  have n10 : p1 ≠ a0 := fun e => by rw [e, mset_same] at hp1; cases hp1
  have n21 : p2 ≠ p1 := fun e => by rw [e, mset_same] at hp2; cases hp2
  rw [mset_ne n21] at hp2
  have n20 : p2 ≠ a0 := fun e => by rw [e, mset_same] at hp2; cases hp2
  rw [mset_ne n10] at hp1
  rw [mset_ne n20] at hp2
  refine ⟨_, .dt ((ks.map (kvS ps tn sg)).map (·.1)) ((ks.map (kvS ps tn sg)).map (·.2)), _, rfl, by simp only [frzV, mset_ne n21.symm, mset_ne n10.symm, mset_ne n20.symm, mset_same]; rfl, ?_⟩
  simp only [if_true, if_false, ite_true, ite_false, Bool.false_eq_true, reduceIte, Bool.not_true, Bool.not_false, List.getElem?_cons_zero, List.getElem?_cons_succ, List.set_cons_zero, List.set_cons_succ, List.map_cons, List.map_nil, List.replicate, List.cons_append, List.nil_append, List.length_cons, List.length_nil, dstart]
  refine dForI_of (fun i γ M' => ∃ (o5 o6 o7 : Option D) (rows : List (List Stp)), γ = [some (.tup (tn.map krD)), some (.ref sa), some (.dt ((ks.map (kvS ps tn sg)).map (·.1)) ((ks.map (kvS ps tn sg)).map (·.2))), some (.ref p1), some (.ref p2), o5, o6, o7] ∧ RSt M M' p1 p2 rows.flatten rows ∧ (∀ r ∈ rows, Cyc (behS ps tn sg) r) ∧ rows.flatten.Nodup ∧ (∀ s ∈ rows.flatten, StpP n ps s) ∧ ∀ s ∈ ks.take i, s ∈ rows.flatten) ⟨none, none, none, [], rfl, ?_, fun r h => (nomatch h), List.nodup_nil, fun s h => (nomatch h), fun s h => (by simp at h)⟩ ?_ ?_
  · refine ⟨by rw [mdel_ne n10, mset_ne n21.symm, mset_same]; rfl, by rw [mdel_ne n20, mset_same]; rfl, ?_, n21.symm, hp1, hp2⟩
    intro b o _ hb
    have b0 : b ≠ a0 := fun e => by rw [e, h0] at hb; cases hb
    have b1 : b ≠ p1 := fun e => by rw [e, hp1] at hb; cases hb
    have b2 : b ≠ p2 := fun e => by rw [e, hp2] at hb; cases hb
    rw [mdel_ne b0, mset_ne b2, mset_ne b1, mset_ne b0]; exact hb
  · rintro i d γ M' hd ⟨o5, o6, o7, rows, rfl, W, cyc, nd, hS, hall⟩
    obtain ⟨s, hs', rfl⟩ := get_stp hd
    have sS : StpP n ps s := (kmem s).mp (List.mem_of_getElem? hs')
    simp only [jEnumU, dTupleK, dCatK, dBMT, dIdxK, dSlK, dRevK, dVar, dC, dOp, dTest, dII, dIC, dFld, dFldS, dMake, dppNil, dppCons, dMerge, dDisp, dCatL, dRg1, dLstRg, dChain, dEq, dAnd, dOr, dNot, dIfE, dNext, dSeq, dDrop, dRet, dIfS, dNever, hName, hNil, hCons, hTup, hSub, dAsg, dNil, dCons, dTup, dLst, dLstM, dIx, dSet, dCall, dwipe, dYes, jSeq, jRng1, jRng2, dCB, dLen, dListM, dTuple, dII2, dAbs, dInt, dBM0, dBM, dAppend, dPop, dPopAt, dAndV, dNotV, dNeg, dIn, dCat, dNoPart, dPart, dSl, dNewT, dIsi, dLc, dFor, dDc, dFrzA, jKeys, dDictZ, dSortTI, jZipM, if_true, if_false, ite_true, ite_false, Bool.false_eq_true, reduceIte, Bool.not_true, Bool.not_false, List.getElem?_cons_zero, List.getElem?_cons_succ, List.set_cons_zero, List.set_cons_succ, List.map_cons, List.map_nil, List.replicate, List.cons_append, List.nil_append, List.length_cons, List.length_nil, dstart]
    refine ⟨_, in_kvB W.k s, ?_⟩
    by_cases hk : s ∈ rows.flatten
    · rw [decide_eq_true hk]
      simp only [if_true, if_false, ite_true, ite_false, Bool.false_eq_true, reduceIte, Bool.not_true, Bool.not_false, List.getElem?_cons_zero, List.getElem?_cons_succ, List.set_cons_zero, List.set_cons_succ, List.map_cons, List.map_nil, List.replicate, List.cons_append, List.nil_append, List.length_cons, List.length_nil, dstart]
      refine ⟨_, _, _, rows, rfl, W, cyc, nd, hS, fun u hu => ?_⟩
      rw [take_succ_of hs', List.mem_append, List.mem_singleton] at hu
      rcases hu with z | z
      · exact hall u z
      · rw [z]; exact hk
    rw [decide_eq_false hk]
    simp only [if_true, if_false, ite_true, ite_false, Bool.false_eq_true, reduceIte, Bool.not_true, Bool.not_false, List.getElem?_cons_zero, List.getElem?_cons_succ, List.set_cons_zero, List.set_cons_succ, List.map_cons, List.map_nil, List.replicate, List.cons_append, List.nil_append, List.length_cons, List.length_nil, dstart]
    refine ⟨by decide, fun p3 hp3 => ?_⟩
    have n31 : p3 ≠ p1 := fun e => by rw [e, W.k] at hp3; cases hp3
    have n32 : p3 ≠ p2 := fun e => by rw [e, W.f] at hp3; cases hp3
    have f3 : M p3 = none := W.ex.fresh (by simp) hp3
    refine ⟨fun m γ M2 => ∃ (y : Stp) (r : List Stp), γ = [some (.tup (tn.map krD)), some (.ref sa), some (.dt ((ks.map (kvS ps tn sg)).map (·.1)) ((ks.map (kvS ps tn sg)).map (·.2))), some (.ref p1), some (.ref p2), some (stpD s), some (.ref p3), some (stpD y)] ∧ r.length + m = ks.length + 1 ∧ RSt M M2 p1 p2 (rows.flatten ++ r) rows ∧ M2 p3 = some (.lst (r.map stpD)) ∧ Wlk (behS ps tn sg) s r y ∧ (rows.flatten ++ r).Nodup ∧ (∀ a ∈ r, StpP n ps a ∧ a ∉ rows.flatten) ∧ StpP n ps y, ⟨ks.length + 1, s, [], rfl, by simp, ⟨by rw [mset_ne n31.symm, List.append_nil]; exact W.k, by rw [mset_ne n32.symm]; exact W.f, W.ex.mset f3, W.ne, W.f1, W.f2⟩, mset_same, Wlk.nil s, by rw [List.append_nil]; exact nd, fun a h => (nomatch h), sS⟩, ?_⟩
    clear W hp3 hd
    rintro m γ M2 ⟨y, r, rfl, hm, W, h3, wk, rnd, rS, yS⟩
    simp only [jEnumU, dTupleK, dCatK, dBMT, dIdxK, dSlK, dRevK, dVar, dC, dOp, dTest, dII, dIC, dFld, dFldS, dMake, dppNil, dppCons, dMerge, dDisp, dCatL, dRg1, dLstRg, dChain, dEq, dAnd, dOr, dNot, dIfE, dNext, dSeq, dDrop, dRet, dIfS, dNever, hName, hNil, hCons, hTup, hSub, dAsg, dNil, dCons, dTup, dLst, dLstM, dIx, dSet, dCall, dwipe, dYes, jSeq, jRng1, jRng2, dCB, dLen, dListM, dTuple, dII2, dAbs, dInt, dBM0, dBM, dAppend, dPop, dPopAt, dAndV, dNotV, dNeg, dIn, dCat, dNoPart, dPart, dSl, dNewT, dIsi, dLc, dFor, dDc, dFrzA, jKeys, dDictZ, dSortTI, jZipM, if_true, if_false, ite_true, ite_false, Bool.false_eq_true, reduceIte, Bool.not_true, Bool.not_false, List.getElem?_cons_zero, List.getElem?_cons_succ, List.set_cons_zero, List.set_cons_succ, List.map_cons, List.map_nil, List.replicate, List.cons_append, List.nil_append, List.length_cons, List.length_nil, dstart]
    refine ⟨_, in_kvB W.k y, ?_⟩
    have kl : (rows.flatten ++ r).length ≤ ks.length := nodup_lenG rnd fun x hx => (kmem x).mpr (by
      rcases List.mem_append.mp hx with z | z
      · exact hS x z
      · exact (rS x z).1)
    rw [List.length_append] at kl
    by_cases hy : y ∈ rows.flatten ++ r
    · rw [decide_eq_true hy]
      simp only [if_true, if_false, ite_true, ite_false, Bool.false_eq_true, reduceIte, Bool.not_true, Bool.not_false, List.getElem?_cons_zero, List.getElem?_cons_succ, List.set_cons_zero, List.set_cons_succ, List.map_cons, List.map_nil, List.replicate, List.cons_append, List.nil_append, List.length_cons, List.length_nil, dstart]
      have rne : r ≠ [] := fun e => by
        subst e
        have h0 := wk.hd
        simp at h0
        rw [h0, List.append_nil] at hy
        exact hk hy
      have yf := cyc_more (S := StpP n ps) cyc Mi.inj hS wk (fun a ha => (rS a ha).1) (fun a ha => (rS a ha).2) rne
      have yr : y ∈ r := (List.mem_append.mp hy).resolve_left yf
      have ys := wk.back (S := StpP n ps) Mi.inj (fun a ha => (rS a ha).1) yr
      subst ys
      have cr := wk.close rne
      have rle := rows_le (fun r hr => (cyc r hr).ne)
      refine ⟨_, rowS r, mdel M2 p3, rfl, by simp only [frzV, h3]; rfl, ?_⟩
      have g2 : mdel M2 p3 p2 = some (.lst (rows.map rowS)) := by rw [mdel_ne n32.symm]; exact W.f
      have fe : (rows ++ [r]).flatten = rows.flatten ++ r := by rw [List.flatten_append, List.flatten_singleton]
      simp only [tyD, g2]
      refine ⟨trivial, by rw [List.length_map]; exact len_lt (by omega), _, _, _, rows ++ [r], rfl, ?_, fun u hu => ?_, by rw [fe]; exact rnd, fun u hu => ?_, fun u hu => ?_⟩
      · refine ⟨by rw [mset_ne W.ne, mdel_ne n31.symm, fe]; exact W.k, by rw [mset_same, List.map_append]; rfl, (W.ex.mdel f3).mset W.f2, W.ne, W.f1, W.f2⟩
      · rcases List.mem_append.mp hu with z | z
        · exact cyc u z
        · rw [List.mem_singleton.mp z]; exact cr
      · rw [fe] at hu
        rcases List.mem_append.mp hu with z | z
        · exact hS u z
        · exact (rS u z).1
      · rw [fe, List.mem_append]
        rw [take_succ_of hs', List.mem_append, List.mem_singleton] at hu
        rcases hu with z | z
        · exact .inl (hall u z)
        · exact .inr (z ▸ yr)
    · rw [decide_eq_false hy]
      simp only [if_true, if_false, ite_true, ite_false, Bool.false_eq_true, reduceIte, Bool.not_true, Bool.not_false, List.getElem?_cons_zero, List.getElem?_cons_succ, List.set_cons_zero, List.set_cons_succ, List.map_cons, List.map_nil, List.replicate, List.cons_append, List.nil_append, List.length_cons, List.length_nil, dstart]
      have hyf : y ∉ rows.flatten := fun z => hy (List.mem_append_left _ z)
      have hyr : y ∉ r := fun z => hy (List.mem_append_right _ z)
      have st := store_fS (f := fun _ => D.bl true) (a := y.1) (b := y.2.1) (t := y.2.2) W.k (by rw [List.length_append]; omega)
      rw [show insS (rows.flatten ++ r) (y.1, y.2.1, y.2.2) = rows.flatten ++ (r ++ [y]) by
        unfold insS
        rw [if_neg hy, List.append_assoc]] at st
      refine ⟨_, st, ?_⟩
      have g3 : mset M2 p1 (.dT ((rows.flatten ++ (r ++ [y])).map kvB)) p3 = some (.lst (r.map stpD)) := by rw [mset_ne n31]; exact h3
      simp only [tyD, g3]
      refine ⟨trivial, by rw [List.length_map]; exact len_lt (by omega), _, dt_look ((kmem y).mpr yS), m - 1, ?_, _, r ++ [y], rfl, ?_, ?_, by rw [mset_same, List.map_append]; rfl, wk.step hyr, ?_, fun a ha => ?_, beh_to ok R yS⟩
      · have : (rows.flatten ++ (r ++ [y])).length ≤ ks.length := nodup_lenG (by
          rw [← List.append_assoc, List.nodup_append]
          exact ⟨rnd, by simp, fun a ha b hb => by
            rw [List.mem_singleton.mp hb]
            exact fun z => hy (z ▸ ha)⟩) fun x hx => (kmem x).mpr (by
            rw [← List.append_assoc, List.mem_append] at hx
            rcases hx with z | z
            · rcases List.mem_append.mp z with z | z
              · exact hS x z
              · exact (rS x z).1
            · rw [List.mem_singleton.mp z]; exact yS)
        simp at this
        omega
      · have := kl
        rw [List.length_append, List.length_singleton]
        omega
      · refine ⟨by rw [mset_ne n31.symm, mset_same], by rw [mset_ne n32.symm, mset_ne W.ne.symm]; exact W.f, (W.ex.mset W.f1).mset f3, W.ne, W.f1, W.f2⟩
      · rw [← List.append_assoc, List.nodup_append]
        exact ⟨rnd, by simp, fun a ha b hb => by
          rw [List.mem_singleton.mp hb]
          exact fun z => hy (z ▸ ha)⟩
      · rcases List.mem_append.mp ha with z | z
        · exact rS a z
        · rw [List.mem_singleton.mp z]; exact ⟨yS, hyf⟩
  · rintro γ M' ⟨o5, o6, o7, rows, rfl, W, cyc, nd, hS, hall⟩
    simp only [jEnumU, dTupleK, dCatK, dBMT, dIdxK, dSlK, dRevK, dVar, dC, dOp, dTest, dII, dIC, dFld, dFldS, dMake, dppNil, dppCons, dMerge, dDisp, dCatL, dRg1, dLstRg, dChain, dEq, dAnd, dOr, dNot, dIfE, dNext, dSeq, dDrop, dRet, dIfS, dNever, hName, hNil, hCons, hTup, hSub, dAsg, dNil, dCons, dTup, dLst, dLstM, dIx, dSet, dCall, dwipe, dYes, jSeq, jRng1, jRng2, dCB, dLen, dListM, dTuple, dII2, dAbs, dInt, dBM0, dBM, dAppend, dPop, dPopAt, dAndV, dNotV, dNeg, dIn, dCat, dNoPart, dPart, dSl, dNewT, dIsi, dLc, dFor, dDc, dFrzA, jKeys, dDictZ, dSortTI, jZipM, if_true, if_false, ite_true, ite_false, Bool.false_eq_true, reduceIte, Bool.not_true, Bool.not_false, List.getElem?_cons_zero, List.getElem?_cons_succ, List.set_cons_zero, List.set_cons_succ, List.map_cons, List.map_nil, List.replicate, List.cons_append, List.nil_append, List.length_cons, List.length_nil, dstart]
    refine fin_self (q p2 rows M' W.f2 W.f W.ex ⟨cyc, nd, fun x => ⟨hS x, fun h => hall x ?_⟩⟩)
    rw [List.length_map, List.length_map, List.length_map, List.take_length]
    exact (kmem x).mpr h
theorem sc_signs_by_tie : FnScope ["book", "drawing"] ["book", "drawing"] (defScope s_signs_by_tie) := ⟨rfl, rfl, rfl, by decide +kernel, rfl, by decide +kernel, by decide +kernel⟩
def sp_signs_by_tie (C_TB : Addr) : DSp := fun ds M Q _ => ∃ b n ps d tn sg, ds = [.ref b, drwD tn sg] ∧ BookAt C_TB M b n ps d ∧ Drw n ps tn sg ∧ ∀ a, M a = none → Q (.ref a) (mset M a (.dT ((ps.map fun q => [.inl q.1, .inl q.2]).zip (sg.map .int))))
theorem c_signs_by_tie {C_TB : Addr} (F : DFun K mg "signs_by_tie" s_signs_by_tie ["book", "drawing"]) (B : Bn mg) (G : Gs mg) (TB : Cl_TB K mg C_TB) : DCal P w K mg base CX0 1 "signs_by_tie" (sp_signs_by_tie C_TB) := by
  refine dok F sc_signs_by_tie (fun ds M Q E h => (by obtain ⟨_, h⟩ := h; first | (obtain ⟨e, _⟩ := h; subst e; rfl) | (obtain ⟨_, e, _⟩ := h; subst e; rfl) | (obtain ⟨_, _, e, _⟩ := h; subst e; rfl) | (obtain ⟨_, _, _, e, _⟩ := h; subst e; rfl) | (obtain ⟨_, _, _, _, e, _⟩ := h; subst e; rfl) | (obtain ⟨_, _, _, _, _, e, _⟩ := h; subst e; rfl) | (obtain ⟨_, _, _, _, _, _, e, _⟩ := h; subst e; rfl) | (obtain ⟨_, _, _, _, _, _, _, e, _⟩ := h; subst e; rfl) | (obtain ⟨_, _, _, _, _, _, _, _, e, _⟩ := h; subst e; rfl) | (obtain ⟨_, _, _, _, _, _, _, _, _, e, _⟩ := h; subst e; rfl) | (obtain ⟨_, _, _, _, _, _, _, _, _, _, e, _⟩ := h; subst e; rfl) | (obtain ⟨_, _, _, _, _, _, _, _, _, _, _, e, _⟩ := h; subst e; rfl) | (obtain ⟨_, _, _, _, _, _, _, _, _, _, _, _, e, _⟩ := h; subst e; rfl) | (obtain ⟨_, _, _, _, _, _, _, _, _, _, _, _, _, e, _⟩ := h; subst e; rfl) | (obtain ⟨_, _, _, _, _, _, _, _, _, _, _, _, _, _, e, _⟩ := h; subst e; rfl) | (obtain ⟨_, _, _, _, _, _, _, _, _, _, _, _, _, _, _, e, _⟩ := h; subst e; rfl) | (obtain ⟨_, _, _, _, _, _, _, _, _, _, _, _, _, _, _, _, e, _⟩ := h; subst e; rfl) | (obtain ⟨_, _, _, _, _, _, _, _, _, _, _, _, _, _, _, _, _, e, _⟩ := h; subst e; rfl) | (obtain ⟨_, _, _, _, _, _, _, _, _, _, _, _, _, _, _, _, _, _, e, _⟩ := h; subst e; rfl) | (obtain ⟨_, _, _, _, _, _, _, _, _, _, _, _, _, _, _, _, _, _, _, e, _⟩ := h; subst e; rfl) | (obtain ⟨_, _, _, _, _, _, _, _, _, _, _, _, _, _, _, _, _, _, _, _, e, _⟩ := h; subst e; rfl) | (obtain ⟨_, _, _, _, _, _, _, _, _, _, _, _, _, _, _, _, _, _, _, _, _, e, _⟩ := h; subst e; rfl) | (obtain ⟨_, _, _, _, _, _, _, _, _, _, _, _, _, _, _, _, _, _, _, _, _, _, e, _⟩ := h; subst e; rfl) | (obtain ⟨_, _, _, _, _, _, _, _, _, _, _, _, _, _, _, _, _, _, _, _, _, _, _, e, _⟩ := h; subst e; rfl) | (obtain ⟨_, _, _, _, _, _, _, _, _, _, _, _, _, _, _, _, _, _, _, _, _, _, _, _, e, _⟩ := h; subst e; rfl) | (obtain ⟨_, _, _, _, _, _, _, _, _, _, _, _, _, _, _, _, _, _, _, _, _, _, _, _, _, e, _⟩ := h; subst e; rfl))) (fun f cdv A outer s H E F0 hr => ?_)
  have nd := (sc_signs_by_tie).nd
  refine ⟨_, _, (db_one (ds_ret (de_dictZ hr.units B.dict B.zip (da_cons (de_fld TB.cl TB.n_kept_ties (de_var 0)) (da_cons (de_ix hr (de_var 1) de_int) da_nil))))), ?_⟩
  rintro ds M Q E ⟨b, n, ps, d, tn, sg, rfl, B, R, q⟩
  have sl := R.sl
  simp only [jEnumU, dTupleK, dCatK, dBMT, dIdxK, dSlK, dRevK, dVar, dC, dOp, dTest, dII, dIC, dFld, dFldS, dMake, dppNil, dppCons, dMerge, dDisp, dCatL, dRg1, dLstRg, dChain, dEq, dAnd, dOr, dNot, dIfE, dNext, dSeq, dDrop, dRet, dIfS, dNever, hName, hNil, hCons, hTup, hSub, dAsg, dNil, dCons, dTup, dLst, dLstM, dIx, dSet, dCall, dwipe, dYes, jSeq, jRng1, jRng2, dCB, dLen, dListM, dTuple, dII2, dAbs, dInt, dBM0, dBM, dAppend, dPop, dPopAt, dAndV, dNotV, dNeg, dIn, dCat, dNoPart, dPart, dSl, dNewT, dIsi, dLc, dFor, dDc, dFrzA, jKeys, dDictZ, dSortTI, jZipM, if_true, if_false, ite_true, ite_false, Bool.false_eq_true, reduceIte, Bool.not_true, Bool.not_false, List.getElem?_cons_zero, List.getElem?_cons_succ, List.set_cons_zero, List.set_cons_succ, List.map_cons, List.map_nil, List.replicate, List.cons_append, List.nil_append, List.length_cons, List.length_nil, dstart, drwD]
  simp only [B.ob]
  refine ⟨trivial, .kt (ps.map prD), rfl, .tup (sg.map .int), ixT_at (k := 1) rfl rfl, .kt (ps.map prD), ps.map prD, sg.map .int, ps.map fun q => [.inl q.1, .inl q.2], rfl, rfl, by rw [List.length_map, List.length_map]; omega, ?_, ?_, fun a ha => fin_self (q a ha)⟩
  · exact keysL_prs ps
  · refine List.pairwise_map.mpr (B.ok.pr.lt.imp ?_)
    rintro ⟨a, b⟩ ⟨c, d⟩ h e
    injection e with e1 e2
    injection e2 with e2
    injection e1 with e1
    injection e2 with e2
    unfold prLt at h
    simp only at h
    omega
theorem sc_rounds_of : FnScope ["book", "drawing"] ["book", "drawing"] (defScope s_rounds_of) := ⟨rfl, rfl, rfl, by decide +kernel, rfl, by decide +kernel, by decide +kernel⟩
def sp_rounds_of (C_TB : Addr) : DSp := fun ds M Q _ => ∃ b n ps d tn sg, ds = [.ref b, drwD tn sg] ∧ BookAt C_TB M b n ps d ∧ Drw n ps tn sg ∧ ∀ (a : Addr) (rows : List (List Stp)) (M2 : Mp), M a = none → M2 a = some (.lst (rows.map rowS)) → Ext M M2 [] → Rnds n ps tn sg rows → Q (.ref a) M2
theorem c_rounds_of {C_TB : Addr} (F : DFun K mg "rounds_of" s_rounds_of ["book", "drawing"]) (B : Bn mg) (G : Gs mg) (c_rounds_along : DCal P w K mg base CX0 3 "rounds_along" sp_rounds_along) (c_signs_by_tie : DCal P w K mg base CX0 1 "signs_by_tie" (sp_signs_by_tie C_TB)) : DCal P w K mg base CX0 4 "rounds_of" (sp_rounds_of C_TB) := by
  refine dok F sc_rounds_of (fun ds M Q E h => (by obtain ⟨_, h⟩ := h; first | (obtain ⟨e, _⟩ := h; subst e; rfl) | (obtain ⟨_, e, _⟩ := h; subst e; rfl) | (obtain ⟨_, _, e, _⟩ := h; subst e; rfl) | (obtain ⟨_, _, _, e, _⟩ := h; subst e; rfl) | (obtain ⟨_, _, _, _, e, _⟩ := h; subst e; rfl) | (obtain ⟨_, _, _, _, _, e, _⟩ := h; subst e; rfl) | (obtain ⟨_, _, _, _, _, _, e, _⟩ := h; subst e; rfl) | (obtain ⟨_, _, _, _, _, _, _, e, _⟩ := h; subst e; rfl) | (obtain ⟨_, _, _, _, _, _, _, _, e, _⟩ := h; subst e; rfl) | (obtain ⟨_, _, _, _, _, _, _, _, _, e, _⟩ := h; subst e; rfl) | (obtain ⟨_, _, _, _, _, _, _, _, _, _, e, _⟩ := h; subst e; rfl) | (obtain ⟨_, _, _, _, _, _, _, _, _, _, _, e, _⟩ := h; subst e; rfl) | (obtain ⟨_, _, _, _, _, _, _, _, _, _, _, _, e, _⟩ := h; subst e; rfl) | (obtain ⟨_, _, _, _, _, _, _, _, _, _, _, _, _, e, _⟩ := h; subst e; rfl) | (obtain ⟨_, _, _, _, _, _, _, _, _, _, _, _, _, _, e, _⟩ := h; subst e; rfl) | (obtain ⟨_, _, _, _, _, _, _, _, _, _, _, _, _, _, _, e, _⟩ := h; subst e; rfl) | (obtain ⟨_, _, _, _, _, _, _, _, _, _, _, _, _, _, _, _, e, _⟩ := h; subst e; rfl) | (obtain ⟨_, _, _, _, _, _, _, _, _, _, _, _, _, _, _, _, _, e, _⟩ := h; subst e; rfl) | (obtain ⟨_, _, _, _, _, _, _, _, _, _, _, _, _, _, _, _, _, _, e, _⟩ := h; subst e; rfl) | (obtain ⟨_, _, _, _, _, _, _, _, _, _, _, _, _, _, _, _, _, _, _, e, _⟩ := h; subst e; rfl) | (obtain ⟨_, _, _, _, _, _, _, _, _, _, _, _, _, _, _, _, _, _, _, _, e, _⟩ := h; subst e; rfl) | (obtain ⟨_, _, _, _, _, _, _, _, _, _, _, _, _, _, _, _, _, _, _, _, _, e, _⟩ := h; subst e; rfl) | (obtain ⟨_, _, _, _, _, _, _, _, _, _, _, _, _, _, _, _, _, _, _, _, _, _, e, _⟩ := h; subst e; rfl) | (obtain ⟨_, _, _, _, _, _, _, _, _, _, _, _, _, _, _, _, _, _, _, _, _, _, _, e, _⟩ := h; subst e; rfl) | (obtain ⟨_, _, _, _, _, _, _, _, _, _, _, _, _, _, _, _, _, _, _, _, _, _, _, _, e, _⟩ := h; subst e; rfl) | (obtain ⟨_, _, _, _, _, _, _, _, _, _, _, _, _, _, _, _, _, _, _, _, _, _, _, _, _, e, _⟩ := h; subst e; rfl))) (fun f cdv A outer s H E F0 hr => ?_)
  have nd := (sc_rounds_of).nd
  refine ⟨_, _, (db_one (ds_ret (de_call c_rounds_along hr (goes0A (E := DXK.no)) (da_cons (de_ix hr (de_var 1) de_int) (da_cons (de_call c_signs_by_tie hr (goes0A (E := DXK.no)) (da_cons (de_var 0) (da_cons (de_var 1) da_nil))) da_nil))))), ?_⟩
  rintro ds M Q E ⟨b, n, ps, d, tn, sg, rfl, B, R, q⟩
  simp only [jEnumU, dTupleK, dCatK, dBMT, dIdxK, dSlK, dRevK, dVar, dC, dOp, dTest, dII, dIC, dFld, dFldS, dMake, dppNil, dppCons, dMerge, dDisp, dCatL, dRg1, dLstRg, dChain, dEq, dAnd, dOr, dNot, dIfE, dNext, dSeq, dDrop, dRet, dIfS, dNever, hName, hNil, hCons, hTup, hSub, dAsg, dNil, dCons, dTup, dLst, dLstM, dIx, dSet, dCall, dwipe, dYes, jSeq, jRng1, jRng2, dCB, dLen, dListM, dTuple, dII2, dAbs, dInt, dBM0, dBM, dAppend, dPop, dPopAt, dAndV, dNotV, dNeg, dIn, dCat, dNoPart, dPart, dSl, dNewT, dIsi, dLc, dFor, dDc, dFrzA, jKeys, dDictZ, dSortTI, jZipM, if_true, if_false, ite_true, ite_false, Bool.false_eq_true, reduceIte, Bool.not_true, Bool.not_false, List.getElem?_cons_zero, List.getElem?_cons_succ, List.set_cons_zero, List.set_cons_succ, List.map_cons, List.map_nil, List.replicate, List.cons_append, List.nil_append, List.length_cons, List.length_nil, dstart, drwD]
  refine ⟨.tup (tn.map krD), ixT_at (k := 0) rfl rfl, b, n, ps, d, tn, sg, rfl, B, R, fun a ha => ?_⟩
  refine ⟨n, ps, tn, sg, a, rfl, B.ok, R, mset_same, fun a2 rows M2 h1 h2 h3 h4 => fin_self (q a2 rows M2 ?_ h2 ?_ h4)⟩
  · by_cases e : a2 = a
    · rw [e]; exact ha
    · rwa [mset_ne e] at h1
  · intro c o _ hc
    exact h3 c o (by simp) (by rw [mset_ne (fun e => by rw [e, ha] at hc; cases hc)]; exact hc)
theorem sc_rims_of : FnScope ["book", "drawing"] ["book", "drawing"] (defScope s_rims_of) := ⟨rfl, rfl, rfl, by decide +kernel, rfl, by decide +kernel, by decide +kernel⟩
def sp_rims_of (C_TB : Addr) : DSp := fun ds M Q _ => ∃ b n ps d tn sg, ds = [.ref b, drwD tn sg] ∧ BookAt C_TB M b n ps d ∧ Drw n ps tn sg ∧ ∀ (r : Int) (M2 : Mp), Ext M M2 [] → (ps = [] → r = 1) → (ps ≠ [] → ∃ rows, Rnds n ps tn sg rows ∧ r = ((rows.length / 2 : Nat) : Int)) → Q (.int r) M2
theorem c_rims_of {C_TB : Addr} (F : DFun K mg "rims_of" s_rims_of ["book", "drawing"]) (B : Bn mg) (G : Gs mg) (TB : Cl_TB K mg C_TB) (c_rounds_of : DCal P w K mg base CX0 4 "rounds_of" (sp_rounds_of C_TB)) : DCal P w K mg base CX0 5 "rims_of" (sp_rims_of C_TB) := by
  refine dok F sc_rims_of (fun ds M Q E h => (by obtain ⟨_, h⟩ := h; first | (obtain ⟨e, _⟩ := h; subst e; rfl) | (obtain ⟨_, e, _⟩ := h; subst e; rfl) | (obtain ⟨_, _, e, _⟩ := h; subst e; rfl) | (obtain ⟨_, _, _, e, _⟩ := h; subst e; rfl) | (obtain ⟨_, _, _, _, e, _⟩ := h; subst e; rfl) | (obtain ⟨_, _, _, _, _, e, _⟩ := h; subst e; rfl) | (obtain ⟨_, _, _, _, _, _, e, _⟩ := h; subst e; rfl) | (obtain ⟨_, _, _, _, _, _, _, e, _⟩ := h; subst e; rfl) | (obtain ⟨_, _, _, _, _, _, _, _, e, _⟩ := h; subst e; rfl) | (obtain ⟨_, _, _, _, _, _, _, _, _, e, _⟩ := h; subst e; rfl) | (obtain ⟨_, _, _, _, _, _, _, _, _, _, e, _⟩ := h; subst e; rfl) | (obtain ⟨_, _, _, _, _, _, _, _, _, _, _, e, _⟩ := h; subst e; rfl) | (obtain ⟨_, _, _, _, _, _, _, _, _, _, _, _, e, _⟩ := h; subst e; rfl) | (obtain ⟨_, _, _, _, _, _, _, _, _, _, _, _, _, e, _⟩ := h; subst e; rfl) | (obtain ⟨_, _, _, _, _, _, _, _, _, _, _, _, _, _, e, _⟩ := h; subst e; rfl) | (obtain ⟨_, _, _, _, _, _, _, _, _, _, _, _, _, _, _, e, _⟩ := h; subst e; rfl) | (obtain ⟨_, _, _, _, _, _, _, _, _, _, _, _, _, _, _, _, e, _⟩ := h; subst e; rfl) | (obtain ⟨_, _, _, _, _, _, _, _, _, _, _, _, _, _, _, _, _, e, _⟩ := h; subst e; rfl) | (obtain ⟨_, _, _, _, _, _, _, _, _, _, _, _, _, _, _, _, _, _, e, _⟩ := h; subst e; rfl) | (obtain ⟨_, _, _, _, _, _, _, _, _, _, _, _, _, _, _, _, _, _, _, e, _⟩ := h; subst e; rfl) | (obtain ⟨_, _, _, _, _, _, _, _, _, _, _, _, _, _, _, _, _, _, _, _, e, _⟩ := h; subst e; rfl) | (obtain ⟨_, _, _, _, _, _, _, _, _, _, _, _, _, _, _, _, _, _, _, _, _, e, _⟩ := h; subst e; rfl) | (obtain ⟨_, _, _, _, _, _, _, _, _, _, _, _, _, _, _, _, _, _, _, _, _, _, e, _⟩ := h; subst e; rfl) | (obtain ⟨_, _, _, _, _, _, _, _, _, _, _, _, _, _, _, _, _, _, _, _, _, _, _, e, _⟩ := h; subst e; rfl) | (obtain ⟨_, _, _, _, _, _, _, _, _, _, _, _, _, _, _, _, _, _, _, _, _, _, _, _, e, _⟩ := h; subst e; rfl) | (obtain ⟨_, _, _, _, _, _, _, _, _, _, _, _, _, _, _, _, _, _, _, _, _, _, _, _, _, e, _⟩ := h; subst e; rfl))) (fun f cdv A outer s H E F0 hr => ?_)
  have nd := (sc_rims_of).nd
  refine ⟨_, _, (db_cons (ds_if (dt_eq hr (de_len B.len (da_cons (de_fld TB.cl TB.n_kept_ties (de_var 0)) da_nil)) de_int) (db_one (ds_ret de_int)) db_nil)
      (db_one (ds_ret (de_fdiv (de_len B.len (da_cons (de_call c_rounds_of hr (goes0A (E := DXK.no)) (da_cons (de_var 0) (da_cons (de_var 1) da_nil))) da_nil)) de_int)))), ?_⟩
  rintro ds M Q E ⟨b, n, ps, d, tn, sg, rfl, B, R, q⟩
  simp only [jEnumU, dTupleK, dCatK, dBMT, dIdxK, dSlK, dRevK, dVar, dC, dOp, dTest, dII, dIC, dFld, dFldS, dMake, dppNil, dppCons, dMerge, dDisp, dCatL, dRg1, dLstRg, dChain, dEq, dAnd, dOr, dNot, dIfE, dNext, dSeq, dDrop, dRet, dIfS, dNever, hName, hNil, hCons, hTup, hSub, dAsg, dNil, dCons, dTup, dLst, dLstM, dIx, dSet, dCall, dwipe, dYes, jSeq, jRng1, jRng2, dCB, dLen, dListM, dTuple, dII2, dAbs, dInt, dBM0, dBM, dAppend, dPop, dPopAt, dAndV, dNotV, dNeg, dIn, dCat, dNoPart, dPart, dSl, dNewT, dIsi, dLc, dFor, dDc, dFrzA, jKeys, dDictZ, dSortTI, jZipM, if_true, if_false, ite_true, ite_false, Bool.false_eq_true, reduceIte, Bool.not_true, Bool.not_false, List.getElem?_cons_zero, List.getElem?_cons_succ, List.set_cons_zero, List.set_cons_succ, List.map_cons, List.map_nil, List.replicate, List.cons_append, List.nil_append, List.length_cons, List.length_nil, dstart]
  simp only [B.ob]
  have l28 := B.ok.pr.len28 B.ok.hi
  refine ⟨trivial, .kt (ps.map prD), rfl, ps.length, by simp only [lenV, List.length_map], rfl, rfl, ?_⟩
  rw [D.eq_int]
  by_cases z : ps = []
  · rw [if_pos (by subst z; rfl)]
    exact fin_self (q 1 M (Ext.refl M []) (fun _ => rfl) fun h => absurd z h)
  · have := List.length_pos_iff.mpr z
    rw [if_neg (by simp; omega)]
    refine ⟨b, n, ps, d, tn, sg, rfl, B, R, fun a rows M2 h1 h2 h3 h4 => ⟨rows.length, by simp only [lenV, h2, List.length_map], ⟨by decide, by decide⟩, fin_self (q _ M2 h3 (fun h => absurd h z) fun _ => ⟨rows, h4, ?_⟩)⟩⟩
    omega
theorem sc_rims : FnScope ["book", "drawing"] ["book", "drawing"] (defScope s_rims) := ⟨rfl, rfl, rfl, by decide +kernel, rfl, by decide +kernel, by decide +kernel⟩
def sp_rims (C_TB : Addr) : DSp := fun ds M Q _ => ∃ b n ps d tn sg, ds = [.ref b, drwD tn sg] ∧ BookAt C_TB M b n ps d ∧ Drw n ps tn sg ∧ ∀ (r : Int) (M2 : Mp), Ext M M2 [] → (ps = [] → r = 1) → (ps ≠ [] → ∃ rows, Rnds n ps tn sg rows ∧ r = ((rows.length / 2 : Nat) : Int)) → Q (.int r) M2
theorem c_rims {C_TB : Addr} (F : DFun K mg "rims" s_rims ["book", "drawing"]) (B : Bn mg) (G : Gs mg) (c_check_drawing : DCal P w K mg base CX0 4 "check_drawing" (sp_check_drawing C_TB)) (c_rims_of : DCal P w K mg base CX0 5 "rims_of" (sp_rims_of C_TB)) : DCal P w K mg base CX0 6 "rims" (sp_rims C_TB) := by
  refine dok F sc_rims (fun ds M Q E h => (by obtain ⟨_, h⟩ := h; first | (obtain ⟨e, _⟩ := h; subst e; rfl) | (obtain ⟨_, e, _⟩ := h; subst e; rfl) | (obtain ⟨_, _, e, _⟩ := h; subst e; rfl) | (obtain ⟨_, _, _, e, _⟩ := h; subst e; rfl) | (obtain ⟨_, _, _, _, e, _⟩ := h; subst e; rfl) | (obtain ⟨_, _, _, _, _, e, _⟩ := h; subst e; rfl) | (obtain ⟨_, _, _, _, _, _, e, _⟩ := h; subst e; rfl) | (obtain ⟨_, _, _, _, _, _, _, e, _⟩ := h; subst e; rfl) | (obtain ⟨_, _, _, _, _, _, _, _, e, _⟩ := h; subst e; rfl) | (obtain ⟨_, _, _, _, _, _, _, _, _, e, _⟩ := h; subst e; rfl) | (obtain ⟨_, _, _, _, _, _, _, _, _, _, e, _⟩ := h; subst e; rfl) | (obtain ⟨_, _, _, _, _, _, _, _, _, _, _, e, _⟩ := h; subst e; rfl) | (obtain ⟨_, _, _, _, _, _, _, _, _, _, _, _, e, _⟩ := h; subst e; rfl) | (obtain ⟨_, _, _, _, _, _, _, _, _, _, _, _, _, e, _⟩ := h; subst e; rfl) | (obtain ⟨_, _, _, _, _, _, _, _, _, _, _, _, _, _, e, _⟩ := h; subst e; rfl) | (obtain ⟨_, _, _, _, _, _, _, _, _, _, _, _, _, _, _, e, _⟩ := h; subst e; rfl) | (obtain ⟨_, _, _, _, _, _, _, _, _, _, _, _, _, _, _, _, e, _⟩ := h; subst e; rfl) | (obtain ⟨_, _, _, _, _, _, _, _, _, _, _, _, _, _, _, _, _, e, _⟩ := h; subst e; rfl) | (obtain ⟨_, _, _, _, _, _, _, _, _, _, _, _, _, _, _, _, _, _, e, _⟩ := h; subst e; rfl) | (obtain ⟨_, _, _, _, _, _, _, _, _, _, _, _, _, _, _, _, _, _, _, e, _⟩ := h; subst e; rfl) | (obtain ⟨_, _, _, _, _, _, _, _, _, _, _, _, _, _, _, _, _, _, _, _, e, _⟩ := h; subst e; rfl) | (obtain ⟨_, _, _, _, _, _, _, _, _, _, _, _, _, _, _, _, _, _, _, _, _, e, _⟩ := h; subst e; rfl) | (obtain ⟨_, _, _, _, _, _, _, _, _, _, _, _, _, _, _, _, _, _, _, _, _, _, e, _⟩ := h; subst e; rfl) | (obtain ⟨_, _, _, _, _, _, _, _, _, _, _, _, _, _, _, _, _, _, _, _, _, _, _, e, _⟩ := h; subst e; rfl) | (obtain ⟨_, _, _, _, _, _, _, _, _, _, _, _, _, _, _, _, _, _, _, _, _, _, _, _, e, _⟩ := h; subst e; rfl) | (obtain ⟨_, _, _, _, _, _, _, _, _, _, _, _, _, _, _, _, _, _, _, _, _, _, _, _, _, e, _⟩ := h; subst e; rfl))) (fun f cdv A outer s H E F0 hr => ?_)
  have nd := (sc_rims).nd
  refine ⟨_, _, (db_cons (ds_expr (de_call c_check_drawing hr (goes0A (E := DXK.no)) (da_cons (de_var 0) (da_cons (de_var 1) da_nil))))
      (db_one (ds_ret (de_call c_rims_of hr (goes0A (E := DXK.no)) (da_cons (de_var 0) (da_cons (de_var 1) da_nil)))))), ?_⟩
  rintro ds M Q E ⟨b, n, ps, d, tn, sg, rfl, B, R, q⟩
  simp only [jEnumU, dTupleK, dCatK, dBMT, dIdxK, dSlK, dRevK, dVar, dC, dOp, dTest, dII, dIC, dFld, dFldS, dMake, dppNil, dppCons, dMerge, dDisp, dCatL, dRg1, dLstRg, dChain, dEq, dAnd, dOr, dNot, dIfE, dNext, dSeq, dDrop, dRet, dIfS, dNever, hName, hNil, hCons, hTup, hSub, dAsg, dNil, dCons, dTup, dLst, dLstM, dIx, dSet, dCall, dwipe, dYes, jSeq, jRng1, jRng2, dCB, dLen, dListM, dTuple, dII2, dAbs, dInt, dBM0, dBM, dAppend, dPop, dPopAt, dAndV, dNotV, dNeg, dIn, dCat, dNoPart, dPart, dSl, dNewT, dIsi, dLc, dFor, dDc, dFrzA, jKeys, dDictZ, dSortTI, jZipM, if_true, if_false, ite_true, ite_false, Bool.false_eq_true, reduceIte, Bool.not_true, Bool.not_false, List.getElem?_cons_zero, List.getElem?_cons_succ, List.set_cons_zero, List.set_cons_succ, List.map_cons, List.map_nil, List.replicate, List.cons_append, List.nil_append, List.length_cons, List.length_nil, dstart]
  refine ⟨b, n, ps, d, tn, sg, rfl, B, R, ?_⟩
  simp only [jEnumU, dTupleK, dCatK, dBMT, dIdxK, dSlK, dRevK, dVar, dC, dOp, dTest, dII, dIC, dFld, dFldS, dMake, dppNil, dppCons, dMerge, dDisp, dCatL, dRg1, dLstRg, dChain, dEq, dAnd, dOr, dNot, dIfE, dNext, dSeq, dDrop, dRet, dIfS, dNever, hName, hNil, hCons, hTup, hSub, dAsg, dNil, dCons, dTup, dLst, dLstM, dIx, dSet, dCall, dwipe, dYes, jSeq, jRng1, jRng2, dCB, dLen, dListM, dTuple, dII2, dAbs, dInt, dBM0, dBM, dAppend, dPop, dPopAt, dAndV, dNotV, dNeg, dIn, dCat, dNoPart, dPart, dSl, dNewT, dIsi, dLc, dFor, dDc, dFrzA, jKeys, dDictZ, dSortTI, jZipM, if_true, if_false, ite_true, ite_false, Bool.false_eq_true, reduceIte, Bool.not_true, Bool.not_false, List.getElem?_cons_zero, List.getElem?_cons_succ, List.set_cons_zero, List.set_cons_succ, List.map_cons, List.map_nil, List.replicate, List.cons_append, List.nil_append, List.length_cons, List.length_nil, dstart]
  exact ⟨b, n, ps, d, tn, sg, rfl, B, R, fun r M2 h1 h2 h3 => fin_self (q r M2 h1 h2 h3)⟩
theorem sc_is_within : FnScope ["thing", "least", "most"] ["thing", "least", "most"] (defScope s_is_within) := ⟨rfl, rfl, rfl, by decide +kernel, rfl, by decide +kernel, by decide +kernel⟩
def sp_is_within : DSp := fun ds M Q _ => ∃ d a b, ds = [d, .int a, .int b] ∧ (tyN M d).isSome = true ∧ Q (.bl (d.within a b)) M
theorem c_is_within (F : DFun K mg "is_within" s_is_within ["thing", "least", "most"]) (B : Bn mg) (G : Gs mg) (c_is_integer : DCal P w K mg base CX0 1 "is_integer" sp_is_integer) : DCal P w K mg base CX0 2 "is_within" sp_is_within := by
  refine dok F sc_is_within (fun ds M Q E h => (by obtain ⟨_, h⟩ := h; first | (obtain ⟨e, _⟩ := h; subst e; rfl) | (obtain ⟨_, e, _⟩ := h; subst e; rfl) | (obtain ⟨_, _, e, _⟩ := h; subst e; rfl) | (obtain ⟨_, _, _, e, _⟩ := h; subst e; rfl) | (obtain ⟨_, _, _, _, e, _⟩ := h; subst e; rfl) | (obtain ⟨_, _, _, _, _, e, _⟩ := h; subst e; rfl) | (obtain ⟨_, _, _, _, _, _, e, _⟩ := h; subst e; rfl) | (obtain ⟨_, _, _, _, _, _, _, e, _⟩ := h; subst e; rfl) | (obtain ⟨_, _, _, _, _, _, _, _, e, _⟩ := h; subst e; rfl) | (obtain ⟨_, _, _, _, _, _, _, _, _, e, _⟩ := h; subst e; rfl) | (obtain ⟨_, _, _, _, _, _, _, _, _, _, e, _⟩ := h; subst e; rfl) | (obtain ⟨_, _, _, _, _, _, _, _, _, _, _, e, _⟩ := h; subst e; rfl) | (obtain ⟨_, _, _, _, _, _, _, _, _, _, _, _, e, _⟩ := h; subst e; rfl) | (obtain ⟨_, _, _, _, _, _, _, _, _, _, _, _, _, e, _⟩ := h; subst e; rfl) | (obtain ⟨_, _, _, _, _, _, _, _, _, _, _, _, _, _, e, _⟩ := h; subst e; rfl) | (obtain ⟨_, _, _, _, _, _, _, _, _, _, _, _, _, _, _, e, _⟩ := h; subst e; rfl) | (obtain ⟨_, _, _, _, _, _, _, _, _, _, _, _, _, _, _, _, e, _⟩ := h; subst e; rfl) | (obtain ⟨_, _, _, _, _, _, _, _, _, _, _, _, _, _, _, _, _, e, _⟩ := h; subst e; rfl) | (obtain ⟨_, _, _, _, _, _, _, _, _, _, _, _, _, _, _, _, _, _, e, _⟩ := h; subst e; rfl) | (obtain ⟨_, _, _, _, _, _, _, _, _, _, _, _, _, _, _, _, _, _, _, e, _⟩ := h; subst e; rfl) | (obtain ⟨_, _, _, _, _, _, _, _, _, _, _, _, _, _, _, _, _, _, _, _, e, _⟩ := h; subst e; rfl) | (obtain ⟨_, _, _, _, _, _, _, _, _, _, _, _, _, _, _, _, _, _, _, _, _, e, _⟩ := h; subst e; rfl) | (obtain ⟨_, _, _, _, _, _, _, _, _, _, _, _, _, _, _, _, _, _, _, _, _, _, e, _⟩ := h; subst e; rfl) | (obtain ⟨_, _, _, _, _, _, _, _, _, _, _, _, _, _, _, _, _, _, _, _, _, _, _, e, _⟩ := h; subst e; rfl) | (obtain ⟨_, _, _, _, _, _, _, _, _, _, _, _, _, _, _, _, _, _, _, _, _, _, _, _, e, _⟩ := h; subst e; rfl) | (obtain ⟨_, _, _, _, _, _, _, _, _, _, _, _, _, _, _, _, _, _, _, _, _, _, _, _, _, e, _⟩ := h; subst e; rfl))) (fun f cdv A outer s H E F0 hr => ?_)
  have nd := (sc_is_within).nd
  refine ⟨_, _, (db_one (ds_ret (de_and (de_call c_is_integer hr (goes0A (E := DXK.no)) (da_cons (de_var 0) da_nil)) (de_one (de_chain op_le (l2_II fun _ _ _ => .bl _) op_le (l2_II fun _ _ _ => .bl _) (de_var 1) (de_var 0) (de_var 2)))))), ?_⟩
  rintro ds M Q E ⟨d, a, b, rfl, h, q⟩
  simp only [jEnumU, dTupleK, dCatK, dBMT, dIdxK, dSlK, dRevK, dVar, dC, dOp, dTest, dII, dIC, dFld, dFldS, dMake, dppNil, dppCons, dMerge, dDisp, dCatL, dRg1, dLstRg, dChain, dEq, dAnd, dOr, dNot, dIfE, dNext, dSeq, dDrop, dRet, dIfS, dNever, hName, hNil, hCons, hTup, hSub, dAsg, dNil, dCons, dTup, dLst, dLstM, dIx, dSet, dCall, dwipe, dYes, jSeq, jRng1, jRng2, dCB, dLen, dListM, dTuple, dII2, dAbs, dInt, dBM0, dBM, dAppend, dPop, dPopAt, dAndV, dNotV, dNeg, dIn, dCat, dNoPart, dPart, dSl, dNewT, dIsi, dLc, dFor, dDc, dFrzA, jKeys, dDictZ, dSortTI, jZipM, if_true, if_false, ite_true, ite_false, Bool.false_eq_true, reduceIte, Bool.not_true, Bool.not_false, List.getElem?_cons_zero, List.getElem?_cons_succ, List.set_cons_zero, List.set_cons_succ, List.map_cons, List.map_nil, List.replicate, List.cons_append, List.nil_append, List.length_cons, List.length_nil, dstart]
  refine ⟨d, rfl, h, ?_⟩
  cases d with
  | int i =>
    simp only [D.isInt, if_true, D.within] at q ⊢
    by_cases e : a ≤ i
    · simp only [e, decide_true, Bool.true_and] at q ⊢; exact fin_self q
    · simp only [e, decide_false, Bool.false_and] at q ⊢; exact fin_self q
  | _ => exact fin_self q
theorem sc_is_index : FnScope ["thing", "many"] ["thing", "many"] (defScope s_is_index) := ⟨rfl, rfl, rfl, by decide +kernel, rfl, by decide +kernel, by decide +kernel⟩
def sp_is_index : DSp := fun ds M Q _ => ∃ d n, ds = [d, .int n] ∧ (tyN M d).isSome = true ∧ Q (.bl (d.within 0 (n - 1))) M
theorem c_is_index (F : DFun K mg "is_index" s_is_index ["thing", "many"]) (B : Bn mg) (G : Gs mg) (c_is_within : DCal P w K mg base CX0 2 "is_within" sp_is_within) : DCal P w K mg base CX0 3 "is_index" sp_is_index := by
  refine dok F sc_is_index (fun ds M Q E h => (by obtain ⟨_, h⟩ := h; first | (obtain ⟨e, _⟩ := h; subst e; rfl) | (obtain ⟨_, e, _⟩ := h; subst e; rfl) | (obtain ⟨_, _, e, _⟩ := h; subst e; rfl) | (obtain ⟨_, _, _, e, _⟩ := h; subst e; rfl) | (obtain ⟨_, _, _, _, e, _⟩ := h; subst e; rfl) | (obtain ⟨_, _, _, _, _, e, _⟩ := h; subst e; rfl) | (obtain ⟨_, _, _, _, _, _, e, _⟩ := h; subst e; rfl) | (obtain ⟨_, _, _, _, _, _, _, e, _⟩ := h; subst e; rfl) | (obtain ⟨_, _, _, _, _, _, _, _, e, _⟩ := h; subst e; rfl) | (obtain ⟨_, _, _, _, _, _, _, _, _, e, _⟩ := h; subst e; rfl) | (obtain ⟨_, _, _, _, _, _, _, _, _, _, e, _⟩ := h; subst e; rfl) | (obtain ⟨_, _, _, _, _, _, _, _, _, _, _, e, _⟩ := h; subst e; rfl) | (obtain ⟨_, _, _, _, _, _, _, _, _, _, _, _, e, _⟩ := h; subst e; rfl) | (obtain ⟨_, _, _, _, _, _, _, _, _, _, _, _, _, e, _⟩ := h; subst e; rfl) | (obtain ⟨_, _, _, _, _, _, _, _, _, _, _, _, _, _, e, _⟩ := h; subst e; rfl) | (obtain ⟨_, _, _, _, _, _, _, _, _, _, _, _, _, _, _, e, _⟩ := h; subst e; rfl) | (obtain ⟨_, _, _, _, _, _, _, _, _, _, _, _, _, _, _, _, e, _⟩ := h; subst e; rfl) | (obtain ⟨_, _, _, _, _, _, _, _, _, _, _, _, _, _, _, _, _, e, _⟩ := h; subst e; rfl) | (obtain ⟨_, _, _, _, _, _, _, _, _, _, _, _, _, _, _, _, _, _, e, _⟩ := h; subst e; rfl) | (obtain ⟨_, _, _, _, _, _, _, _, _, _, _, _, _, _, _, _, _, _, _, e, _⟩ := h; subst e; rfl) | (obtain ⟨_, _, _, _, _, _, _, _, _, _, _, _, _, _, _, _, _, _, _, _, e, _⟩ := h; subst e; rfl) | (obtain ⟨_, _, _, _, _, _, _, _, _, _, _, _, _, _, _, _, _, _, _, _, _, e, _⟩ := h; subst e; rfl) | (obtain ⟨_, _, _, _, _, _, _, _, _, _, _, _, _, _, _, _, _, _, _, _, _, _, e, _⟩ := h; subst e; rfl) | (obtain ⟨_, _, _, _, _, _, _, _, _, _, _, _, _, _, _, _, _, _, _, _, _, _, _, e, _⟩ := h; subst e; rfl) | (obtain ⟨_, _, _, _, _, _, _, _, _, _, _, _, _, _, _, _, _, _, _, _, _, _, _, _, e, _⟩ := h; subst e; rfl) | (obtain ⟨_, _, _, _, _, _, _, _, _, _, _, _, _, _, _, _, _, _, _, _, _, _, _, _, _, e, _⟩ := h; subst e; rfl))) (fun f cdv A outer s H E F0 hr => ?_)
  have nd := (sc_is_index).nd
  refine ⟨_, _, (db_one (ds_ret (de_call c_is_within hr (goes0A (E := DXK.no)) (da_cons (de_var 0) (da_cons de_int (da_cons (de_sub (de_var 1) de_int) da_nil)))))), ?_⟩
  rintro ds M Q E ⟨d, n, rfl, h, q⟩
  simp only [jEnumU, dTupleK, dCatK, dBMT, dIdxK, dSlK, dRevK, dVar, dC, dOp, dTest, dII, dIC, dFld, dFldS, dMake, dppNil, dppCons, dMerge, dDisp, dCatL, dRg1, dLstRg, dChain, dEq, dAnd, dOr, dNot, dIfE, dNext, dSeq, dDrop, dRet, dIfS, dNever, hName, hNil, hCons, hTup, hSub, dAsg, dNil, dCons, dTup, dLst, dLstM, dIx, dSet, dCall, dwipe, dYes, jSeq, jRng1, jRng2, dCB, dLen, dListM, dTuple, dII2, dAbs, dInt, dBM0, dBM, dAppend, dPop, dPopAt, dAndV, dNotV, dNeg, dIn, dCat, dNoPart, dPart, dSl, dNewT, dIsi, dLc, dFor, dDc, dFrzA, jKeys, dDictZ, dSortTI, jZipM, if_true, if_false, ite_true, ite_false, Bool.false_eq_true, reduceIte, Bool.not_true, Bool.not_false, List.getElem?_cons_zero, List.getElem?_cons_succ, List.set_cons_zero, List.set_cons_succ, List.map_cons, List.map_nil, List.replicate, List.cons_append, List.nil_append, List.length_cons, List.length_nil, dstart]
  exact ⟨d, 0, n - 1, rfl, h, fin_self q⟩
theorem sc_is_rising_pair : FnScope ["thing", "many"] ["thing", "many"] (defScope s_is_rising_pair) := ⟨rfl, rfl, rfl, by decide +kernel, rfl, by decide +kernel, by decide +kernel⟩
def sp_is_rising_pair : DSp := fun ds M Q _ => ∃ p n, ds = [prD p, .int n] ∧ prOk n p ∧ Q (.bl true) M
theorem c_is_rising_pair (F : DFun K mg "is_rising_pair" s_is_rising_pair ["thing", "many"]) (B : Bn mg) (G : Gs mg) (c_is_index : DCal P w K mg base CX0 3 "is_index" sp_is_index) : DCal P w K mg base CX0 4 "is_rising_pair" sp_is_rising_pair := by
  refine dok F sc_is_rising_pair (fun ds M Q E h => (by obtain ⟨_, h⟩ := h; first | (obtain ⟨e, _⟩ := h; subst e; rfl) | (obtain ⟨_, e, _⟩ := h; subst e; rfl) | (obtain ⟨_, _, e, _⟩ := h; subst e; rfl) | (obtain ⟨_, _, _, e, _⟩ := h; subst e; rfl) | (obtain ⟨_, _, _, _, e, _⟩ := h; subst e; rfl) | (obtain ⟨_, _, _, _, _, e, _⟩ := h; subst e; rfl) | (obtain ⟨_, _, _, _, _, _, e, _⟩ := h; subst e; rfl) | (obtain ⟨_, _, _, _, _, _, _, e, _⟩ := h; subst e; rfl) | (obtain ⟨_, _, _, _, _, _, _, _, e, _⟩ := h; subst e; rfl) | (obtain ⟨_, _, _, _, _, _, _, _, _, e, _⟩ := h; subst e; rfl) | (obtain ⟨_, _, _, _, _, _, _, _, _, _, e, _⟩ := h; subst e; rfl) | (obtain ⟨_, _, _, _, _, _, _, _, _, _, _, e, _⟩ := h; subst e; rfl) | (obtain ⟨_, _, _, _, _, _, _, _, _, _, _, _, e, _⟩ := h; subst e; rfl) | (obtain ⟨_, _, _, _, _, _, _, _, _, _, _, _, _, e, _⟩ := h; subst e; rfl) | (obtain ⟨_, _, _, _, _, _, _, _, _, _, _, _, _, _, e, _⟩ := h; subst e; rfl) | (obtain ⟨_, _, _, _, _, _, _, _, _, _, _, _, _, _, _, e, _⟩ := h; subst e; rfl) | (obtain ⟨_, _, _, _, _, _, _, _, _, _, _, _, _, _, _, _, e, _⟩ := h; subst e; rfl) | (obtain ⟨_, _, _, _, _, _, _, _, _, _, _, _, _, _, _, _, _, e, _⟩ := h; subst e; rfl) | (obtain ⟨_, _, _, _, _, _, _, _, _, _, _, _, _, _, _, _, _, _, e, _⟩ := h; subst e; rfl) | (obtain ⟨_, _, _, _, _, _, _, _, _, _, _, _, _, _, _, _, _, _, _, e, _⟩ := h; subst e; rfl) | (obtain ⟨_, _, _, _, _, _, _, _, _, _, _, _, _, _, _, _, _, _, _, _, e, _⟩ := h; subst e; rfl) | (obtain ⟨_, _, _, _, _, _, _, _, _, _, _, _, _, _, _, _, _, _, _, _, _, e, _⟩ := h; subst e; rfl) | (obtain ⟨_, _, _, _, _, _, _, _, _, _, _, _, _, _, _, _, _, _, _, _, _, _, e, _⟩ := h; subst e; rfl) | (obtain ⟨_, _, _, _, _, _, _, _, _, _, _, _, _, _, _, _, _, _, _, _, _, _, _, e, _⟩ := h; subst e; rfl) | (obtain ⟨_, _, _, _, _, _, _, _, _, _, _, _, _, _, _, _, _, _, _, _, _, _, _, _, e, _⟩ := h; subst e; rfl) | (obtain ⟨_, _, _, _, _, _, _, _, _, _, _, _, _, _, _, _, _, _, _, _, _, _, _, _, _, e, _⟩ := h; subst e; rfl))) (fun f cdv A outer s H E F0 hr => ?_)
  have nd := (sc_is_rising_pair).nd
  refine ⟨_, _, (db_cons (ds_if (DW.dt (dw_or (dt_not (dt_val (de_isi B.isinstance (da_cons (de_var 0) (da_cons (de_ty (n := "tuple") B.tuple) da_nil))))) (dw_or1 (dt_ne hr (de_len B.len (da_cons (de_var 0) da_nil)) de_int)))) (db_one (ds_ret de_bl)) db_nil)
      (db_one (ds_ret (de_and (de_call c_is_index hr (goes0A (E := DXK.no)) (da_cons (de_ix hr (de_var 0) de_int) (da_cons (de_var 1) da_nil))) (de_and (de_call c_is_index hr (goes0A (E := DXK.no)) (da_cons (de_ix hr (de_var 0) de_int) (da_cons (de_var 1) da_nil))) (de_one (de_lt (de_ix hr (de_var 0) de_int) (de_ix hr (de_var 0) de_int)))))))), ?_⟩
  rintro ds M Q E ⟨⟨x, y⟩, n, rfl, ⟨h1, h2, h3⟩, q⟩
  simp only at h1 h2 h3
  simp only [jEnumU, dTupleK, dCatK, dBMT, dIdxK, dSlK, dRevK, dVar, dC, dOp, dTest, dII, dIC, dFld, dFldS, dMake, dppNil, dppCons, dMerge, dDisp, dCatL, dRg1, dLstRg, dChain, dEq, dAnd, dOr, dNot, dIfE, dNext, dSeq, dDrop, dRet, dIfS, dNever, hName, hNil, hCons, hTup, hSub, dAsg, dNil, dCons, dTup, dLst, dLstM, dIx, dSet, dCall, dwipe, dYes, jSeq, jRng1, jRng2, dCB, dLen, dListM, dTuple, dII2, dAbs, dInt, dBM0, dBM, dAppend, dPop, dPopAt, dAndV, dNotV, dNeg, dIn, dCat, dNoPart, dPart, dSl, dNewT, dIsi, dLc, dFor, dDc, dFrzA, jKeys, dDictZ, dSortTI, jZipM, if_true, if_false, ite_true, ite_false, Bool.false_eq_true, reduceIte, Bool.not_true, Bool.not_false, List.getElem?_cons_zero, List.getElem?_cons_succ, List.set_cons_zero, List.set_cons_succ, List.map_cons, List.map_nil, List.replicate, List.cons_append, List.nil_append, List.length_cons, List.length_nil, dstart, prD, dIsi]
  refine ⟨by decide +kernel, "tuple", rfl, ?_⟩
  rw [show isiT "tuple" "tuple" = true from by decide +kernel]
  simp only [if_true, if_false, ite_true, ite_false, Bool.false_eq_true, reduceIte, Bool.not_true, Bool.not_false, List.getElem?_cons_zero, List.getElem?_cons_succ, List.set_cons_zero, List.set_cons_succ, List.map_cons, List.map_nil, List.replicate, List.cons_append, List.nil_append, List.length_cons, List.length_nil, dstart]
  refine ⟨2, rfl, rfl, rfl, ?_⟩
  have i0 : ∀ M', dIxV M' (D.tup [D.int x, D.int y]) (D.int 0) = some (.int x) := fun _ => rfl
  have i1 : ∀ M', dIxV M' (D.tup [D.int x, D.int y]) (D.int 1) = some (.int y) := fun _ => rfl
  rw [if_neg (by decide +kernel)]
  refine ⟨_, i0 M, _, n, rfl, rfl, ?_⟩
  have e1 : (D.int x).within 0 (n - 1) = true := by simp only [D.within, Bool.and_eq_true, decide_eq_true_eq]; omega
  have e2 : (D.int y).within 0 (n - 1) = true := by simp only [D.within, Bool.and_eq_true, decide_eq_true_eq]; omega
  rw [e1]
  simp only [if_true, if_false, ite_true, ite_false, Bool.false_eq_true, reduceIte, Bool.not_true, Bool.not_false, List.getElem?_cons_zero, List.getElem?_cons_succ, List.set_cons_zero, List.set_cons_succ, List.map_cons, List.map_nil, List.replicate, List.cons_append, List.nil_append, List.length_cons, List.length_nil, dstart]
  refine ⟨_, i1 M, _, n, rfl, rfl, ?_⟩
  rw [e2]
  simp only [if_true, if_false, ite_true, ite_false, Bool.false_eq_true, reduceIte, Bool.not_true, Bool.not_false, List.getElem?_cons_zero, List.getElem?_cons_succ, List.set_cons_zero, List.set_cons_succ, List.map_cons, List.map_nil, List.replicate, List.cons_append, List.nil_append, List.length_cons, List.length_nil, dstart]
  refine ⟨_, i0 M, _, i1 M, ?_⟩
  simp only [decide_eq_true h2]
  exact fin_self q
theorem sc_are_rising_pairs : FnScope ["thing", "many", "most", "pair", "at"] ["thing", "many", "most"] (defScope s_are_rising_pairs) := ⟨rfl, rfl, rfl, by decide +kernel, rfl, by decide +kernel, by decide +kernel⟩
def sp_are_rising_pairs : DSp := fun ds M Q _ => ∃ (ps : List (Int × Int)) (n most : Int), ds = [.kt (ps.map prD), .int n, .int most] ∧ (ps.length : Int) ≤ most ∧ ps.length ≤ 1000000 ∧ PrsOk n ps ∧ Q (.bl true) M
theorem c_are_rising_pairs (F : DFun K mg "are_rising_pairs" s_are_rising_pairs ["thing", "many", "most"]) (B : Bn mg) (G : Gs mg) (c_is_rising_pair : DCal P w K mg base CX0 4 "is_rising_pair" sp_is_rising_pair) : DCal P w K mg base CX0 5 "are_rising_pairs" sp_are_rising_pairs := by
  refine dok F sc_are_rising_pairs (fun ds M Q E h => (by obtain ⟨_, h⟩ := h; first | (obtain ⟨e, _⟩ := h; subst e; rfl) | (obtain ⟨_, e, _⟩ := h; subst e; rfl) | (obtain ⟨_, _, e, _⟩ := h; subst e; rfl) | (obtain ⟨_, _, _, e, _⟩ := h; subst e; rfl) | (obtain ⟨_, _, _, _, e, _⟩ := h; subst e; rfl) | (obtain ⟨_, _, _, _, _, e, _⟩ := h; subst e; rfl) | (obtain ⟨_, _, _, _, _, _, e, _⟩ := h; subst e; rfl) | (obtain ⟨_, _, _, _, _, _, _, e, _⟩ := h; subst e; rfl) | (obtain ⟨_, _, _, _, _, _, _, _, e, _⟩ := h; subst e; rfl) | (obtain ⟨_, _, _, _, _, _, _, _, _, e, _⟩ := h; subst e; rfl) | (obtain ⟨_, _, _, _, _, _, _, _, _, _, e, _⟩ := h; subst e; rfl) | (obtain ⟨_, _, _, _, _, _, _, _, _, _, _, e, _⟩ := h; subst e; rfl) | (obtain ⟨_, _, _, _, _, _, _, _, _, _, _, _, e, _⟩ := h; subst e; rfl) | (obtain ⟨_, _, _, _, _, _, _, _, _, _, _, _, _, e, _⟩ := h; subst e; rfl) | (obtain ⟨_, _, _, _, _, _, _, _, _, _, _, _, _, _, e, _⟩ := h; subst e; rfl) | (obtain ⟨_, _, _, _, _, _, _, _, _, _, _, _, _, _, _, e, _⟩ := h; subst e; rfl) | (obtain ⟨_, _, _, _, _, _, _, _, _, _, _, _, _, _, _, _, e, _⟩ := h; subst e; rfl) | (obtain ⟨_, _, _, _, _, _, _, _, _, _, _, _, _, _, _, _, _, e, _⟩ := h; subst e; rfl) | (obtain ⟨_, _, _, _, _, _, _, _, _, _, _, _, _, _, _, _, _, _, e, _⟩ := h; subst e; rfl) | (obtain ⟨_, _, _, _, _, _, _, _, _, _, _, _, _, _, _, _, _, _, _, e, _⟩ := h; subst e; rfl) | (obtain ⟨_, _, _, _, _, _, _, _, _, _, _, _, _, _, _, _, _, _, _, _, e, _⟩ := h; subst e; rfl) | (obtain ⟨_, _, _, _, _, _, _, _, _, _, _, _, _, _, _, _, _, _, _, _, _, e, _⟩ := h; subst e; rfl) | (obtain ⟨_, _, _, _, _, _, _, _, _, _, _, _, _, _, _, _, _, _, _, _, _, _, e, _⟩ := h; subst e; rfl) | (obtain ⟨_, _, _, _, _, _, _, _, _, _, _, _, _, _, _, _, _, _, _, _, _, _, _, e, _⟩ := h; subst e; rfl) | (obtain ⟨_, _, _, _, _, _, _, _, _, _, _, _, _, _, _, _, _, _, _, _, _, _, _, _, e, _⟩ := h; subst e; rfl) | (obtain ⟨_, _, _, _, _, _, _, _, _, _, _, _, _, _, _, _, _, _, _, _, _, _, _, _, _, e, _⟩ := h; subst e; rfl))) (fun f cdv A outer s H E F0 hr => ?_)
  have nd := (sc_are_rising_pairs).nd
  refine ⟨_, _, (db_cons (ds_if (DW.dt (dw_or (dt_not (dt_val (de_isi B.isinstance (da_cons (de_var 0) (da_cons (de_ty (n := "tuple") B.tuple) da_nil))))) (dw_or1 (dt_gt (de_len B.len (da_cons (de_var 0) da_nil)) (de_var 2))))) (db_one (ds_ret de_bl)) db_nil)
      (db_cons (ds_if (dt_not (dt_val (de_blt (cr_all rfl) lc_flags B.all (da_cons (dx_lc (own := [("pair", 3)]) rfl nd (di_seq (de_var 0)) (blkOk_by (N := ["thing", "many", "most", "pair", "at"]) (sc := defScope s_are_rising_pairs) (by decide +kernel)) (fun _ _ _ _ _ => ⟨_, (dg_name 3 nd), (gw_name (by decide))⟩) (fun _ _ _ _ _ => ⟨_, dts_nil⟩) (fun _ _ _ _ _ => ⟨_, (de_call c_is_rising_pair hr (goes0A (E := DXK.no)) (da_cons (de_var 3) (da_cons (de_var 1) da_nil)))⟩)) da_nil)))) (db_one (ds_ret de_bl)) db_nil)
      (db_one (ds_ret (de_not (de_blt (cr_any rfl) lc_flags B.any (da_cons (dx_lc (own := [("at", 4)]) rfl nd (di_range2 B.range (da_cons de_int (da_cons (de_len B.len (da_cons (de_var 0) da_nil)) da_nil))) (blkOk_by (N := ["thing", "many", "most", "pair", "at"]) (sc := defScope s_are_rising_pairs) (by decide +kernel)) (fun _ _ _ _ _ => ⟨_, (dg_name 4 nd), (gw_name (by decide))⟩) (fun _ _ _ _ _ => ⟨_, dts_nil⟩) (fun _ _ _ _ _ => ⟨_, (de_geT hr (de_ix hr (de_var 0) (de_sub (de_var 4) de_int)) (de_ix hr (de_var 0) (de_var 4)))⟩)) da_nil))))))), ?_⟩
  rintro ds M Q E ⟨ps, n, most, rfl, hl, hz, h, q⟩
  simp only [jEnumU, dTupleK, dCatK, dBMT, dIdxK, dSlK, dRevK, dVar, dC, dOp, dTest, dII, dIC, dFld, dFldS, dMake, dppNil, dppCons, dMerge, dDisp, dCatL, dRg1, dLstRg, dChain, dEq, dAnd, dOr, dNot, dIfE, dNext, dSeq, dDrop, dRet, dIfS, dNever, hName, hNil, hCons, hTup, hSub, dAsg, dNil, dCons, dTup, dLst, dLstM, dIx, dSet, dCall, dwipe, dYes, jSeq, jRng1, jRng2, dCB, dLen, dListM, dTuple, dII2, dAbs, dInt, dBM0, dBM, dAppend, dPop, dPopAt, dAndV, dNotV, dNeg, dIn, dCat, dNoPart, dPart, dSl, dNewT, dIsi, dLc, dFor, dDc, dFrzA, jKeys, dDictZ, dSortTI, jZipM, if_true, if_false, ite_true, ite_false, Bool.false_eq_true, reduceIte, Bool.not_true, Bool.not_false, List.getElem?_cons_zero, List.getElem?_cons_succ, List.set_cons_zero, List.set_cons_succ, List.map_cons, List.map_nil, List.replicate, List.cons_append, List.nil_append, List.length_cons, List.length_nil, dstart, dIsi]
  refine ⟨by decide +kernel, "tuple", rfl, ?_⟩
  rw [if_neg (by decide +kernel)]
  refine ⟨ps.length, by simp [lenV], ?_⟩
  rw [if_neg (by simp; omega)]
  refine ⟨by rw [List.length_map]; exact len_ok (by omega), dLcI_map (fun _ => .bl true) (fun i d hd Q2 q2 => ?_) ?_⟩
  · simp only [jEnumU, dTupleK, dCatK, dBMT, dIdxK, dSlK, dRevK, dVar, dC, dOp, dTest, dII, dIC, dFld, dFldS, dMake, dppNil, dppCons, dMerge, dDisp, dCatL, dRg1, dLstRg, dChain, dEq, dAnd, dOr, dNot, dIfE, dNext, dSeq, dDrop, dRet, dIfS, dNever, hName, hNil, hCons, hTup, hSub, dAsg, dNil, dCons, dTup, dLst, dLstM, dIx, dSet, dCall, dwipe, dYes, jSeq, jRng1, jRng2, dCB, dLen, dListM, dTuple, dII2, dAbs, dInt, dBM0, dBM, dAppend, dPop, dPopAt, dAndV, dNotV, dNeg, dIn, dCat, dNoPart, dPart, dSl, dNewT, dIsi, dLc, dFor, dDc, dFrzA, jKeys, dDictZ, dSortTI, jZipM, if_true, if_false, ite_true, ite_false, Bool.false_eq_true, reduceIte, Bool.not_true, Bool.not_false, List.getElem?_cons_zero, List.getElem?_cons_succ, List.set_cons_zero, List.set_cons_succ, List.map_cons, List.map_nil, List.replicate, List.cons_append, List.nil_append, List.length_cons, List.length_nil, dstart]
    obtain ⟨p, hp, rfl⟩ := get_pr hd
    exact ⟨p, n, rfl, h.ok p (List.mem_of_getElem? hp), q2⟩
  refine ⟨_, map_bl true _, ?_⟩
  have ea : (List.replicate (ps.map prD).length true).all id = true := by simp
  simp only [ea, if_true, if_false, ite_true, ite_false, Bool.false_eq_true, reduceIte, Bool.not_true, Bool.not_false, List.getElem?_cons_zero, List.getElem?_cons_succ, List.set_cons_zero, List.set_cons_succ, List.map_cons, List.map_nil, List.replicate, List.cons_append, List.nil_append, List.length_cons, List.length_nil, dstart]
  refine ⟨ps.length, by simp [lenV], by omega, by rw [rgD_len]; exact len_ok (by omega), dLcI_map (fun _ => .bl false) (fun i d hd Q2 q2 => ?_) ?_⟩
  · simp only [jEnumU, dTupleK, dCatK, dBMT, dIdxK, dSlK, dRevK, dVar, dC, dOp, dTest, dII, dIC, dFld, dFldS, dMake, dppNil, dppCons, dMerge, dDisp, dCatL, dRg1, dLstRg, dChain, dEq, dAnd, dOr, dNot, dIfE, dNext, dSeq, dDrop, dRet, dIfS, dNever, hName, hNil, hCons, hTup, hSub, dAsg, dNil, dCons, dTup, dLst, dLstM, dIx, dSet, dCall, dwipe, dYes, jSeq, jRng1, jRng2, dCB, dLen, dListM, dTuple, dII2, dAbs, dInt, dBM0, dBM, dAppend, dPop, dPopAt, dAndV, dNotV, dNeg, dIn, dCat, dNoPart, dPart, dSl, dNewT, dIsi, dLc, dFor, dDc, dFrzA, jKeys, dDictZ, dSortTI, jZipM, if_true, if_false, ite_true, ite_false, Bool.false_eq_true, reduceIte, Bool.not_true, Bool.not_false, List.getElem?_cons_zero, List.getElem?_cons_succ, List.set_cons_zero, List.set_cons_succ, List.map_cons, List.map_nil, List.replicate, List.cons_append, List.nil_append, List.length_cons, List.length_nil, dstart]
    obtain ⟨hi, rfl⟩ := rgD_get hd
    have h1 : i + 1 < ps.length := by omega
    have e1 : ps[i]? = some ps[i] := List.getElem?_eq_getElem (by omega)
    have e2 : ps[i + 1]? = some ps[i + 1] := List.getElem?_eq_getElem h1
    have lt := pw_next h.lt e1 e2
    refine ⟨prD ps[i], atI_at (k := i) (by omega) (by rw [List.getElem?_map, e1]; rfl), prD ps[i + 1], atI_at (k := i + 1) (by omega) (by rw [List.getElem?_map, e2]; rfl), ?_⟩
    refine ⟨[ps[i].1, ps[i].2], [ps[i + 1].1, ps[i + 1].2], rfl, rfl, ?_⟩
    rw [geL_two, decide_eq_false (by unfold prLt at lt; omega)]
    exact q2
  refine ⟨_, map_bl false _, ?_⟩
  have eb : (List.replicate (rgD 1 ((ps.length : Int) - 1).toNat).length false).any id = false := by simp
  simp only [eb, if_true, if_false, ite_true, ite_false, Bool.false_eq_true, reduceIte, Bool.not_true, Bool.not_false, List.getElem?_cons_zero, List.getElem?_cons_succ, List.set_cons_zero, List.set_cons_succ, List.map_cons, List.map_nil, List.replicate, List.cons_append, List.nil_append, List.length_cons, List.length_nil, dstart]
  exact fin_self q
theorem sc_beside_lists : FnScope ["many", "pairs", "found", "one", "other", "_", "row"] ["many", "pairs"] (defScope s_beside_lists) := ⟨rfl, rfl, rfl, by decide +kernel, rfl, by decide +kernel, by decide +kernel⟩
def sp_beside_lists : DSp := fun ds M Q _ => ∃ (n : Int) (ps : List (Int × Int)), ds = [.int n, .kt (ps.map prD)] ∧ 0 ≤ n ∧ n ≤ 10000 ∧ ps.length ≤ 1000000 ∧ PrsOk n ps ∧ Q (.lst (rowsD n ps)) M
theorem c_beside_lists (F : DFun K mg "beside_lists" s_beside_lists ["many", "pairs"]) (B : Bn mg) (G : Gs mg)  : DCal P w K mg base CX0 1 "beside_lists" sp_beside_lists := by
  refine dok F sc_beside_lists (fun ds M Q E h => (by obtain ⟨_, h⟩ := h; first | (obtain ⟨e, _⟩ := h; subst e; rfl) | (obtain ⟨_, e, _⟩ := h; subst e; rfl) | (obtain ⟨_, _, e, _⟩ := h; subst e; rfl) | (obtain ⟨_, _, _, e, _⟩ := h; subst e; rfl) | (obtain ⟨_, _, _, _, e, _⟩ := h; subst e; rfl) | (obtain ⟨_, _, _, _, _, e, _⟩ := h; subst e; rfl) | (obtain ⟨_, _, _, _, _, _, e, _⟩ := h; subst e; rfl) | (obtain ⟨_, _, _, _, _, _, _, e, _⟩ := h; subst e; rfl) | (obtain ⟨_, _, _, _, _, _, _, _, e, _⟩ := h; subst e; rfl) | (obtain ⟨_, _, _, _, _, _, _, _, _, e, _⟩ := h; subst e; rfl) | (obtain ⟨_, _, _, _, _, _, _, _, _, _, e, _⟩ := h; subst e; rfl) | (obtain ⟨_, _, _, _, _, _, _, _, _, _, _, e, _⟩ := h; subst e; rfl) | (obtain ⟨_, _, _, _, _, _, _, _, _, _, _, _, e, _⟩ := h; subst e; rfl) | (obtain ⟨_, _, _, _, _, _, _, _, _, _, _, _, _, e, _⟩ := h; subst e; rfl) | (obtain ⟨_, _, _, _, _, _, _, _, _, _, _, _, _, _, e, _⟩ := h; subst e; rfl) | (obtain ⟨_, _, _, _, _, _, _, _, _, _, _, _, _, _, _, e, _⟩ := h; subst e; rfl) | (obtain ⟨_, _, _, _, _, _, _, _, _, _, _, _, _, _, _, _, e, _⟩ := h; subst e; rfl) | (obtain ⟨_, _, _, _, _, _, _, _, _, _, _, _, _, _, _, _, _, e, _⟩ := h; subst e; rfl) | (obtain ⟨_, _, _, _, _, _, _, _, _, _, _, _, _, _, _, _, _, _, e, _⟩ := h; subst e; rfl) | (obtain ⟨_, _, _, _, _, _, _, _, _, _, _, _, _, _, _, _, _, _, _, e, _⟩ := h; subst e; rfl) | (obtain ⟨_, _, _, _, _, _, _, _, _, _, _, _, _, _, _, _, _, _, _, _, e, _⟩ := h; subst e; rfl) | (obtain ⟨_, _, _, _, _, _, _, _, _, _, _, _, _, _, _, _, _, _, _, _, _, e, _⟩ := h; subst e; rfl) | (obtain ⟨_, _, _, _, _, _, _, _, _, _, _, _, _, _, _, _, _, _, _, _, _, _, e, _⟩ := h; subst e; rfl) | (obtain ⟨_, _, _, _, _, _, _, _, _, _, _, _, _, _, _, _, _, _, _, _, _, _, _, e, _⟩ := h; subst e; rfl) | (obtain ⟨_, _, _, _, _, _, _, _, _, _, _, _, _, _, _, _, _, _, _, _, _, _, _, _, e, _⟩ := h; subst e; rfl) | (obtain ⟨_, _, _, _, _, _, _, _, _, _, _, _, _, _, _, _, _, _, _, _, _, _, _, _, _, e, _⟩ := h; subst e; rfl))) (fun f cdv A outer s H E F0 hr => ?_)
  have nd := (sc_beside_lists).nd
  refine ⟨_, _, (db_cons (dx_setLc 2 (own := [("_", 5)]) rfl nd (sw_true rfl rfl rfl (by decide +kernel)) (di_range1 B.range (da_cons (de_var 0) da_nil)) (blkOk_by (N := ["many", "pairs", "found", "one", "other", "_", "row"]) (sc := defScope s_beside_lists) (by decide +kernel)) (fun _ _ _ _ _ => ⟨_, (dg_name 5 nd), (gw_name (by decide))⟩) (fun _ _ _ _ _ => ⟨_, dts_nil⟩) (fun _ _ _ _ _ => ⟨_, (de_lstM da_nil)⟩))
      (db_cons (ds_for PassesOwn.never rfl (di_seq (de_var 1)) (dg_tup (n := 2) rfl (dgs_cons (dg_name 3 nd) (dgs_cons (dg_name 4 nd) dgs_nil))) (db_cons (ds_expr (de_append (de_ix hr (de_var 2) (de_var 3)) (da_cons (de_var 4) da_nil)))
      (db_one (ds_expr (de_append (de_ix hr (de_var 2) (de_var 4)) (da_cons (de_var 3) da_nil))))))
      (db_one (ds_ret (dx_lc (own := [("row", 6)]) rfl nd (di_seq (de_var 2)) (blkOk_by (N := ["many", "pairs", "found", "one", "other", "_", "row"]) (sc := defScope s_beside_lists) (by decide +kernel)) (fun _ _ _ _ _ => ⟨_, (dg_name 6 nd), (gw_name (by decide))⟩) (fun _ _ _ _ _ => ⟨_, dts_nil⟩) (fun _ _ _ _ _ => ⟨_, (de_bty call_tuple_of lc_tuple B.tuple (da_cons (de_sortI B.sorted (da_cons (de_var 6) da_nil)) da_nil))⟩)))))), ?_⟩
  rintro ds M Q E ⟨n, ps, rfl, h0, hn, hz, h, q⟩
  simp only [jEnumU, dTupleK, dCatK, dBMT, dIdxK, dSlK, dRevK, dVar, dC, dOp, dTest, dII, dIC, dFld, dFldS, dMake, dppNil, dppCons, dMerge, dDisp, dCatL, dRg1, dLstRg, dChain, dEq, dAnd, dOr, dNot, dIfE, dNext, dSeq, dDrop, dRet, dIfS, dNever, hName, hNil, hCons, hTup, hSub, dAsg, dNil, dCons, dTup, dLst, dLstM, dIx, dSet, dCall, dwipe, dYes, jSeq, jRng1, jRng2, dCB, dLen, dListM, dTuple, dII2, dAbs, dInt, dBM0, dBM, dAppend, dPop, dPopAt, dAndV, dNotV, dNeg, dIn, dCat, dNoPart, dPart, dSl, dNewT, dIsi, dLc, dFor, dDc, dFrzA, jKeys, dDictZ, dSortTI, jZipM, if_true, if_false, ite_true, ite_false, Bool.false_eq_true, reduceIte, Bool.not_true, Bool.not_false, List.getElem?_cons_zero, List.getElem?_cons_succ, List.set_cons_zero, List.set_cons_succ, List.map_cons, List.map_nil, List.replicate, List.cons_append, List.nil_append, List.length_cons, List.length_nil, dstart]
  refine ⟨by omega, by rw [rgD_len]; exact len_ok (by omega), lcI_fresh (fun d M Q h γ => h _) fun as M1 R ho hf => ?_⟩
  rw [rgD_len] at R
  have has : as.length = n.toNat := by rw [R.len]; simp
  refine dForI_of (fun i γ M' => ∃ o1 o2, γ = [some (.int n), some (.kt (ps.map prD)), some (.lst (as.map .ref)), o1, o2, none, none] ∧ RowsAt M' as ((List.range n.toNat).map fun (j : Nat) => (nbr (ps.take i) (j : Int)).map .int) ∧ ∀ p, p ∉ as → M' p = M p) ?_ ?_ ?_
  · refine ⟨none, none, rfl, ?_, ho⟩
    have e : (List.range n.toNat).map (fun (j : Nat) => (nbr (ps.take 0) (j : Int)).map D.int) = List.replicate n.toNat [] := by
      apply List.ext_getElem?
      intro j
      simp only [List.take_zero, nbr, List.flatMap_nil, List.map_nil, List.getElem?_map, List.getElem?_replicate]
      by_cases hj : j < n.toNat
      · rw [List.getElem?_range hj, if_pos hj]; rfl
      · rw [List.getElem?_eq_none (by simpa using hj), if_neg hj]; rfl
    rw [e]; exact R
  · rintro i d γ M2 hd ⟨o1, o2, rfl, R2, ho2⟩
    obtain ⟨⟨a, b⟩, hp, rfl⟩ := get_pr hd
    obtain ⟨k1, k2, k3⟩ := h.ok _ (List.mem_of_getElem? hp)
    simp only at k1 k2 k3
    have hi := (List.getElem?_eq_some_iff.mp hp).1
    have tl : (ps.take i).length ≤ ps.length := by rw [List.length_take]; omega
    obtain ⟨x, hx, mx, R3⟩ := R2.push (k := a.toNat) (d := .int b) (g := fun (j : Nat) => (nbr (ps.take i) (j : Int) ++ (if (j : Int) = a then [b] else [])).map .int) (by omega) (fun j => by
      by_cases e : j = a.toNat
      · have e2 : (j : Int) = a := by omega
        simp [e, e2, show ((a.toNat : Nat) : Int) = a by omega]
      · have e2 : ¬ (j : Int) = a := by omega
        simp [e, e2])
    simp only [jEnumU, dTupleK, dCatK, dBMT, dIdxK, dSlK, dRevK, dVar, dC, dOp, dTest, dII, dIC, dFld, dFldS, dMake, dppNil, dppCons, dMerge, dDisp, dCatL, dRg1, dLstRg, dChain, dEq, dAnd, dOr, dNot, dIfE, dNext, dSeq, dDrop, dRet, dIfS, dNever, hName, hNil, hCons, hTup, hSub, dAsg, dNil, dCons, dTup, dLst, dLstM, dIx, dSet, dCall, dwipe, dYes, jSeq, jRng1, jRng2, dCB, dLen, dListM, dTuple, dII2, dAbs, dInt, dBM0, dBM, dAppend, dPop, dPopAt, dAndV, dNotV, dNeg, dIn, dCat, dNoPart, dPart, dSl, dNewT, dIsi, dLc, dFor, dDc, dFrzA, jKeys, dDictZ, dSortTI, jZipM, if_true, if_false, ite_true, ite_false, Bool.false_eq_true, reduceIte, Bool.not_true, Bool.not_false, List.getElem?_cons_zero, List.getElem?_cons_succ, List.set_cons_zero, List.set_cons_succ, List.map_cons, List.map_nil, List.replicate, List.cons_append, List.nil_append, List.length_cons, List.length_nil, dstart, prD]
    refine ⟨trivial, .ref x, ref_at (by omega) hx, by simp only [tyD, mx], ?_⟩
    simp only [mx]
    have l1 := nbr_len (ps.take i) (a.toNat : Nat)
    refine ⟨len_lt (by rw [List.length_map]; omega), ?_⟩
    obtain ⟨y, hy, my, R4⟩ := R3.push (k := b.toNat) (d := .int a) (g := fun (j : Nat) => (nbr (ps.take (i + 1)) (j : Int)).map .int) (by omega) (fun j => by
      rw [take_succ_of hp, nbr_snoc]
      by_cases e : j = b.toNat
      · have e2 : (j : Int) = b := by omega
        have e3 : ¬ (j : Int) = a := by omega
        have e4 : ¬ a = (j : Int) := by omega
        simp [e, show ((b.toNat : Nat) : Int) = b by omega, show ¬ b = a by omega, show ¬ a = b by omega]
      · have e2 : ¬ b = (j : Int) := by omega
        by_cases e3 : (j : Int) = a
        · simp [e, e3, show ¬ b = a by omega, show ¬ a.toNat = b.toNat by omega]
        · have e4 : ¬ a = (j : Int) := by omega
          simp [e, e2, e3, e4])
    refine ⟨.ref y, ref_at (by omega) hy, by simp only [tyD, my], ?_⟩
    simp only [my]
    have l2 := nbr_len (ps.take i) (b.toNat : Nat)
    have e5 : ¬ ((b.toNat : Nat) : Int) = a := by omega
    refine ⟨len_lt (by rw [List.length_map, if_neg e5, List.append_nil]; omega), _, _, rfl, R4, fun p hp' => ?_⟩
    rw [mset_ne fun z => hp' (by rw [z]; exact List.mem_of_getElem? hy), mset_ne fun z => hp' (by rw [z]; exact List.mem_of_getElem? hx)]
    exact ho2 p hp'
  · rintro γ M2 ⟨o1, o2, rfl, R2, ho2⟩
    rw [List.length_map, List.take_length] at R2
    simp only [jEnumU, dTupleK, dCatK, dBMT, dIdxK, dSlK, dRevK, dVar, dC, dOp, dTest, dII, dIC, dFld, dFldS, dMake, dppNil, dppCons, dMerge, dDisp, dCatL, dRg1, dLstRg, dChain, dEq, dAnd, dOr, dNot, dIfE, dNext, dSeq, dDrop, dRet, dIfS, dNever, hName, hNil, hCons, hTup, hSub, dAsg, dNil, dCons, dTup, dLst, dLstM, dIx, dSet, dCall, dwipe, dYes, jSeq, jRng1, jRng2, dCB, dLen, dListM, dTuple, dII2, dAbs, dInt, dBM0, dBM, dAppend, dPop, dPopAt, dAndV, dNotV, dNeg, dIn, dCat, dNoPart, dPart, dSl, dNewT, dIsi, dLc, dFor, dDc, dFrzA, jKeys, dDictZ, dSortTI, jZipM, if_true, if_false, ite_true, ite_false, Bool.false_eq_true, reduceIte, Bool.not_true, Bool.not_false, List.getElem?_cons_zero, List.getElem?_cons_succ, List.set_cons_zero, List.set_cons_succ, List.map_cons, List.map_nil, List.replicate, List.cons_append, List.nil_append, List.length_cons, List.length_nil, dstart]
    refine ⟨by rw [List.length_map, has]; exact len_ok (by omega), dLcI_idx (fun k => .tup ((srt (nbr ps (k : Int))).map .int)) (fun k d hd Q2 q2 => ?_) ?_⟩
    · rw [List.getElem?_map] at hd
      obtain ⟨a, ha, rfl⟩ := Option.map_eq_some_iff.mp hd
      obtain ⟨r, hr1, hr2⟩ := R2.at' k a ha
      have hk : k < n.toNat := by rw [← has]; exact (List.getElem?_eq_some_iff.mp ha).1
      rw [List.getElem?_map, List.getElem?_range hk] at hr1
      cases hr1
      simp only [jEnumU, dTupleK, dCatK, dBMT, dIdxK, dSlK, dRevK, dVar, dC, dOp, dTest, dII, dIC, dFld, dFldS, dMake, dppNil, dppCons, dMerge, dDisp, dCatL, dRg1, dLstRg, dChain, dEq, dAnd, dOr, dNot, dIfE, dNext, dSeq, dDrop, dRet, dIfS, dNever, hName, hNil, hCons, hTup, hSub, dAsg, dNil, dCons, dTup, dLst, dLstM, dIx, dSet, dCall, dwipe, dYes, jSeq, jRng1, jRng2, dCB, dLen, dListM, dTuple, dII2, dAbs, dInt, dBM0, dBM, dAppend, dPop, dPopAt, dAndV, dNotV, dNeg, dIn, dCat, dNoPart, dPart, dSl, dNewT, dIsi, dLc, dFor, dDc, dFrzA, jKeys, dDictZ, dSortTI, jZipM, if_true, if_false, ite_true, ite_false, Bool.false_eq_true, reduceIte, Bool.not_true, Bool.not_false, List.getElem?_cons_zero, List.getElem?_cons_succ, List.set_cons_zero, List.set_cons_succ, List.map_cons, List.map_nil, List.replicate, List.cons_append, List.nil_append, List.length_cons, List.length_nil, dstart]
      exact dSortI_srt _ (.inr ⟨a, rfl, hr2⟩) q2
    · have e : (List.range (as.map D.ref).length).map (fun (k : Nat) => D.tup ((srt (nbr ps (k : Int))).map .int)) = rowsD n ps := by
        rw [List.length_map, has, rowsD, rowsOf, List.map_map]; rfl
      rw [e]
      refine fin_less (M2 := M) (fun p o hp => ?_) q
      rw [ho2 p fun z => ?_]
      · exact hp
      · rw [hf p z] at hp; cases hp
theorem sc_reached : FnScope ["rows", "inside", "start", "found", "todo", "other"] ["rows", "inside", "start"] (defScope s_reached) := ⟨rfl, rfl, rfl, by decide +kernel, rfl, by decide +kernel, by decide +kernel⟩
def sp_reached : DSp := fun ds M Q _ => ∃ (n : Int) (ps : List (Int × Int)) (d : Addr) (ns : List Int) (s : Int), ds = [.lst (rowsD n ps), .ref d, .int s] ∧ PrsOk n ps ∧ InsAt M d ns ∧ ns.length ≤ 10000 ∧ (∀ x ∈ ns, 0 ≤ x ∧ x < n) ∧ s ∈ ns ∧ ∀ (r : Addr) (ks : List Int), M r = none → ks.Nodup → (∀ x, x ∈ ks ↔ Rch ps ns s x) → Q (.ref r) (mset M r (.dK (ks.map kvT)))
theorem c_reached (F : DFun K mg "reached" s_reached ["rows", "inside", "start"]) (B : Bn mg) (G : Gs mg)  : DCal P w K mg base CX0 1 "reached" sp_reached := by
  refine dok F sc_reached (fun ds M Q E h => (by obtain ⟨_, h⟩ := h; first | (obtain ⟨e, _⟩ := h; subst e; rfl) | (obtain ⟨_, e, _⟩ := h; subst e; rfl) | (obtain ⟨_, _, e, _⟩ := h; subst e; rfl) | (obtain ⟨_, _, _, e, _⟩ := h; subst e; rfl) | (obtain ⟨_, _, _, _, e, _⟩ := h; subst e; rfl) | (obtain ⟨_, _, _, _, _, e, _⟩ := h; subst e; rfl) | (obtain ⟨_, _, _, _, _, _, e, _⟩ := h; subst e; rfl) | (obtain ⟨_, _, _, _, _, _, _, e, _⟩ := h; subst e; rfl) | (obtain ⟨_, _, _, _, _, _, _, _, e, _⟩ := h; subst e; rfl) | (obtain ⟨_, _, _, _, _, _, _, _, _, e, _⟩ := h; subst e; rfl) | (obtain ⟨_, _, _, _, _, _, _, _, _, _, e, _⟩ := h; subst e; rfl) | (obtain ⟨_, _, _, _, _, _, _, _, _, _, _, e, _⟩ := h; subst e; rfl) | (obtain ⟨_, _, _, _, _, _, _, _, _, _, _, _, e, _⟩ := h; subst e; rfl) | (obtain ⟨_, _, _, _, _, _, _, _, _, _, _, _, _, e, _⟩ := h; subst e; rfl) | (obtain ⟨_, _, _, _, _, _, _, _, _, _, _, _, _, _, e, _⟩ := h; subst e; rfl) | (obtain ⟨_, _, _, _, _, _, _, _, _, _, _, _, _, _, _, e, _⟩ := h; subst e; rfl) | (obtain ⟨_, _, _, _, _, _, _, _, _, _, _, _, _, _, _, _, e, _⟩ := h; subst e; rfl) | (obtain ⟨_, _, _, _, _, _, _, _, _, _, _, _, _, _, _, _, _, e, _⟩ := h; subst e; rfl) | (obtain ⟨_, _, _, _, _, _, _, _, _, _, _, _, _, _, _, _, _, _, e, _⟩ := h; subst e; rfl) | (obtain ⟨_, _, _, _, _, _, _, _, _, _, _, _, _, _, _, _, _, _, _, e, _⟩ := h; subst e; rfl) | (obtain ⟨_, _, _, _, _, _, _, _, _, _, _, _, _, _, _, _, _, _, _, _, e, _⟩ := h; subst e; rfl) | (obtain ⟨_, _, _, _, _, _, _, _, _, _, _, _, _, _, _, _, _, _, _, _, _, e, _⟩ := h; subst e; rfl) | (obtain ⟨_, _, _, _, _, _, _, _, _, _, _, _, _, _, _, _, _, _, _, _, _, _, e, _⟩ := h; subst e; rfl) | (obtain ⟨_, _, _, _, _, _, _, _, _, _, _, _, _, _, _, _, _, _, _, _, _, _, _, e, _⟩ := h; subst e; rfl) | (obtain ⟨_, _, _, _, _, _, _, _, _, _, _, _, _, _, _, _, _, _, _, _, _, _, _, _, e, _⟩ := h; subst e; rfl) | (obtain ⟨_, _, _, _, _, _, _, _, _, _, _, _, _, _, _, _, _, _, _, _, _, _, _, _, _, e, _⟩ := h; subst e; rfl))) (fun f cdv A outer s H E F0 hr => ?_)
  have nd := (sc_reached).nd
  refine ⟨_, _, (db_cons (ds_set 3 nd (de_disp (dpp_cons (de_var 2) de_bl dpp_nil)))
      (db_cons (ds_set 4 nd (de_lstM (da_cons (de_var 2) da_nil)))
      (db_cons (ds_while PassesOwn.never (dt_gt (de_len B.len (da_cons (de_var 4) da_nil)) de_int) (db_one (ds_for PassesOwn.never rfl (di_seq (de_ix hr (de_var 0) (de_pop (de_var 4)))) (dg_name 5 nd) (db_one (ds_if (DW.dt (dw_and (dt_in hr (de_var 5) (de_var 1)) (dw_and1 (dt_notIn hr (de_var 5) (de_var 3))))) (db_cons (ds_put hr (de_var 3) (de_var 5) de_bl)
      (db_one (ds_expr (de_append (de_var 4) (da_cons (de_var 5) da_nil))))) db_nil)))))
      (db_one (ds_ret (de_var 3)))))), ?_⟩
  rintro ds M Q E ⟨n, ps, d, ns, s, rfl, hp, hi, hz, hn, hs, q⟩
  simp only [jEnumU, dTupleK, dCatK, dBMT, dIdxK, dSlK, dRevK, dVar, dC, dOp, dTest, dII, dIC, dFld, dFldS, dMake, dppNil, dppCons, dMerge, dDisp, dCatL, dRg1, dLstRg, dChain, dEq, dAnd, dOr, dNot, dIfE, dNext, dSeq, dDrop, dRet, dIfS, dNever, hName, hNil, hCons, hTup, hSub, dAsg, dNil, dCons, dTup, dLst, dLstM, dIx, dSet, dCall, dwipe, dYes, jSeq, jRng1, jRng2, dCB, dLen, dListM, dTuple, dII2, dAbs, dInt, dBM0, dBM, dAppend, dPop, dPopAt, dAndV, dNotV, dNeg, dIn, dCat, dNoPart, dPart, dSl, dNewT, dIsi, dLc, dFor, dDc, dFrzA, jKeys, dDictZ, dSortTI, jZipM, if_true, if_false, ite_true, ite_false, Bool.false_eq_true, reduceIte, Bool.not_true, Bool.not_false, List.getElem?_cons_zero, List.getElem?_cons_succ, List.set_cons_zero, List.set_cons_succ, List.map_cons, List.map_nil, List.replicate, List.cons_append, List.nil_append, List.length_cons, List.length_nil, dstart]
  intro r hr
  refine ⟨_, rfl, fun _ => ⟨by decide, by decide, fun td htd => ?_⟩⟩
  have e0 : (dput [] (.inl s) (.bl true) : List (Key × D)) = [s].map kvT := rfl
  rw [e0] at htd ⊢
  have ntd : td ≠ r := fun e => by rw [e, mset_same] at htd; cases htd
  have htd0 : M td = none := by rw [mset_ne ntd] at htd; exact htd
  have hd : d ≠ r ∧ d ≠ td := by
    obtain ⟨kvs, h1, _⟩ := hi.ex
    exact ⟨fun e => by (rw [e, hr] at h1; cases h1), fun e => by (rw [e, htd0] at h1; cases h1)⟩
  have mem_ns : ∀ {ks : List Int}, (∀ x, x ∈ ks → Rch ps ns s x) → ∀ x, x ∈ ks → x ∈ ns := fun h x hx => (h x hx).mem hs
  refine ⟨fun m γ M' => ∃ (o : Option D) (ks ts : List Int), γ = [some (.lst (rowsD n ps)), some (.ref d), some (.int s), some (.ref r), some (.ref td), o] ∧ M' r = some (.dK (ks.map kvT)) ∧ M' td = some (.lst (ts.map .int)) ∧ Agree M M' [r, td] ∧ ks.Nodup ∧ (∀ x, x ∈ ks → Rch ps ns s x) ∧ s ∈ ks ∧ (∀ x, x ∈ ts → x ∈ ks) ∧ ts.length ≤ ks.length ∧
    (∀ x, x ∈ ks → x ∈ ts ∨ ∀ y, y ∈ nbr ps x → y ∈ ns → y ∈ ks) ∧ m = 2 * (ns.length - ks.length) + ts.length, ⟨_, none, [s], [s], rfl, ?_, mset_same, fun q hq => ?_, by simp, ?_, by simp, fun x hx => hx, by simp, fun x hx => .inl hx, rfl⟩, ?_⟩
  · rw [mset_ne (Ne.symm ntd), mset_same]
  · simp only [List.mem_cons, List.not_mem_nil, or_false, not_or] at hq
    rw [mset_ne hq.2, mset_ne hq.1]
  · intro x hx
    rw [List.mem_singleton.mp hx]; exact .refl
  rintro m γ M' ⟨o, ks, ts, rfl, hk, ht, ag, nd, hR, hsk, hts, hlen, cl, rfl⟩
  have hkl : ks.length ≤ ns.length := nodup_len nd (mem_ns hR)
  simp only [jEnumU, dTupleK, dCatK, dBMT, dIdxK, dSlK, dRevK, dVar, dC, dOp, dTest, dII, dIC, dFld, dFldS, dMake, dppNil, dppCons, dMerge, dDisp, dCatL, dRg1, dLstRg, dChain, dEq, dAnd, dOr, dNot, dIfE, dNext, dSeq, dDrop, dRet, dIfS, dNever, hName, hNil, hCons, hTup, hSub, dAsg, dNil, dCons, dTup, dLst, dLstM, dIx, dSet, dCall, dwipe, dYes, jSeq, jRng1, jRng2, dCB, dLen, dListM, dTuple, dII2, dAbs, dInt, dBM0, dBM, dAppend, dPop, dPopAt, dAndV, dNotV, dNeg, dIn, dCat, dNoPart, dPart, dSl, dNewT, dIsi, dLc, dFor, dDc, dFrzA, jKeys, dDictZ, dSortTI, jZipM, if_true, if_false, ite_true, ite_false, Bool.false_eq_true, reduceIte, Bool.not_true, Bool.not_false, List.getElem?_cons_zero, List.getElem?_cons_succ, List.set_cons_zero, List.set_cons_succ, List.map_cons, List.map_nil, List.replicate, List.cons_append, List.nil_append, List.length_cons, List.length_nil, dstart]
  refine ⟨ts.length, by simp only [lenV, ht, List.length_map], ?_⟩
  rcases snoc_cases ts with rfl | ⟨ts', x, rfl⟩
  · simp only [jEnumU, dTupleK, dCatK, dBMT, dIdxK, dSlK, dRevK, dVar, dC, dOp, dTest, dII, dIC, dFld, dFldS, dMake, dppNil, dppCons, dMerge, dDisp, dCatL, dRg1, dLstRg, dChain, dEq, dAnd, dOr, dNot, dIfE, dNext, dSeq, dDrop, dRet, dIfS, dNever, hName, hNil, hCons, hTup, hSub, dAsg, dNil, dCons, dTup, dLst, dLstM, dIx, dSet, dCall, dwipe, dYes, jSeq, jRng1, jRng2, dCB, dLen, dListM, dTuple, dII2, dAbs, dInt, dBM0, dBM, dAppend, dPop, dPopAt, dAndV, dNotV, dNeg, dIn, dCat, dNoPart, dPart, dSl, dNewT, dIsi, dLc, dFor, dDc, dFrzA, jKeys, dDictZ, dSortTI, jZipM, if_true, if_false, ite_true, ite_false, Bool.false_eq_true, reduceIte, Bool.not_true, Bool.not_false, List.getElem?_cons_zero, List.getElem?_cons_succ, List.set_cons_zero, List.set_cons_succ, List.map_cons, List.map_nil, List.replicate, List.cons_append, List.nil_append, List.length_cons, List.length_nil, dstart]
    rw [if_neg (by decide)]
    refine fin_less (fun q o h => ?_) (q r ks hr nd fun x => ⟨hR x, fun ⟨t, h⟩ => ?_⟩)
    · by_cases e : q = r
      · rw [e, mset_same] at h; rw [e, hk]; exact h
      · rw [mset_ne e] at h
        rw [ag q (by
          simp only [List.mem_cons, List.not_mem_nil, or_false, not_or]
          exact ⟨e, fun z => by (rw [z, htd0] at h; cases h)⟩)]
        exact h
    · induction t generalizing x with
      | zero => rw [show x = s from h]; exact hsk
      | succ t ih =>
        obtain ⟨z, h1, h2, h3⟩ := h
        rcases cl z (ih z ⟨_, h1⟩ h1) with h4 | h4
        · cases h4
        · exact h4 x h2 h3
  · rw [if_pos (by first | (simp; done) | (simp; omega))]
    simp only [tyD, ht]
    have hx : x ∈ ks := hts x (by simp)
    have hxn := hn x (mem_ns hR x hx)
    refine ⟨trivial, .int x, by simp, .tup ((srt (nbr ps x)).map .int), rowsD_get hxn.1 hxn.2, ?_⟩
    have nl := nbr_len ps x
    have hdl : ((ts' ++ [x]).map D.int).dropLast = ts'.map D.int := by rw [List.map_append]; exact List.dropLast_concat
    simp only [jEnumU, dTupleK, dCatK, dBMT, dIdxK, dSlK, dRevK, dVar, dC, dOp, dTest, dII, dIC, dFld, dFldS, dMake, dppNil, dppCons, dMerge, dDisp, dCatL, dRg1, dLstRg, dChain, dEq, dAnd, dOr, dNot, dIfE, dNext, dSeq, dDrop, dRet, dIfS, dNever, hName, hNil, hCons, hTup, hSub, dAsg, dNil, dCons, dTup, dLst, dLstM, dIx, dSet, dCall, dwipe, dYes, jSeq, jRng1, jRng2, dCB, dLen, dListM, dTuple, dII2, dAbs, dInt, dBM0, dBM, dAppend, dPop, dPopAt, dAndV, dNotV, dNeg, dIn, dCat, dNoPart, dPart, dSl, dNewT, dIsi, dLc, dFor, dDc, dFrzA, jKeys, dDictZ, dSortTI, jZipM, if_true, if_false, ite_true, ite_false, Bool.false_eq_true, reduceIte, Bool.not_true, Bool.not_false, List.getElem?_cons_zero, List.getElem?_cons_succ, List.set_cons_zero, List.set_cons_succ, List.map_cons, List.map_nil, List.replicate, List.cons_append, List.nil_append, List.length_cons, List.length_nil, dstart, hdl]
    refine dForI_of (fun i γ M' => ∃ (o : Option D) (ks2 ts2 : List Int), γ = [some (.lst (rowsD n ps)), some (.ref d), some (.int s), some (.ref r), some (.ref td), o] ∧ M' r = some (.dK (ks2.map kvT)) ∧ M' td = some (.lst (ts2.map .int)) ∧ Agree M M' [r, td] ∧ ks2.Nodup ∧ (∀ x, x ∈ ks2 → Rch ps ns s x) ∧ s ∈ ks2 ∧ (∀ x, x ∈ ts2 → x ∈ ks2) ∧ ts2.length ≤ ks2.length ∧ x ∈ ks2 ∧
      (∀ z, z ∈ ks2 → z ∈ ts2 ∨ z = x ∨ ∀ y, y ∈ nbr ps z → y ∈ ns → y ∈ ks2) ∧ (∀ y, y ∈ (srt (nbr ps x)).take i → y ∈ ns → y ∈ ks2) ∧ 2 * (ns.length - ks2.length) + ts2.length < 2 * (ns.length - ks.length) + (ts' ++ [x]).length) ⟨o, ks, ts', rfl, ?_, mset_same, ?_, nd, hR, hsk, fun y hy => hts y (List.mem_append_left _ hy), ?_, hx, fun z hz => ?_, by simp, ?_⟩ ?_ ?_
    · rw [mset_ne (Ne.symm ntd)]; exact hk
    · exact ag.trans (Agree.mset (by simp))
    · rw [List.length_append] at hlen; omega
    · rcases cl z hz with h | h
      · rcases List.mem_append.mp h with h | h
        · exact .inl h
        · exact .inr (.inl (List.mem_singleton.mp h))
      · exact .inr (.inr h)
    · rw [List.length_append]; simp
    · rintro i e γ M2 he ⟨o, ks2, ts2, rfl, k2, t2, ag2, nd2, R2, s2, m2, l2, x2, c2, p2, w2⟩
      obtain ⟨y, hy, rfl⟩ := get_int he
      have hyn : y ∈ nbr ps x := srt_mem.mp (List.mem_of_getElem? hy)
      have i2 : InsAt M2 d ns := hi.keep (ag2 d (by simp [hd.1, hd.2]))
      have kl2 : ks2.length ≤ ns.length := nodup_len nd2 (mem_ns R2)
      have stay : (y ∈ ns → y ∈ ks2) → ∀ z, z ∈ (srt (nbr ps x)).take (i + 1) → z ∈ ns → z ∈ ks2 := fun h z hz hzn => by
        rw [take_succ_of hy] at hz
        rcases List.mem_append.mp hz with hz | hz
        · exact p2 z hz hzn
        · rw [List.mem_singleton.mp hz] at hzn ⊢; exact h hzn
      simp only [jEnumU, dTupleK, dCatK, dBMT, dIdxK, dSlK, dRevK, dVar, dC, dOp, dTest, dII, dIC, dFld, dFldS, dMake, dppNil, dppCons, dMerge, dDisp, dCatL, dRg1, dLstRg, dChain, dEq, dAnd, dOr, dNot, dIfE, dNext, dSeq, dDrop, dRet, dIfS, dNever, hName, hNil, hCons, hTup, hSub, dAsg, dNil, dCons, dTup, dLst, dLstM, dIx, dSet, dCall, dwipe, dYes, jSeq, jRng1, jRng2, dCB, dLen, dListM, dTuple, dII2, dAbs, dInt, dBM0, dBM, dAppend, dPop, dPopAt, dAndV, dNotV, dNeg, dIn, dCat, dNoPart, dPart, dSl, dNewT, dIsi, dLc, dFor, dDc, dFrzA, jKeys, dDictZ, dSortTI, jZipM, if_true, if_false, ite_true, ite_false, Bool.false_eq_true, reduceIte, Bool.not_true, Bool.not_false, List.getElem?_cons_zero, List.getElem?_cons_succ, List.set_cons_zero, List.set_cons_succ, List.map_cons, List.map_nil, List.replicate, List.cons_append, List.nil_append, List.length_cons, List.length_nil, dstart]
      refine ⟨_, i2.has y, ?_⟩
      by_cases h1 : y ∈ ns
      · simp only [decide_eq_true h1, if_true, if_false, ite_true, ite_false, Bool.false_eq_true, reduceIte, Bool.not_true, Bool.not_false, List.getElem?_cons_zero, List.getElem?_cons_succ, List.set_cons_zero, List.set_cons_succ, List.map_cons, List.map_nil, List.replicate, List.cons_append, List.nil_append, List.length_cons, List.length_nil, dstart]
        refine ⟨_, has_kvT k2 y, ?_⟩
        by_cases h2 : y ∈ ks2
        · simp only [decide_eq_true h2, if_true, if_false, ite_true, ite_false, Bool.false_eq_true, reduceIte, Bool.not_true, Bool.not_false, List.getElem?_cons_zero, List.getElem?_cons_succ, List.set_cons_zero, List.set_cons_succ, List.map_cons, List.map_nil, List.replicate, List.cons_append, List.nil_append, List.length_cons, List.length_nil, dstart]
          exact ⟨_, ks2, ts2, rfl, k2, t2, ag2, nd2, R2, s2, m2, l2, x2, c2, stay fun _ => h2, w2⟩
        · simp only [decide_eq_false h2, if_true, if_false, ite_true, ite_false, Bool.false_eq_true, reduceIte, Bool.not_true, Bool.not_false, List.getElem?_cons_zero, List.getElem?_cons_succ, List.set_cons_zero, List.set_cons_succ, List.map_cons, List.map_nil, List.replicate, List.cons_append, List.nil_append, List.length_cons, List.length_nil, dstart]
          have nd3 : (ks2 ++ [y]).Nodup := by
            rw [List.nodup_append]
            exact ⟨nd2, by simp, fun a ha b hb => by
              rw [List.mem_singleton.mp hb]
              intro z
              exact h2 (by rw [← z]; exact ha)⟩
          have R3 : ∀ z, z ∈ ks2 ++ [y] → Rch ps ns s z := fun z hz => by
            rcases List.mem_append.mp hz with hz | hz
            · exact R2 z hz
            · rw [List.mem_singleton.mp hz]; exact (R2 x x2).step hyn h1
          have kl3 : (ks2 ++ [y]).length ≤ ns.length := nodup_len nd3 (mem_ns R3)
          rw [List.length_append, List.length_singleton] at kl3
          have st : dStore M2 r (.int y) (.bl true) = some (mset M2 r (.dK ((ks2 ++ [y]).map kvT))) := by
            simp only [dStore, k2, keyOf, Option.bind_some, List.length_map]
            rw [if_pos (len_lt (by omega)), dput_kvT h2]
          refine ⟨_, st, ?_⟩
          simp only [tyD, mset_ne ntd, t2]
          refine ⟨trivial, len_lt (by rw [List.length_map]; omega), _, ks2 ++ [y], ts2 ++ [y], rfl, ?_, ?_, ?_, nd3, R3, List.mem_append_left _ s2, fun z hz => ?_, ?_, List.mem_append_left _ x2, fun z hz => ?_, fun z hz hzn => ?_, ?_⟩
          · rw [mset_ne (Ne.symm ntd), mset_same]
          · rw [mset_same, List.map_append]; rfl
          · exact (ag2.trans (Agree.mset (by simp))).trans (Agree.mset (by simp))
          · rcases List.mem_append.mp hz with hz | hz
            · exact List.mem_append_left _ (m2 z hz)
            · exact List.mem_append_right _ hz
          · rw [List.length_append, List.length_append]; simp; omega
          · rcases List.mem_append.mp hz with hz | hz
            · rcases c2 z hz with h | h | h
              · exact .inl (List.mem_append_left _ h)
              · exact .inr (.inl h)
              · exact .inr (.inr fun u hu hun => List.mem_append_left _ (h u hu hun))
            · exact .inl (List.mem_append_right _ hz)
          · rw [take_succ_of hy] at hz
            rcases List.mem_append.mp hz with hz | hz
            · exact List.mem_append_left _ (p2 z hz hzn)
            · exact List.mem_append_right _ hz
          · rw [List.length_append, List.length_append, List.length_singleton]; omega
      · simp only [decide_eq_false h1, if_true, if_false, ite_true, ite_false, Bool.false_eq_true, reduceIte, Bool.not_true, Bool.not_false, List.getElem?_cons_zero, List.getElem?_cons_succ, List.set_cons_zero, List.set_cons_succ, List.map_cons, List.map_nil, List.replicate, List.cons_append, List.nil_append, List.length_cons, List.length_nil, dstart]
        exact ⟨_, ks2, ts2, rfl, k2, t2, ag2, nd2, R2, s2, m2, l2, x2, c2, stay fun h => absurd h h1, w2⟩
    · rintro γ M2 ⟨o, ks2, ts2, rfl, k2, t2, ag2, nd2, R2, s2, m2, l2, x2, c2, p2, w2⟩
      rw [List.length_map, List.take_length] at p2
      refine ⟨_, w2, o, ks2, ts2, rfl, k2, t2, ag2, nd2, R2, s2, m2, l2, fun z hz => ?_, rfl⟩
      rcases c2 z hz with h | h | h
      · exact .inl h
      · subst h
        exact .inr fun y hy hyn => p2 y (srt_mem.mpr hy) hyn
      · exact .inr h
theorem sc_Book___init__ : FnScope ["self", "size", "ties", "inside", "content"] ["self", "size", "ties"] (defScope s_Book___init__) := ⟨rfl, rfl, rfl, by decide +kernel, rfl, by decide +kernel, by decide +kernel⟩
def sp_Book___init__ (C_TB : Addr) : DSp := fun ds M Q _ => ∃ (p : Addr) (n : Int) (ps : List (Int × Int)), ds = [.ref p, .int n, .kt (ps.map prD)] ∧ M p = some (.ins C_TB []) ∧ BookOk n ps ∧ ∀ d M2, M d = none → BookAt C_TB M2 p n ps d → Agree M M2 [p, d] → Q .non M2
theorem c_Book___init__ {f : Addr} {C_TB : Addr} (F : DMet K "__init__" "Book.__init__" s_Book___init__ f ["self", "size", "ties"]) (B : Bn mg) (G : Gs mg) (TB : Cl_TB K mg C_TB) (c_are_rising_pairs : DCal P w K mg base CX0 5 "are_rising_pairs" sp_are_rising_pairs) (c_beside_lists : DCal P w K mg base CX0 1 "beside_lists" sp_beside_lists) (c_is_within : DCal P w K mg base CX0 2 "is_within" sp_is_within) (c_reached : DCal P w K mg base CX0 1 "reached" sp_reached) : ∃ fd, FnOk P w K mg base CX0 6 f fd ["self", "size", "ties"] (liftSp K (sp_Book___init__ C_TB)) ∧ Binds K fd ["self", "size", "ties"] [] := by
  obtain ⟨t_MOST_CONTENTS, g_MOST_CONTENTS⟩ := G.MOST_CONTENTS
  obtain ⟨t_MOST_TIES, g_MOST_TIES⟩ := G.MOST_TIES
  refine dokM F sc_Book___init__ (fun ds M Q E h => (by obtain ⟨_, h⟩ := h; first | (obtain ⟨e, _⟩ := h; subst e; rfl) | (obtain ⟨_, e, _⟩ := h; subst e; rfl) | (obtain ⟨_, _, e, _⟩ := h; subst e; rfl) | (obtain ⟨_, _, _, e, _⟩ := h; subst e; rfl) | (obtain ⟨_, _, _, _, e, _⟩ := h; subst e; rfl) | (obtain ⟨_, _, _, _, _, e, _⟩ := h; subst e; rfl) | (obtain ⟨_, _, _, _, _, _, e, _⟩ := h; subst e; rfl) | (obtain ⟨_, _, _, _, _, _, _, e, _⟩ := h; subst e; rfl) | (obtain ⟨_, _, _, _, _, _, _, _, e, _⟩ := h; subst e; rfl) | (obtain ⟨_, _, _, _, _, _, _, _, _, e, _⟩ := h; subst e; rfl) | (obtain ⟨_, _, _, _, _, _, _, _, _, _, e, _⟩ := h; subst e; rfl) | (obtain ⟨_, _, _, _, _, _, _, _, _, _, _, e, _⟩ := h; subst e; rfl) | (obtain ⟨_, _, _, _, _, _, _, _, _, _, _, _, e, _⟩ := h; subst e; rfl) | (obtain ⟨_, _, _, _, _, _, _, _, _, _, _, _, _, e, _⟩ := h; subst e; rfl) | (obtain ⟨_, _, _, _, _, _, _, _, _, _, _, _, _, _, e, _⟩ := h; subst e; rfl) | (obtain ⟨_, _, _, _, _, _, _, _, _, _, _, _, _, _, _, e, _⟩ := h; subst e; rfl) | (obtain ⟨_, _, _, _, _, _, _, _, _, _, _, _, _, _, _, _, e, _⟩ := h; subst e; rfl) | (obtain ⟨_, _, _, _, _, _, _, _, _, _, _, _, _, _, _, _, _, e, _⟩ := h; subst e; rfl) | (obtain ⟨_, _, _, _, _, _, _, _, _, _, _, _, _, _, _, _, _, _, e, _⟩ := h; subst e; rfl) | (obtain ⟨_, _, _, _, _, _, _, _, _, _, _, _, _, _, _, _, _, _, _, e, _⟩ := h; subst e; rfl) | (obtain ⟨_, _, _, _, _, _, _, _, _, _, _, _, _, _, _, _, _, _, _, _, e, _⟩ := h; subst e; rfl) | (obtain ⟨_, _, _, _, _, _, _, _, _, _, _, _, _, _, _, _, _, _, _, _, _, e, _⟩ := h; subst e; rfl) | (obtain ⟨_, _, _, _, _, _, _, _, _, _, _, _, _, _, _, _, _, _, _, _, _, _, e, _⟩ := h; subst e; rfl) | (obtain ⟨_, _, _, _, _, _, _, _, _, _, _, _, _, _, _, _, _, _, _, _, _, _, _, e, _⟩ := h; subst e; rfl) | (obtain ⟨_, _, _, _, _, _, _, _, _, _, _, _, _, _, _, _, _, _, _, _, _, _, _, _, e, _⟩ := h; subst e; rfl) | (obtain ⟨_, _, _, _, _, _, _, _, _, _, _, _, _, _, _, _, _, _, _, _, _, _, _, _, _, e, _⟩ := h; subst e; rfl))) (fun cdv A outer s H E F0 hr => ?_)
  have nd := (sc_Book___init__).nd
  refine ⟨_, _, (db_cons (ds_if (dt_not (dt_val (de_call c_is_within hr (goes0A (E := DXK.no)) (da_cons (de_var 1) (da_cons de_int (da_cons (de_globI g_MOST_CONTENTS) da_nil)))))) (db_one ds_never) db_nil)
      (db_cons (ds_if (dt_not (dt_val (de_call c_are_rising_pairs hr (goes0A (E := DXK.no)) (da_cons (de_var 2) (da_cons (de_var 1) (da_cons (de_globI g_MOST_TIES) da_nil)))))) (db_one ds_never) db_nil)
      (db_cons (ds_fld TB.cl TB.n_kept_size (de_var 0) (de_var 1))
      (db_cons (ds_fld TB.cl TB.n_kept_ties (de_var 0) (de_var 2))
      (db_cons (ds_fld TB.cl TB.n_kept_facts (de_var 0) (de_disp (dpp_cons de_str (de_call c_beside_lists hr (goes0A (E := DXK.no)) (da_cons (de_var 1) (da_cons (de_var 2) da_nil))) dpp_nil)))
      (db_cons (dx_setDc 3 (own := [("content", 4)]) rfl nd (sw_trueD rfl rfl rfl (by decide +kernel)) (di_range1 B.range (da_cons (de_var 1) da_nil)) (blkOk_by (N := ["self", "size", "ties", "inside", "content"]) (sc := defScope s_Book___init__) (by decide +kernel)) (fun _ _ _ _ _ => ⟨_, (dg_name 4 nd), (gw_name (by decide))⟩) (fun _ _ _ _ _ => ⟨_, dts_nil⟩) (fun _ _ _ _ _ => ⟨_, (de_var 4)⟩) (fun _ _ _ _ _ => ⟨_, de_bl⟩))
      (db_one (ds_if (dt_lt (de_len B.len (da_cons (de_call c_reached hr (goes0A (E := DXK.no)) (da_cons (de_ix hr (de_fld TB.cl TB.n_kept_facts (de_var 0)) de_str) (da_cons (de_var 3) (da_cons de_int da_nil)))) da_nil)) (de_var 1)) (db_one ds_never) db_nil)))))))), ?_⟩
  rintro ds M Q E ⟨p, n, ps, rfl, hp, ok, q⟩
  have n0 := ok.lo
  have n8 := ok.hi
  have l28 := ok.pr.len28 n8
  have e1 : (D.int n).within 1 8 = true := by simp only [D.within, Bool.and_eq_true, decide_eq_true_eq]; omega
  refine dSeq_then (fun γ' M' => γ' = [some (.ref p), some (.int n), some (.kt (ps.map prD)), none, none] ∧ M' = M) (fun nx hn => ?_) (fun γ1 M1 h1 => ?_)
  · simp only [jEnumU, dTupleK, dCatK, dBMT, dIdxK, dSlK, dRevK, dVar, dC, dOp, dTest, dII, dIC, dFld, dFldS, dMake, dppNil, dppCons, dMerge, dDisp, dCatL, dRg1, dLstRg, dChain, dEq, dAnd, dOr, dNot, dIfE, dNext, dSeq, dDrop, dRet, dIfS, dNever, hName, hNil, hCons, hTup, hSub, dAsg, dNil, dCons, dTup, dLst, dLstM, dIx, dSet, dCall, dwipe, dYes, jSeq, jRng1, jRng2, dCB, dLen, dListM, dTuple, dII2, dAbs, dInt, dBM0, dBM, dAppend, dPop, dPopAt, dAndV, dNotV, dNeg, dIn, dCat, dNoPart, dPart, dSl, dNewT, dIsi, dLc, dFor, dDc, dFrzA, jKeys, dDictZ, dSortTI, jZipM, if_true, if_false, ite_true, ite_false, Bool.false_eq_true, reduceIte, Bool.not_true, Bool.not_false, List.getElem?_cons_zero, List.getElem?_cons_succ, List.set_cons_zero, List.set_cons_succ, List.map_cons, List.map_nil, List.replicate, List.cons_append, List.nil_append, List.length_cons, List.length_nil, dstart]
    refine ⟨.int n, 1, 8, rfl, rfl, ?_⟩
    rw [e1]
    simp only [if_true, if_false, ite_true, ite_false, Bool.false_eq_true, reduceIte, Bool.not_true, Bool.not_false, List.getElem?_cons_zero, List.getElem?_cons_succ, List.set_cons_zero, List.set_cons_succ, List.map_cons, List.map_nil, List.replicate, List.cons_append, List.nil_append, List.length_cons, List.length_nil, dstart]
    exact hn _ _ ⟨rfl, rfl⟩
  obtain ⟨rfl, rfl⟩ := h1
  refine dSeq_then (fun γ' M' => γ' = [some (.ref p), some (.int n), some (.kt (ps.map prD)), none, none] ∧ M' = M1) (fun nx hn => ?_) (fun γ2 M2 h2 => ?_)
  · simp only [jEnumU, dTupleK, dCatK, dBMT, dIdxK, dSlK, dRevK, dVar, dC, dOp, dTest, dII, dIC, dFld, dFldS, dMake, dppNil, dppCons, dMerge, dDisp, dCatL, dRg1, dLstRg, dChain, dEq, dAnd, dOr, dNot, dIfE, dNext, dSeq, dDrop, dRet, dIfS, dNever, hName, hNil, hCons, hTup, hSub, dAsg, dNil, dCons, dTup, dLst, dLstM, dIx, dSet, dCall, dwipe, dYes, jSeq, jRng1, jRng2, dCB, dLen, dListM, dTuple, dII2, dAbs, dInt, dBM0, dBM, dAppend, dPop, dPopAt, dAndV, dNotV, dNeg, dIn, dCat, dNoPart, dPart, dSl, dNewT, dIsi, dLc, dFor, dDc, dFrzA, jKeys, dDictZ, dSortTI, jZipM, if_true, if_false, ite_true, ite_false, Bool.false_eq_true, reduceIte, Bool.not_true, Bool.not_false, List.getElem?_cons_zero, List.getElem?_cons_succ, List.set_cons_zero, List.set_cons_succ, List.map_cons, List.map_nil, List.replicate, List.cons_append, List.nil_append, List.length_cons, List.length_nil, dstart]
    refine ⟨ps, n, 28, rfl, by omega, by omega, ok.pr, ?_⟩
    simp only [if_true, if_false, ite_true, ite_false, Bool.false_eq_true, reduceIte, Bool.not_true, Bool.not_false, List.getElem?_cons_zero, List.getElem?_cons_succ, List.set_cons_zero, List.set_cons_succ, List.map_cons, List.map_nil, List.replicate, List.cons_append, List.nil_append, List.length_cons, List.length_nil, dstart]
    exact hn _ _ ⟨rfl, rfl⟩
  obtain ⟨rfl, rfl⟩ := h2
  simp only [jEnumU, dTupleK, dCatK, dBMT, dIdxK, dSlK, dRevK, dVar, dC, dOp, dTest, dII, dIC, dFld, dFldS, dMake, dppNil, dppCons, dMerge, dDisp, dCatL, dRg1, dLstRg, dChain, dEq, dAnd, dOr, dNot, dIfE, dNext, dSeq, dDrop, dRet, dIfS, dNever, hName, hNil, hCons, hTup, hSub, dAsg, dNil, dCons, dTup, dLst, dLstM, dIx, dSet, dCall, dwipe, dYes, jSeq, jRng1, jRng2, dCB, dLen, dListM, dTuple, dII2, dAbs, dInt, dBM0, dBM, dAppend, dPop, dPopAt, dAndV, dNotV, dNeg, dIn, dCat, dNoPart, dPart, dSl, dNewT, dIsi, dLc, dFor, dDc, dFrzA, jKeys, dDictZ, dSortTI, jZipM, if_true, if_false, ite_true, ite_false, Bool.false_eq_true, reduceIte, Bool.not_true, Bool.not_false, List.getElem?_cons_zero, List.getElem?_cons_succ, List.set_cons_zero, List.set_cons_succ, List.map_cons, List.map_nil, List.replicate, List.cons_append, List.nil_append, List.length_cons, List.length_nil, dstart, hp, mset_same, mset_mset, putD, bne]
  refine ⟨trivial, by decide, trivial, by decide, fun f hf => ⟨_, rfl, n, ps, rfl, by omega, by omega, by omega, ok.pr, fun hf2 => ⟨by decide, ?_⟩⟩⟩
  have fp : f ≠ p := fun e => by rw [e, mset_same] at hf; cases hf
  have hf0 : M2 f = none := by rw [mset_ne fp] at hf; exact hf
  have e2 : (dput [] (.inr "tied") (.lst (rowsD n ps)) : List (Key × D)) = [(.inr "tied", .lst (rowsD n ps))] := rfl
  simp only [e2, mset_ne (Ne.symm fp), mset_same, if_true, if_false, ite_true, ite_false, Bool.false_eq_true, reduceIte, Bool.not_true, Bool.not_false, List.getElem?_cons_zero, List.getElem?_cons_succ, List.set_cons_zero, List.set_cons_succ, List.map_cons, List.map_nil, List.replicate, List.cons_append, List.nil_append, List.length_cons, List.length_nil, dstart, putD, bne]
  rw [rgD_all]
  refine ⟨trivial, by decide, by omega, by rw [List.length_map, allOf_len]; exact len_ok (by omega), ?_⟩
  have hb : BookAt C_TB (mset (mset (mset M2 p (.ins C_TB [("kept_size", .int n), ("kept_ties", .kt (ps.map prD))])) f (.dK [(.inr "tied", .lst (rowsD n ps))])) p (.ins C_TB (bookF n ps f))) p n ps f := ⟨mset_same, by rw [mset_ne fp, mset_same], ok⟩
  have ag : Agree M2 (mset (mset (mset M2 p (.ins C_TB [("kept_size", .int n), ("kept_ties", .kt (ps.map prD))])) f (.dK [(.inr "tied", .lst (rowsD n ps))])) p (.ins C_TB (bookF n ps f))) [p, f] := ((Agree.mset (by simp)).trans (Agree.mset (by simp))).trans (Agree.mset (by simp))
  change dDcI _ _ _ _ _ _ _ (mset (mset (mset M2 p (.ins C_TB [("kept_size", .int n), ("kept_ties", .kt (ps.map prD))])) f (.dK [(.inr "tied", .lst (rowsD n ps))])) p (.ins C_TB (bookF n ps f))) _
  revert hb ag
  generalize mset (mset (mset M2 p (.ins C_TB [("kept_size", .int n), ("kept_ties", .kt (ps.map prD))])) f (.dK [(.inr "tied", .lst (rowsD n ps))])) p (.ins C_TB (bookF n ps f)) = Ma
  intro B ag
  refine dDcI_map (fun d => match d with | .int i => .inl i | _ => .inl 0) (fun _ => .bl true) (fun i e he Q2 q2 => ?_) fun i hi => ?_
  · obtain ⟨y, hy, rfl⟩ := get_int he
    simp only [jEnumU, dTupleK, dCatK, dBMT, dIdxK, dSlK, dRevK, dVar, dC, dOp, dTest, dII, dIC, dFld, dFldS, dMake, dppNil, dppCons, dMerge, dDisp, dCatL, dRg1, dLstRg, dChain, dEq, dAnd, dOr, dNot, dIfE, dNext, dSeq, dDrop, dRet, dIfS, dNever, hName, hNil, hCons, hTup, hSub, dAsg, dNil, dCons, dTup, dLst, dLstM, dIx, dSet, dCall, dwipe, dYes, jSeq, jRng1, jRng2, dCB, dLen, dListM, dTuple, dII2, dAbs, dInt, dBM0, dBM, dAppend, dPop, dPopAt, dAndV, dNotV, dNeg, dIn, dCat, dNoPart, dPart, dSl, dNewT, dIsi, dLc, dFor, dDc, dFrzA, jKeys, dDictZ, dSortTI, jZipM, if_true, if_false, ite_true, ite_false, Bool.false_eq_true, reduceIte, Bool.not_true, Bool.not_false, List.getElem?_cons_zero, List.getElem?_cons_succ, List.set_cons_zero, List.set_cons_succ, List.map_cons, List.map_nil, List.replicate, List.cons_append, List.nil_append, List.length_cons, List.length_nil, dstart]
    exact ⟨_, rfl, q2⟩
  have e := fold_kvT (allOf n) [] (by simpa using allOf_nodup n)
  rw [List.nil_append] at e
  have e2 : (List.map kvT ([] : List Int)) = ([] : List (Key × D)) := rfl
  rw [e2] at e
  rw [e]
  have ip : i ≠ p := fun e => by (rw [e, B.ob] at hi; cases hi)
  have jf : i ≠ f := fun e => by (rw [e, B.fc] at hi; cases hi)
  have B2 : BookAt C_TB (mset Ma i (.dK ((allOf n).map kvT))) p n ps f := B.keep (S := [i]) (Agree.mset (by simp)) (by simpa using Ne.symm ip) (by simpa using Ne.symm jf)
  simp only [B2.ob]
  have e0 : (0 : Int) ∈ allOf n := allOf_mem.mpr ⟨by omega, by omega⟩
  refine ⟨trivial, .ref f, fb_facts n ps f, .lst (rowsD n ps), by rw [ix_dK B2.fc, dval_cons, if_pos rfl], n, ps, i, allOf n, 0, rfl, ok.pr, .of mset_same, by rw [allOf_len]; omega, fun x hx => allOf_mem.mp hx, e0, fun r ks hr nd mem => ⟨ks.length, by simp only [lenV, mset_same, List.length_map], ?_⟩⟩
  have kl : ks.length = n.toNat := by
    have h1 := nodup_len nd fun x hx => ((mem x).mp hx).mem e0
    have h2 := nodup_len (allOf_nodup n) fun x hx => (mem x).mpr (ok.hang 0 e0 x hx)
    rw [allOf_len] at h1 h2
    omega
  rw [show decide ((ks.length : Int) < n) = false from decide_eq_false (by omega)]
  simp only [if_true, if_false, ite_true, ite_false, Bool.false_eq_true, reduceIte, Bool.not_true, Bool.not_false, List.getElem?_cons_zero, List.getElem?_cons_succ, List.set_cons_zero, List.set_cons_succ, List.map_cons, List.map_nil, List.replicate, List.cons_append, List.nil_append, List.length_cons, List.length_nil, dstart]
  have rp : r ≠ p := fun e => by (rw [e, B2.ob] at hr; cases hr)
  have rf : r ≠ f := fun e => by (rw [e, B2.fc] at hr; cases hr)
  have ex : Ext M2 (mset (mset Ma i (.dK ((allOf n).map kvT))) r (.dK (ks.map kvT))) [p, f] := by
    have x1 := (ag.ext).mset (o := .dK ((allOf n).map kvT)) (ag.ext.fresh (by simp [ip, jf]) hi)
    exact x1.mset (x1.fresh (by simp [rp, rf]) hr)
  obtain ⟨M3, le, ag3, ep⟩ := ex.cutL
  have B3 : BookAt C_TB (mset (mset Ma i (.dK ((allOf n).map kvT))) r (.dK (ks.map kvT))) p n ps f := B2.keep (S := [r]) (Agree.mset (by simp)) (by simpa using Ne.symm rp) (by simpa using Ne.symm rf)
  exact fin_less le (q f M3 hf0 ⟨(ep p (by simp)).trans B3.ob, (ep f (by simp)).trans B3.fc, ok⟩ ag3)
theorem sc_law : FnScope ["_law_script", "_law_dice_here", "_law_turn", "_law_size", "_law_ties", "_law_book_here", "_law_drawing_here", "_law_due", "_law_told", "_law_begun", "_law_row", "_law_at"] ["_law_script"] (defScope s_law) := ⟨rfl, rfl, rfl, by decide +kernel, rfl, by decide +kernel, by decide +kernel⟩
def sp_law : DSp := spLaw
theorem c_law {f : Addr} {fd : FuncData} {C_TB : Addr} (F : Fun K "law" "law" s_law f fd) (B : Bn mg) (G : Gs mg) (c__law_book : DCal P w K mg base CX0 3 "_law_book" sp__law_book) (c__law_dice : DCal P w K mg base CX0 1 "_law_dice" sp__law_dice) (c__law_draw : DCal P w K mg base CX0 1 "_law_draw" sp__law_draw) (c__law_drawing : DCal P w K mg base CX0 3 "_law_drawing" sp__law_drawing) (c__law_rims : DCal P w K mg base CX0 2 "_law_rims" sp__law_rims) (c_rims : DCal P w K mg base CX0 6 "rims" (sp_rims C_TB)) (MK_Book : DMk P w K mg base CX0 6 "Book" C_TB (sp_Book___init__ C_TB)) : FnOk P w K mg base CX0 8 f fd ["_law_script"] (liftSp K sp_law) := by
  refine dokL F sc_law (fun ds M Q E h => (by obtain ⟨_, h⟩ := h; first | (obtain ⟨e, _⟩ := h; subst e; rfl) | (obtain ⟨_, e, _⟩ := h; subst e; rfl) | (obtain ⟨_, _, e, _⟩ := h; subst e; rfl) | (obtain ⟨_, _, _, e, _⟩ := h; subst e; rfl) | (obtain ⟨_, _, _, _, e, _⟩ := h; subst e; rfl) | (obtain ⟨_, _, _, _, _, e, _⟩ := h; subst e; rfl) | (obtain ⟨_, _, _, _, _, _, e, _⟩ := h; subst e; rfl) | (obtain ⟨_, _, _, _, _, _, _, e, _⟩ := h; subst e; rfl) | (obtain ⟨_, _, _, _, _, _, _, _, e, _⟩ := h; subst e; rfl) | (obtain ⟨_, _, _, _, _, _, _, _, _, e, _⟩ := h; subst e; rfl) | (obtain ⟨_, _, _, _, _, _, _, _, _, _, e, _⟩ := h; subst e; rfl) | (obtain ⟨_, _, _, _, _, _, _, _, _, _, _, e, _⟩ := h; subst e; rfl) | (obtain ⟨_, _, _, _, _, _, _, _, _, _, _, _, e, _⟩ := h; subst e; rfl) | (obtain ⟨_, _, _, _, _, _, _, _, _, _, _, _, _, e, _⟩ := h; subst e; rfl) | (obtain ⟨_, _, _, _, _, _, _, _, _, _, _, _, _, _, e, _⟩ := h; subst e; rfl) | (obtain ⟨_, _, _, _, _, _, _, _, _, _, _, _, _, _, _, e, _⟩ := h; subst e; rfl) | (obtain ⟨_, _, _, _, _, _, _, _, _, _, _, _, _, _, _, _, e, _⟩ := h; subst e; rfl) | (obtain ⟨_, _, _, _, _, _, _, _, _, _, _, _, _, _, _, _, _, e, _⟩ := h; subst e; rfl) | (obtain ⟨_, _, _, _, _, _, _, _, _, _, _, _, _, _, _, _, _, _, e, _⟩ := h; subst e; rfl) | (obtain ⟨_, _, _, _, _, _, _, _, _, _, _, _, _, _, _, _, _, _, _, e, _⟩ := h; subst e; rfl) | (obtain ⟨_, _, _, _, _, _, _, _, _, _, _, _, _, _, _, _, _, _, _, _, e, _⟩ := h; subst e; rfl) | (obtain ⟨_, _, _, _, _, _, _, _, _, _, _, _, _, _, _, _, _, _, _, _, _, e, _⟩ := h; subst e; rfl) | (obtain ⟨_, _, _, _, _, _, _, _, _, _, _, _, _, _, _, _, _, _, _, _, _, _, e, _⟩ := h; subst e; rfl) | (obtain ⟨_, _, _, _, _, _, _, _, _, _, _, _, _, _, _, _, _, _, _, _, _, _, _, e, _⟩ := h; subst e; rfl) | (obtain ⟨_, _, _, _, _, _, _, _, _, _, _, _, _, _, _, _, _, _, _, _, _, _, _, _, e, _⟩ := h; subst e; rfl) | (obtain ⟨_, _, _, _, _, _, _, _, _, _, _, _, _, _, _, _, _, _, _, _, _, _, _, _, _, e, _⟩ := h; subst e; rfl))) (fun cdv A outer s H E F0 hr => ?_)
  have nd := (sc_law).nd
  refine ⟨_, _, (db_cons (ds_set 1 nd (de_call c__law_dice hr (goes0A (E := DXK.no)) (da_cons (de_var 0) da_nil)))
      (db_cons (ds_for PassesOwn.never rfl (di_range1 B.range (da_cons de_int da_nil)) (dg_name 2 nd) (db_cons (ds_asg (de_call c__law_book hr (goes0A (E := DXK.no)) (da_cons (de_var 1) (da_cons de_int da_nil))) (dg_tup (n := 2) rfl (dgs_cons (dg_name 3 nd) (dgs_cons (dg_name 4 nd) dgs_nil))))
      (db_cons (ds_set 5 nd (de_make MK_Book hr (goes0A (E := DXK.no)) (da_cons (de_var 3) (da_cons (de_var 4) da_nil))))
      (db_cons (ds_set 6 nd (de_call c__law_drawing hr (goes0A (E := DXK.no)) (da_cons (de_var 1) (da_cons (de_var 3) (da_cons (de_var 4) (da_cons (de_eq hr (de_call c__law_draw hr (goes0A (E := DXK.no)) (da_cons (de_var 1) (da_cons de_int da_nil))) de_int) da_nil))))))
      (db_cons (ds_set 7 nd (de_call c__law_rims hr (goes0A (E := DXK.no)) (da_cons (de_var 3) (da_cons (de_var 4) (da_cons (de_var 6) da_nil)))))
      (db_cons (ds_set 8 nd (de_call c_rims hr (goes0A (E := DXK.no)) (da_cons (de_var 5) (da_cons (de_var 6) da_nil))))
      (db_cons (ds_if (DW.dt (dw_or (dt_val (de_isi B.isinstance (da_cons (de_var 8) (da_cons (de_ty (n := "bool") B.bool) da_nil)))) (dw_or1 (dt_ne hr (de_var 8) (de_var 7))))) (db_one (ds_ret de_bl)) db_nil)
      (db_cons (ds_set 9 nd (de_tup da_nil))
      (db_cons (ds_for PassesOwn.never rfl (di_seq (de_ix hr (de_var 6) de_int)) (dg_name 10 nd) (db_cons (ds_set 11 nd (de_ifExp (dt_gt (de_len B.len (da_cons (de_var 10) da_nil)) de_int) (de_call c__law_draw hr (goes0A (E := DXK.no)) (da_cons (de_var 1) (da_cons (de_len B.len (da_cons (de_var 10) da_nil)) da_nil))) de_int))
      (db_one (ds_set 9 nd (de_cat (de_var 9) (de_tup (da_cons (de_catK (de_sliceK (de_var 10) (do_some (de_var 11)) do_none) (de_sliceK (de_var 10) do_none (do_some (de_var 11)))) da_nil)))))))
      (db_cons (ds_if (dt_ne hr (de_call c_rims hr (goes0A (E := DXK.no)) (da_cons (de_var 5) (da_cons (de_tup (da_cons (de_var 9) (da_cons (de_ix hr (de_var 6) de_int) da_nil))) da_nil))) (de_var 7)) (db_one (ds_ret de_bl)) db_nil)
      (db_one (ds_if (dt_ne hr (de_call c_rims hr (goes0A (E := DXK.no)) (da_cons (de_var 5) (da_cons (de_tup (da_cons (de_bty call_tuple_of lc_tuple B.tuple (da_cons (dx_lc (own := [("_law_row", 10)]) rfl nd (di_seq (de_ix hr (de_var 6) de_int)) (blkOk_by (N := ["_law_script", "_law_dice_here", "_law_turn", "_law_size", "_law_ties", "_law_book_here", "_law_drawing_here", "_law_due", "_law_told", "_law_begun", "_law_row", "_law_at"]) (sc := defScope s_law) (by decide +kernel)) (fun _ _ _ _ _ => ⟨_, (dg_name 10 nd), (gw_name (by decide))⟩) (fun _ _ _ _ _ => ⟨_, dts_nil⟩) (fun _ _ _ _ _ => ⟨_, (de_revK (de_var 10))⟩)) da_nil)) (da_cons (de_ix hr (de_var 6) de_int) da_nil))) da_nil))) (de_var 7)) (db_one (ds_ret de_bl)) db_nil))))))))))))
      (db_one (ds_ret de_bl)))), ?_⟩
  rintro ds M Q E ⟨ss, rfl, hl, hM, q⟩
  refine dSeq_then (fun γ' M' => ∃ p : Addr, γ' = [some (.ls (ss.map .int)), some (.ref p), none, none, none, none, none, none, none, none, none, none] ∧ DiL M' p) (fun nx hn => ?_) (fun γ1 M1 h1 => ?_)
  · simp only [jEnumU, dTupleK, dCatK, dBMT, dIdxK, dSlK, dRevK, dVar, dC, dOp, dTest, dII, dIC, dFld, dFldS, dMake, dppNil, dppCons, dMerge, dDisp, dCatL, dRg1, dLstRg, dChain, dEq, dAnd, dOr, dNot, dIfE, dNext, dSeq, dDrop, dRet, dIfS, dNever, hName, hNil, hCons, hTup, hSub, dAsg, dNil, dCons, dTup, dLst, dLstM, dIx, dSet, dCall, dwipe, dYes, jSeq, jRng1, jRng2, dCB, dLen, dListM, dTuple, dII2, dAbs, dInt, dBM0, dBM, dAppend, dPop, dPopAt, dAndV, dNotV, dNeg, dIn, dCat, dNoPart, dPart, dSl, dNewT, dIsi, dLc, dFor, dDc, dFrzA, jKeys, dDictZ, dSortTI, jZipM, if_true, if_false, ite_true, ite_false, Bool.false_eq_true, reduceIte, Bool.not_true, Bool.not_false, List.getElem?_cons_zero, List.getElem?_cons_succ, List.set_cons_zero, List.set_cons_succ, List.map_cons, List.map_nil, List.replicate, List.cons_append, List.nil_append, List.length_cons, List.length_nil, dstart]
    exact ⟨ss, rfl, hl, fun p M2 _ hd _ => hn _ _ ⟨p, rfl, hd⟩⟩
  obtain ⟨p, rfl, hp⟩ := h1
  refine dSeq_then (fun γ' M' => True) (fun nx hn => ?_) (fun γ1 M2 h => ?_)
  · simp only [dFor, jRng1, dCons, dNil, dC, if_true, if_false, ite_true, ite_false, Bool.false_eq_true, reduceIte, Bool.not_true, Bool.not_false, List.getElem?_cons_zero, List.getElem?_cons_succ, List.set_cons_zero, List.set_cons_succ, List.map_cons, List.map_nil, List.replicate, List.cons_append, List.nil_append, List.length_cons, List.length_nil, dstart]
    refine ⟨⟨by decide, by decide⟩, dForI_of (fun i γ M' => ∃ o2 o3 o4 o5 o6 o7 o8 o9 o10 o11 : Option D, γ = [some (.ls (ss.map .int)), some (.ref p), o2, o3, o4, o5, o6, o7, o8, o9, o10, o11] ∧ DiL M' p) ⟨_, _, _, _, _, _, _, _, _, _, rfl, hp⟩ ?_ (fun γ M' _ => hn _ _ trivial)⟩
    clear hp
    rintro i e γ M' he ⟨o2, o3, o4, o5, o6, o7, o8, o9, o10, o11, rfl, hp⟩
    obtain ⟨hi, rfl⟩ := rgD_get he
    simp only [hName, if_true, if_false, ite_true, ite_false, Bool.false_eq_true, reduceIte, Bool.not_true, Bool.not_false, List.getElem?_cons_zero, List.getElem?_cons_succ, List.set_cons_zero, List.set_cons_succ, List.map_cons, List.map_nil, List.replicate, List.cons_append, List.nil_append, List.length_cons, List.length_nil, dstart]
    refine dSeq_then (fun γ' M' => ∃ (n : Int) (ps : List (Int × Int)), γ' = [some (.ls (ss.map .int)), some (.ref p), some (.int (0 + (i : Int))), some (.int n), some (.kt (ps.map prD)), o5, o6, o7, o8, o9, o10, o11] ∧ BookOk n ps ∧ DiL M' p) (fun nx hn => ?_) (fun γ1 M2 h => ?_)
    · simp only [jEnumU, dTupleK, dCatK, dBMT, dIdxK, dSlK, dRevK, dVar, dC, dOp, dTest, dII, dIC, dFld, dFldS, dMake, dppNil, dppCons, dMerge, dDisp, dCatL, dRg1, dLstRg, dChain, dEq, dAnd, dOr, dNot, dIfE, dNext, dSeq, dDrop, dRet, dIfS, dNever, hName, hNil, hCons, hTup, hSub, dAsg, dNil, dCons, dTup, dLst, dLstM, dIx, dSet, dCall, dwipe, dYes, jSeq, jRng1, jRng2, dCB, dLen, dListM, dTuple, dII2, dAbs, dInt, dBM0, dBM, dAppend, dPop, dPopAt, dAndV, dNotV, dNeg, dIn, dCat, dNoPart, dPart, dSl, dNewT, dIsi, dLc, dFor, dDc, dFrzA, jKeys, dDictZ, dSortTI, jZipM, if_true, if_false, ite_true, ite_false, Bool.false_eq_true, reduceIte, Bool.not_true, Bool.not_false, List.getElem?_cons_zero, List.getElem?_cons_succ, List.set_cons_zero, List.set_cons_succ, List.map_cons, List.map_nil, List.replicate, List.cons_append, List.nil_append, List.length_cons, List.length_nil, dstart]
      exact ⟨p, 8, rfl, hp, by decide, by decide, fun n ps M2 ok n6 d2 e2 => ⟨rfl, hn _ _ ⟨n, ps, rfl, ok, d2⟩⟩⟩
    clear hp
    obtain ⟨n, ps, rfl, ok, hp⟩ := h
    have n8 := ok.hi
    have n1 := ok.lo
    refine dSeq_then (fun γ' M' => ∃ (b d : Addr), γ' = [some (.ls (ss.map .int)), some (.ref p), some (.int (0 + (i : Int))), some (.int n), some (.kt (ps.map prD)), some (.ref b), o6, o7, o8, o9, o10, o11] ∧ BookAt C_TB M' b n ps d ∧ DiL M' p) (fun nx hn => ?_) (fun γ1 M3 h => ?_)
    · simp only [jEnumU, dTupleK, dCatK, dBMT, dIdxK, dSlK, dRevK, dVar, dC, dOp, dTest, dII, dIC, dFld, dFldS, dMake, dppNil, dppCons, dMerge, dDisp, dCatL, dRg1, dLstRg, dChain, dEq, dAnd, dOr, dNot, dIfE, dNext, dSeq, dDrop, dRet, dIfS, dNever, hName, hNil, hCons, hTup, hSub, dAsg, dNil, dCons, dTup, dLst, dLstM, dIx, dSet, dCall, dwipe, dYes, jSeq, jRng1, jRng2, dCB, dLen, dListM, dTuple, dII2, dAbs, dInt, dBM0, dBM, dAppend, dPop, dPopAt, dAndV, dNotV, dNeg, dIn, dCat, dNoPart, dPart, dSl, dNewT, dIsi, dLc, dFor, dDc, dFrzA, jKeys, dDictZ, dSortTI, jZipM, if_true, if_false, ite_true, ite_false, Bool.false_eq_true, reduceIte, Bool.not_true, Bool.not_false, List.getElem?_cons_zero, List.getElem?_cons_succ, List.set_cons_zero, List.set_cons_succ, List.map_cons, List.map_nil, List.replicate, List.cons_append, List.nil_append, List.length_cons, List.length_nil, dstart]
      refine fun b hb => ⟨b, n, ps, rfl, mset_same, ok, fun d M2 hd B ag => ⟨rfl, hn _ _ ⟨b, d, rfl, B, ?_⟩⟩⟩
      have pb := hp.some hb
      have hp2 := hp.mset (o := .ins C_TB []) pb
      have pd := hp2.some hd
      exact hp2.keep ag (by simp; exact ⟨pb.symm, pd.symm⟩)
    clear hp
    obtain ⟨b, d, rfl, B, hp⟩ := h
    have pne : ∀ {M : Mp}, DiL M p → BookAt C_TB M b n ps d → b ∉ [p] ∧ d ∉ [p] := fun hp B => by
      constructor <;>
      · simp only [List.mem_singleton]
        intro e
        obtain ⟨_, _, _, _, _, h, _⟩ := hp
        first
          | (have := B.ob; rw [e, h] at this; cases this)
          | (have := B.fc; rw [e, h] at this; cases this)
    refine dSeq_then (fun γ' M' => ∃ (tn : List (List Int)) (sg : List Int), γ' = [some (.ls (ss.map .int)), some (.ref p), some (.int (0 + (i : Int))), some (.int n), some (.kt (ps.map prD)), some (.ref b), some (drwD tn sg), o7, o8, o9, o10, o11] ∧ Drw n ps tn sg ∧ BookAt C_TB M' b n ps d ∧ DiL M' p) (fun nx hn => ?_) (fun γ1 M4 h => ?_)
    · simp only [jEnumU, dTupleK, dCatK, dBMT, dIdxK, dSlK, dRevK, dVar, dC, dOp, dTest, dII, dIC, dFld, dFldS, dMake, dppNil, dppCons, dMerge, dDisp, dCatL, dRg1, dLstRg, dChain, dEq, dAnd, dOr, dNot, dIfE, dNext, dSeq, dDrop, dRet, dIfS, dNever, hName, hNil, hCons, hTup, hSub, dAsg, dNil, dCons, dTup, dLst, dLstM, dIx, dSet, dCall, dwipe, dYes, jSeq, jRng1, jRng2, dCB, dLen, dListM, dTuple, dII2, dAbs, dInt, dBM0, dBM, dAppend, dPop, dPopAt, dAndV, dNotV, dNeg, dIn, dCat, dNoPart, dPart, dSl, dNewT, dIsi, dLc, dFor, dDc, dFrzA, jKeys, dDictZ, dSortTI, jZipM, if_true, if_false, ite_true, ite_false, Bool.false_eq_true, reduceIte, Bool.not_true, Bool.not_false, List.getElem?_cons_zero, List.getElem?_cons_succ, List.set_cons_zero, List.set_cons_succ, List.map_cons, List.map_nil, List.replicate, List.cons_append, List.nil_append, List.length_cons, List.length_nil, dstart]
      refine ⟨p, 2, rfl, hp, by omega, by omega, fun r M3 r0 r1 d3 a3 => ⟨rfl, rfl, p, n, ps, _, rfl, d3, ok, fun tn sg M4 R d4 e4 => hn _ _ ⟨tn, sg, rfl, R, ?_, d4⟩⟩⟩
      have B3 := B.keep a3 (pne hp B).1 (pne hp B).2
      exact B3.ext e4 (pne hp B).1 (pne hp B).2
    clear hp B
    obtain ⟨tn, sg, rfl, R, B, hp⟩ := h
    refine dSeq_then (fun γ' M' => ∃ (wd : Int), γ' = [some (.ls (ss.map .int)), some (.ref p), some (.int (0 + (i : Int))), some (.int n), some (.kt (ps.map prD)), some (.ref b), some (drwD tn sg), some (.int wd), o8, o9, o10, o11] ∧ DueR n ps tn sg wd ∧ BookAt C_TB M' b n ps d ∧ DiL M' p) (fun nx hn => ?_) (fun γ1 M5 h => ?_)
    · simp only [jEnumU, dTupleK, dCatK, dBMT, dIdxK, dSlK, dRevK, dVar, dC, dOp, dTest, dII, dIC, dFld, dFldS, dMake, dppNil, dppCons, dMerge, dDisp, dCatL, dRg1, dLstRg, dChain, dEq, dAnd, dOr, dNot, dIfE, dNext, dSeq, dDrop, dRet, dIfS, dNever, hName, hNil, hCons, hTup, hSub, dAsg, dNil, dCons, dTup, dLst, dLstM, dIx, dSet, dCall, dwipe, dYes, jSeq, jRng1, jRng2, dCB, dLen, dListM, dTuple, dII2, dAbs, dInt, dBM0, dBM, dAppend, dPop, dPopAt, dAndV, dNotV, dNeg, dIn, dCat, dNoPart, dPart, dSl, dNewT, dIsi, dLc, dFor, dDc, dFrzA, jKeys, dDictZ, dSortTI, jZipM, if_true, if_false, ite_true, ite_false, Bool.false_eq_true, reduceIte, Bool.not_true, Bool.not_false, List.getElem?_cons_zero, List.getElem?_cons_succ, List.set_cons_zero, List.set_cons_succ, List.map_cons, List.map_nil, List.replicate, List.cons_append, List.nil_append, List.length_cons, List.length_nil, dstart]
      exact ⟨n, ps, tn, sg, rfl, ok, R, fun wd M2 e2 h1 h2 => hn _ _ ⟨wd, rfl, ⟨h1, h2⟩, B.ext e2 (by simp) (by simp), hp.ext e2 (by simp)⟩⟩
    clear hp B
    obtain ⟨wd, rfl, W, B, hp⟩ := h
    refine dSeq_then (fun γ' M' => ∃ (r : Int), γ' = [some (.ls (ss.map .int)), some (.ref p), some (.int (0 + (i : Int))), some (.int n), some (.kt (ps.map prD)), some (.ref b), some (drwD tn sg), some (.int wd), some (.int r), o9, o10, o11] ∧ r = wd ∧ BookAt C_TB M' b n ps d ∧ DiL M' p) (fun nx hn => ?_) (fun γ1 M6 h => ?_)
    · simp only [jEnumU, dTupleK, dCatK, dBMT, dIdxK, dSlK, dRevK, dVar, dC, dOp, dTest, dII, dIC, dFld, dFldS, dMake, dppNil, dppCons, dMerge, dDisp, dCatL, dRg1, dLstRg, dChain, dEq, dAnd, dOr, dNot, dIfE, dNext, dSeq, dDrop, dRet, dIfS, dNever, hName, hNil, hCons, hTup, hSub, dAsg, dNil, dCons, dTup, dLst, dLstM, dIx, dSet, dCall, dwipe, dYes, jSeq, jRng1, jRng2, dCB, dLen, dListM, dTuple, dII2, dAbs, dInt, dBM0, dBM, dAppend, dPop, dPopAt, dAndV, dNotV, dNeg, dIn, dCat, dNoPart, dPart, dSl, dNewT, dIsi, dLc, dFor, dDc, dFrzA, jKeys, dDictZ, dSortTI, jZipM, if_true, if_false, ite_true, ite_false, Bool.false_eq_true, reduceIte, Bool.not_true, Bool.not_false, List.getElem?_cons_zero, List.getElem?_cons_succ, List.set_cons_zero, List.set_cons_succ, List.map_cons, List.map_nil, List.replicate, List.cons_append, List.nil_append, List.length_cons, List.length_nil, dstart]
      refine ⟨b, n, ps, d, tn, sg, rfl, B, R, fun r M2 e2 h1 h2 => hn _ _ ⟨r, rfl, ?_, B.ext e2 (by simp) (by simp), hp.ext e2 (by simp)⟩⟩
      by_cases z : ps = []
      · rw [h1 z, W.z z]
      · obtain ⟨rows, hr, e⟩ := h2 z
        rw [e, W.r rows hr z]
    clear hp B
    obtain ⟨r, rfl, er, B, hp⟩ := h
    subst er
    have tl := R.tl
    refine dSeq_then (fun γ' M' => γ' = [some (.ls (ss.map .int)), some (.ref p), some (.int (0 + (i : Int))), some (.int n), some (.kt (ps.map prD)), some (.ref b), some (drwD tn sg), some (.int r), some (.int r), o9, o10, o11] ∧ M' = M6) (fun nx hn => ?_) (fun γ1 M7 h => ?_)
    · simp only [jEnumU, dTupleK, dCatK, dBMT, dIdxK, dSlK, dRevK, dVar, dC, dOp, dTest, dII, dIC, dFld, dFldS, dMake, dppNil, dppCons, dMerge, dDisp, dCatL, dRg1, dLstRg, dChain, dEq, dAnd, dOr, dNot, dIfE, dNext, dSeq, dDrop, dRet, dIfS, dNever, hName, hNil, hCons, hTup, hSub, dAsg, dNil, dCons, dTup, dLst, dLstM, dIx, dSet, dCall, dwipe, dYes, jSeq, jRng1, jRng2, dCB, dLen, dListM, dTuple, dII2, dAbs, dInt, dBM0, dBM, dAppend, dPop, dPopAt, dAndV, dNotV, dNeg, dIn, dCat, dNoPart, dPart, dSl, dNewT, dIsi, dLc, dFor, dDc, dFrzA, jKeys, dDictZ, dSortTI, jZipM, if_true, if_false, ite_true, ite_false, Bool.false_eq_true, reduceIte, Bool.not_true, Bool.not_false, List.getElem?_cons_zero, List.getElem?_cons_succ, List.set_cons_zero, List.set_cons_succ, List.map_cons, List.map_nil, List.replicate, List.cons_append, List.nil_append, List.length_cons, List.length_nil, dstart]
      refine ⟨by decide +kernel, "int", rfl, ?_⟩
      rw [if_neg (by decide +kernel)]
      refine ⟨rfl, rfl, ?_⟩
      rw [D.eq_int, if_neg (by simp)]
      exact hn _ _ ⟨rfl, rfl⟩
    obtain ⟨rfl, hM7⟩ := h
    subst hM7
    refine dSeq_then (fun γ' M' => γ' = [some (.ls (ss.map .int)), some (.ref p), some (.int (0 + (i : Int))), some (.int n), some (.kt (ps.map prD)), some (.ref b), some (drwD tn sg), some (.int r), some (.int r), some (.tup []), o10, o11] ∧ M' = M7) (fun nx hn => ?_) (fun γ1 M8 h => ?_)
    · simp only [jEnumU, dTupleK, dCatK, dBMT, dIdxK, dSlK, dRevK, dVar, dC, dOp, dTest, dII, dIC, dFld, dFldS, dMake, dppNil, dppCons, dMerge, dDisp, dCatL, dRg1, dLstRg, dChain, dEq, dAnd, dOr, dNot, dIfE, dNext, dSeq, dDrop, dRet, dIfS, dNever, hName, hNil, hCons, hTup, hSub, dAsg, dNil, dCons, dTup, dLst, dLstM, dIx, dSet, dCall, dwipe, dYes, jSeq, jRng1, jRng2, dCB, dLen, dListM, dTuple, dII2, dAbs, dInt, dBM0, dBM, dAppend, dPop, dPopAt, dAndV, dNotV, dNeg, dIn, dCat, dNoPart, dPart, dSl, dNewT, dIsi, dLc, dFor, dDc, dFrzA, jKeys, dDictZ, dSortTI, jZipM, if_true, if_false, ite_true, ite_false, Bool.false_eq_true, reduceIte, Bool.not_true, Bool.not_false, List.getElem?_cons_zero, List.getElem?_cons_succ, List.set_cons_zero, List.set_cons_succ, List.map_cons, List.map_nil, List.replicate, List.cons_append, List.nil_append, List.length_cons, List.length_nil, dstart]
      exact ⟨by decide, hn _ _ ⟨rfl, rfl⟩⟩
    obtain ⟨rfl, hM8⟩ := h
    subst hM8
    refine dSeq_then (fun γ' M' => ∃ (bs : List (List Int)) (o10 o11 : Option D), γ' = [some (.ls (ss.map .int)), some (.ref p), some (.int (0 + (i : Int))), some (.int n), some (.kt (ps.map prD)), some (.ref b), some (drwD tn sg), some (.int r), some (.int r), some (.tup (bs.map krD)), o10, o11] ∧ RotT tn bs ∧ BookAt C_TB M' b n ps d ∧ DiL M' p) (fun nx hn => ?_) (fun γ1 M9 h => ?_)
    · simp only [jEnumU, dTupleK, dCatK, dBMT, dIdxK, dSlK, dRevK, dVar, dC, dOp, dTest, dII, dIC, dFld, dFldS, dMake, dppNil, dppCons, dMerge, dDisp, dCatL, dRg1, dLstRg, dChain, dEq, dAnd, dOr, dNot, dIfE, dNext, dSeq, dDrop, dRet, dIfS, dNever, hName, hNil, hCons, hTup, hSub, dAsg, dNil, dCons, dTup, dLst, dLstM, dIx, dSet, dCall, dwipe, dYes, jSeq, jRng1, jRng2, dCB, dLen, dListM, dTuple, dII2, dAbs, dInt, dBM0, dBM, dAppend, dPop, dPopAt, dAndV, dNotV, dNeg, dIn, dCat, dNoPart, dPart, dSl, dNewT, dIsi, dLc, dFor, dDc, dFrzA, jKeys, dDictZ, dSortTI, jZipM, if_true, if_false, ite_true, ite_false, Bool.false_eq_true, reduceIte, Bool.not_true, Bool.not_false, List.getElem?_cons_zero, List.getElem?_cons_succ, List.set_cons_zero, List.set_cons_succ, List.map_cons, List.map_nil, List.replicate, List.cons_append, List.nil_append, List.length_cons, List.length_nil, dstart, drwD]
      refine ⟨.tup (tn.map krD), ixT_at (k := 0) rfl rfl, ?_⟩
      refine dForI_of (fun j γ M' => ∃ (bs : List (List Int)) (o10 o11 : Option D), γ = [some (.ls (ss.map .int)), some (.ref p), some (.int (0 + (i : Int))), some (.int n), some (.kt (ps.map prD)), some (.ref b), some (drwD tn sg), some (.int r), some (.int r), some (.tup (bs.map krD)), o10, o11] ∧ (bs.length = j ∧ ∀ (i : Nat) (r : List Int), i < j → tn[i]? = some r → ∃ k, k ≤ r.length ∧ bs[i]? = some (r.drop k ++ r.take k)) ∧ BookAt C_TB M' b n ps d ∧ DiL M' p) ⟨[], _, _, rfl, ⟨rfl, fun i r h => absurd h (by omega)⟩, B, hp⟩ ?_ ?_
      · clear B hp hn
        rintro j e γ M' he ⟨bs, o10, o11, rfl, ⟨bl, hb⟩, B, hp⟩
        obtain ⟨u, hu, rfl⟩ := get_kr he
        have jl := (List.getElem?_eq_some_iff.mp hu).1
        have pu := R.tp j u hu
        have ul := pu.length_eq
        have nl := nbr_len ps (j : Int)
        have l28 := ok.pr.len28 ok.hi
        have more : ∀ k, k ≤ u.length → (bs ++ [u.drop k ++ u.take k]).length = j + 1 ∧ ∀ (i : Nat) (r : List Int), i < j + 1 → tn[i]? = some r → ∃ k2, k2 ≤ r.length ∧ (bs ++ [u.drop k ++ u.take k])[i]? = some (r.drop k2 ++ r.take k2) := fun k kl => by
          refine ⟨by rw [List.length_append, bl]; rfl, fun i r hi hr => ?_⟩
          by_cases z : i < j
          · obtain ⟨k2, k3, k4⟩ := hb i r z hr
            exact ⟨k2, k3, by rw [List.getElem?_append_left (by omega)]; exact k4⟩
          · have : i = j := by omega
            subst this
            have := Option.some.inj (hr.symm.trans hu)
            subst this
            exact ⟨k, kl, by rw [List.getElem?_append_right (by omega), bl, Nat.sub_self]; rfl⟩
        refine dSeq_then (fun γ' M2 => ∃ (k : Nat), k ≤ u.length ∧ γ' = [some (.ls (ss.map .int)), some (.ref p), some (.int (0 + (i : Int))), some (.int n), some (.kt (ps.map prD)), some (.ref b), some (drwD tn sg), some (.int r), some (.int r), some (.tup (bs.map krD)), some (krD u), some (.int (k : Int))] ∧ BookAt C_TB M2 b n ps d ∧ DiL M2 p) (fun nx hn => ?_) (fun γ1 M9 h => ?_)
        · simp only [jEnumU, dTupleK, dCatK, dBMT, dIdxK, dSlK, dRevK, dVar, dC, dOp, dTest, dII, dIC, dFld, dFldS, dMake, dppNil, dppCons, dMerge, dDisp, dCatL, dRg1, dLstRg, dChain, dEq, dAnd, dOr, dNot, dIfE, dNext, dSeq, dDrop, dRet, dIfS, dNever, hName, hNil, hCons, hTup, hSub, dAsg, dNil, dCons, dTup, dLst, dLstM, dIx, dSet, dCall, dwipe, dYes, jSeq, jRng1, jRng2, dCB, dLen, dListM, dTuple, dII2, dAbs, dInt, dBM0, dBM, dAppend, dPop, dPopAt, dAndV, dNotV, dNeg, dIn, dCat, dNoPart, dPart, dSl, dNewT, dIsi, dLc, dFor, dDc, dFrzA, jKeys, dDictZ, dSortTI, jZipM, if_true, if_false, ite_true, ite_false, Bool.false_eq_true, reduceIte, Bool.not_true, Bool.not_false, List.getElem?_cons_zero, List.getElem?_cons_succ, List.set_cons_zero, List.set_cons_succ, List.map_cons, List.map_nil, List.replicate, List.cons_append, List.nil_append, List.length_cons, List.length_nil, dstart]
          refine ⟨u.length, by simp only [lenV, krD, List.length_map], ?_⟩
          by_cases z : 0 < u.length
          · rw [if_pos (decide_eq_true (by omega))]
            refine ⟨u.length, by simp only [lenV, krD, List.length_map], p, u.length, rfl, hp, by omega, by omega, fun x M2 x0 x1 d2 a2 => ?_⟩
            obtain ⟨k, rfl⟩ : ∃ k : Nat, x = (k : Int) := ⟨x.toNat, by omega⟩
            exact hn _ _ ⟨k, by omega, rfl, B.keep a2 (pne hp B).1 (pne hp B).2, d2⟩
          · rw [if_neg (by simpa using z)]
            exact hn _ _ ⟨0, by omega, rfl, B, hp⟩
        clear B hp
        obtain ⟨k, kl, rfl, B, hp⟩ := h
        simp only [jEnumU, dTupleK, dCatK, dBMT, dIdxK, dSlK, dRevK, dVar, dC, dOp, dTest, dII, dIC, dFld, dFldS, dMake, dppNil, dppCons, dMerge, dDisp, dCatL, dRg1, dLstRg, dChain, dEq, dAnd, dOr, dNot, dIfE, dNext, dSeq, dDrop, dRet, dIfS, dNever, hName, hNil, hCons, hTup, hSub, dAsg, dNil, dCons, dTup, dLst, dLstM, dIx, dSet, dCall, dwipe, dYes, jSeq, jRng1, jRng2, dCB, dLen, dListM, dTuple, dII2, dAbs, dInt, dBM0, dBM, dAppend, dPop, dPopAt, dAndV, dNotV, dNeg, dIn, dCat, dNoPart, dPart, dSl, dNewT, dIsi, dLc, dFor, dDc, dFrzA, jKeys, dDictZ, dSortTI, jZipM, if_true, if_false, ite_true, ite_false, Bool.false_eq_true, reduceIte, Bool.not_true, Bool.not_false, List.getElem?_cons_zero, List.getElem?_cons_succ, List.set_cons_zero, List.set_cons_succ, List.map_cons, List.map_nil, List.replicate, List.cons_append, List.nil_append, List.length_cons, List.length_nil, dstart, krD]
        rw [cutD_drop (by rw [List.length_map]; omega), cutD_take (by rw [List.length_map]; omega), ← List.map_drop, ← List.map_take, ← List.map_append]
        have M := more k kl
        have l2 := M.1
        rw [List.length_append] at l2
        refine ⟨by rw [List.length_map, List.length_map, List.length_drop, List.length_take, sizeLine_eq]; omega, by rw [sizeLine_eq]; decide, by rw [List.length_map, sizeLine_eq]; omega, bs ++ [u.drop k ++ u.take k], some (krD u), some (.int (k : Int)), ?_, M, B, hp⟩
        have e9 : (bs ++ [u.drop k ++ u.take k]).map krD = bs.map krD ++ [D.kt ((u.drop k ++ u.take k).map D.int)] := by rw [List.map_append]; rfl
        rw [e9]
        rfl
      · rintro γ M' ⟨bs, o10, o11, rfl, ⟨bl, hb⟩, B, hp⟩
        rw [List.length_map] at bl hb
        exact hn _ _ ⟨bs, _, _, rfl, ⟨bl, fun i r hr => hb i r (List.getElem?_eq_some_iff.mp hr).1 hr⟩, B, hp⟩
    clear hp B
    obtain ⟨bs, o10, o11, rfl, RT, B, hp⟩ := h
    have R2 := RT.drw R
    have R3 := R.flip (fun _ => true)
    rw [flT_true, flG_true R.sl] at R3
    have gg : ∀ (M : Mp) k d, [D.tup (tn.map krD), D.tup (sg.map .int)][k]? = some d → dIxV M (drwD tn sg) (.int (k : Nat)) = some d := fun M k d h => ixT_at (k := k) rfl h
    simp only [jEnumU, dTupleK, dCatK, dBMT, dIdxK, dSlK, dRevK, dVar, dC, dOp, dTest, dII, dIC, dFld, dFldS, dMake, dppNil, dppCons, dMerge, dDisp, dCatL, dRg1, dLstRg, dChain, dEq, dAnd, dOr, dNot, dIfE, dNext, dSeq, dDrop, dRet, dIfS, dNever, hName, hNil, hCons, hTup, hSub, dAsg, dNil, dCons, dTup, dLst, dLstM, dIx, dSet, dCall, dwipe, dYes, jSeq, jRng1, jRng2, dCB, dLen, dListM, dTuple, dII2, dAbs, dInt, dBM0, dBM, dAppend, dPop, dPopAt, dAndV, dNotV, dNeg, dIn, dCat, dNoPart, dPart, dSl, dNewT, dIsi, dLc, dFor, dDc, dFrzA, jKeys, dDictZ, dSortTI, jZipM, if_true, if_false, ite_true, ite_false, Bool.false_eq_true, reduceIte, Bool.not_true, Bool.not_false, List.getElem?_cons_zero, List.getElem?_cons_succ, List.set_cons_zero, List.set_cons_succ, List.map_cons, List.map_nil, List.replicate, List.cons_append, List.nil_append, List.length_cons, List.length_nil, dstart]
    refine ⟨_, gg _ 1 _ rfl, by rw [sizeLine_eq]; decide, b, n, ps, d, bs, sg, rfl, B, R2, fun r2 M2 e2 h1 h2 => ⟨rfl, rfl, ?_⟩⟩
    have er : r2 = r := by
      by_cases z : ps = []
      · rw [h1 z, W.z z]
      · obtain ⟨rows, hr, e⟩ := h2 z
        rw [e, W.r rows (hr.congr fun s S => beh_rot ok R RT S) z]
    rw [D.eq_int, if_neg (by simp [er])]
    refine ⟨_, gg _ 0 _ rfl, ?_⟩
    simp only [if_true, if_false, ite_true, ite_false, Bool.false_eq_true, reduceIte, Bool.not_true, Bool.not_false, List.getElem?_cons_zero, List.getElem?_cons_succ, List.set_cons_zero, List.set_cons_succ, List.map_cons, List.map_nil, List.replicate, List.cons_append, List.nil_append, List.length_cons, List.length_nil, dstart]
    refine ⟨by rw [List.length_map, sizeLine_eq]; omega, dLcI_mapS (fun M' => M' = M2) tn krD (fun r => krD r.reverse) rfl (fun i u M3 hu hM Q2 q2 => ?_) fun M3 hM => ?_⟩
    · subst hM
      simp only [jEnumU, dTupleK, dCatK, dBMT, dIdxK, dSlK, dRevK, dVar, dC, dOp, dTest, dII, dIC, dFld, dFldS, dMake, dppNil, dppCons, dMerge, dDisp, dCatL, dRg1, dLstRg, dChain, dEq, dAnd, dOr, dNot, dIfE, dNext, dSeq, dDrop, dRet, dIfS, dNever, hName, hNil, hCons, hTup, hSub, dAsg, dNil, dCons, dTup, dLst, dLstM, dIx, dSet, dCall, dwipe, dYes, jSeq, jRng1, jRng2, dCB, dLen, dListM, dTuple, dII2, dAbs, dInt, dBM0, dBM, dAppend, dPop, dPopAt, dAndV, dNotV, dNeg, dIn, dCat, dNoPart, dPart, dSl, dNewT, dIsi, dLc, dFor, dDc, dFrzA, jKeys, dDictZ, dSortTI, jZipM, if_true, if_false, ite_true, ite_false, Bool.false_eq_true, reduceIte, Bool.not_true, Bool.not_false, List.getElem?_cons_zero, List.getElem?_cons_succ, List.set_cons_zero, List.set_cons_succ, List.map_cons, List.map_nil, List.replicate, List.cons_append, List.nil_append, List.length_cons, List.length_nil, dstart, krD]
      rw [← List.map_reverse]
      exact q2 _ rfl
    · subst hM
      have er3 : (tn.map fun r => krD r.reverse) = (tn.map List.reverse).map krD := by rw [List.map_map]; rfl
      rw [er3]
      simp only []
      refine ⟨_, gg _ 1 _ rfl, by rw [sizeLine_eq]; decide, b, n, ps, d, tn.map List.reverse, sg, rfl, B.ext e2 (by simp) (by simp), R3, fun r3 M4 e4 g1 g2 => ⟨rfl, rfl, ?_⟩⟩
      have er4 : r3 = r := by
        by_cases z : ps = []
        · rw [g1 z, W.z z]
        · obtain ⟨rows, hr, e⟩ := g2 z
          obtain ⟨us, hu, el⟩ := hr.back ok R
          rw [e, W.r us hu z, el]
      rw [D.eq_int, if_neg (by simp [er4])]
      exact ⟨_, _, _, _, _, _, _, _, _, _, rfl, (hp.ext e2 (by simp)).ext e4 (by simp)⟩
  · simp only [jEnumU, dTupleK, dCatK, dBMT, dIdxK, dSlK, dRevK, dVar, dC, dOp, dTest, dII, dIC, dFld, dFldS, dMake, dppNil, dppCons, dMerge, dDisp, dCatL, dRg1, dLstRg, dChain, dEq, dAnd, dOr, dNot, dIfE, dNext, dSeq, dDrop, dRet, dIfS, dNever, hName, hNil, hCons, hTup, hSub, dAsg, dNil, dCons, dTup, dLst, dLstM, dIx, dSet, dCall, dwipe, dYes, jSeq, jRng1, jRng2, dCB, dLen, dListM, dTuple, dII2, dAbs, dInt, dBM0, dBM, dAppend, dPop, dPopAt, dAndV, dNotV, dNeg, dIn, dCat, dNoPart, dPart, dSl, dNewT, dIsi, dLc, dFor, dDc, dFrzA, jKeys, dDictZ, dSortTI, jZipM, if_true, if_false, ite_true, ite_false, Bool.false_eq_true, reduceIte, Bool.not_true, Bool.not_false, List.getElem?_cons_zero, List.getElem?_cons_succ, List.set_cons_zero, List.set_cons_succ, List.map_cons, List.map_nil, List.replicate, List.cons_append, List.nil_append, List.length_cons, List.length_nil, dstart]
    exact fin_self (q _)
end
theorem all_mk {l : PySem.W.OpenLaw} {w : World} {K : PySem.W.Frag} {h : Heap} {mg : Str → Option Value} {fa : Addr} (X : K.In h) (G : h.Ns mainGlobals mg) (hfa : mg "law" = some (.ref fa))
    {C_TB : Addr} {f1 : Addr} {od1 an1 : Option Addr} {sl1 : Array (Option Value)} {oc1 kV1 dc1 pm1 cd1 ct1 : Value} {f2 : Addr} {od2 an2 : Option Addr} {sl2 : Array (Option Value)} {oc2 kV2 dc2 pm2 cd2 ct2 : Value} {f3 : Addr} {od3 an3 : Option Addr} {sl3 : Array (Option Value)} {oc3 kV3 dc3 pm3 cd3 ct3 : Value} {f4 : Addr} {od4 an4 : Option Addr} {sl4 : Array (Option Value)} {oc4 kV4 dc4 pm4 cd4 ct4 : Value} {f5 : Addr} {od5 an5 : Option Addr} {sl5 : Array (Option Value)} {oc5 kV5 dc5 pm5 cd5 ct5 : Value} {f6 : Addr} {od6 an6 : Option Addr} {sl6 : Array (Option Value)} {oc6 kV6 dc6 pm6 cd6 ct6 : Value} {f7 : Addr} {od7 an7 : Option Addr} {sl7 : Array (Option Value)} {oc7 kV7 dc7 pm7 cd7 ct7 : Value} {f8 : Addr} {od8 an8 : Option Addr} {sl8 : Array (Option Value)} {oc8 kV8 dc8 pm8 cd8 ct8 : Value} {f9 : Addr} {od9 an9 : Option Addr} {sl9 : Array (Option Value)} {oc9 kV9 dc9 pm9 cd9 ct9 : Value} {f10 : Addr} {od10 an10 : Option Addr} {sl10 : Array (Option Value)} {oc10 kV10 dc10 pm10 cd10 ct10 : Value} {f11 : Addr} {od11 an11 : Option Addr} {sl11 : Array (Option Value)} {oc11 kV11 dc11 pm11 cd11 ct11 : Value} {f12 : Addr} {od12 an12 : Option Addr} {sl12 : Array (Option Value)} {oc12 kV12 dc12 pm12 cd12 ct12 : Value} {f13 : Addr} {od13 an13 : Option Addr} {sl13 : Array (Option Value)} {oc13 kV13 dc13 pm13 cd13 ct13 : Value} {f14 : Addr} {od14 an14 : Option Addr} {sl14 : Array (Option Value)} {oc14 kV14 dc14 pm14 cd14 ct14 : Value} {f15 : Addr} {od15 an15 : Option Addr} {sl15 : Array (Option Value)} {oc15 kV15 dc15 pm15 cd15 ct15 : Value} {f16 : Addr} {od16 an16 : Option Addr} {sl16 : Array (Option Value)} {oc16 kV16 dc16 pm16 cd16 ct16 : Value} {f17 : Addr} {od17 an17 : Option Addr} {sl17 : Array (Option Value)} {oc17 kV17 dc17 pm17 cd17 ct17 : Value} {f18 : Addr} {od18 an18 : Option Addr} {sl18 : Array (Option Value)} {oc18 kV18 dc18 pm18 cd18 ct18 : Value} {f19 : Addr} {od19 an19 : Option Addr} {sl19 : Array (Option Value)} {oc19 kV19 dc19 pm19 cd19 ct19 : Value} {f20 : Addr} {od20 an20 : Option Addr} {sl20 : Array (Option Value)} {oc20 kV20 dc20 pm20 cd20 ct20 : Value} {f21 : Addr} {od21 an21 : Option Addr} {sl21 : Array (Option Value)} {oc21 kV21 dc21 pm21 cd21 ct21 : Value} {f22 : Addr} {od22 an22 : Option Addr} {sl22 : Array (Option Value)} {oc22 kV22 dc22 pm22 cd22 ct22 : Value} {f23 : Addr} {od23 an23 : Option Addr} {sl23 : Array (Option Value)} {oc23 kV23 dc23 pm23 cd23 ct23 : Value} {f24 : Addr} {od24 an24 : Option Addr} {sl24 : Array (Option Value)} {oc24 kV24 dc24 pm24 cd24 ct24 : Value} {f25 : Addr} {od25 an25 : Option Addr} {sl25 : Array (Option Value)} {oc25 kV25 dc25 pm25 cd25 ct25 : Value} {f26 : Addr} {od26 an26 : Option Addr} {sl26 : Array (Option Value)} {oc26 kV26 dc26 pm26 cd26 ct26 : Value} {f27 : Addr} {od27 an27 : Option Addr} {sl27 : Array (Option Value)} {oc27 kV27 dc27 pm27 cd27 ct27 : Value} {f28 : Addr} {od28 an28 : Option Addr} {sl28 : Array (Option Value)} {oc28 kV28 dc28 pm28 cd28 ct28 : Value} {f29 : Addr} {od29 an29 : Option Addr} {sl29 : Array (Option Value)} {oc29 kV29 dc29 pm29 cd29 ct29 : Value} {tk_MOST_CONTENTS : Tok} {tk_MOST_TIES : Tok}
    (aC_TB : PySem.W.nsIn K mainGlobals "Book" = some (some (.ref C_TB)))
    (pg_TB : PySem.W.plainGet K C_TB Str.empty = true)
    (hd_TB : PySem.W.hasDictIn K C_TB = true)
    (po_TB : PySem.W.plainOver K C_TB = true)
    (sa_TB : PySem.W.findIn K (.ref C_TB) "__setattr__" = some (some (.builtin "object.__setattr__")))
    (n_TB_kept_size : PySem.W.findIn K (.ref C_TB) "kept_size" = some none)
    (n_TB_kept_ties : PySem.W.findIn K (.ref C_TB) "kept_ties" = some none)
    (n_TB_kept_facts : PySem.W.findIn K (.ref C_TB) "kept_facts" = some none)
    (a1 : PySem.W.findIn K (.ref C_TB) "__init__" = some (some (.ref f1)))
    (i1 : PySem.W.isFn K (.ref f1) = true)
    (l1 : K.lookup f1 = some ⟨oc1, od1, .func (PySem.W.fnOf "__init__" "Book.__init__" (defArgs s_Book___init__) (defBody s_Book___init__) (defScope s_Book___init__) .none kV1 dc1 pm1 an1 cd1 ct1), sl1⟩)
    (c1 : PySem.W.codeIn K cd1 "Book.__init__" = true)
    (k1 : PySem.W.keepIn K (.ref f1) = true)
    (mk1 : PySem.W.makesIn K C_TB = true)
    (kc1 : PySem.W.keepIn K (.ref C_TB) = true)
    (a2 : PySem.W.nsIn K mainGlobals "_law_draw" = some (some (.ref f2)))
    (l2 : K.lookup f2 = some ⟨oc2, od2, .func (PySem.W.fnOf "_law_draw" "_law_draw" (defArgs s__law_draw) (defBody s__law_draw) (defScope s__law_draw) .none kV2 dc2 pm2 an2 cd2 ct2), sl2⟩)
    (c2 : PySem.W.codeIn K cd2 "_law_draw" = true)
    (k2 : PySem.W.keepIn K (.ref f2) = true)
    (a3 : PySem.W.nsIn K mainGlobals "_law_shuffled" = some (some (.ref f3)))
    (l3 : K.lookup f3 = some ⟨oc3, od3, .func (PySem.W.fnOf "_law_shuffled" "_law_shuffled" (defArgs s__law_shuffled) (defBody s__law_shuffled) (defScope s__law_shuffled) .none kV3 dc3 pm3 an3 cd3 ct3), sl3⟩)
    (c3 : PySem.W.codeIn K cd3 "_law_shuffled" = true)
    (k3 : PySem.W.keepIn K (.ref f3) = true)
    (a4 : PySem.W.nsIn K mainGlobals "_law_book" = some (some (.ref f4)))
    (l4 : K.lookup f4 = some ⟨oc4, od4, .func (PySem.W.fnOf "_law_book" "_law_book" (defArgs s__law_book) (defBody s__law_book) (defScope s__law_book) .none kV4 dc4 pm4 an4 cd4 ct4), sl4⟩)
    (c4 : PySem.W.codeIn K cd4 "_law_book" = true)
    (k4 : PySem.W.keepIn K (.ref f4) = true)
    (a5 : PySem.W.nsIn K mainGlobals "_law_dice" = some (some (.ref f5)))
    (l5 : K.lookup f5 = some ⟨oc5, od5, .func (PySem.W.fnOf "_law_dice" "_law_dice" (defArgs s__law_dice) (defBody s__law_dice) (defScope s__law_dice) .none kV5 dc5 pm5 an5 cd5 ct5), sl5⟩)
    (c5 : PySem.W.codeIn K cd5 "_law_dice" = true)
    (k5 : PySem.W.keepIn K (.ref f5) = true)
    (a6 : PySem.W.nsIn K mainGlobals "_law_tied" = some (some (.ref f6)))
    (l6 : K.lookup f6 = some ⟨oc6, od6, .func (PySem.W.fnOf "_law_tied" "_law_tied" (defArgs s__law_tied) (defBody s__law_tied) (defScope s__law_tied) .none kV6 dc6 pm6 an6 cd6 ct6), sl6⟩)
    (c6 : PySem.W.codeIn K cd6 "_law_tied" = true)
    (k6 : PySem.W.keepIn K (.ref f6) = true)
    (a7 : PySem.W.nsIn K mainGlobals "_law_drawing" = some (some (.ref f7)))
    (l7 : K.lookup f7 = some ⟨oc7, od7, .func (PySem.W.fnOf "_law_drawing" "_law_drawing" (defArgs s__law_drawing) (defBody s__law_drawing) (defScope s__law_drawing) .none kV7 dc7 pm7 an7 cd7 ct7), sl7⟩)
    (c7 : PySem.W.codeIn K cd7 "_law_drawing" = true)
    (k7 : PySem.W.keepIn K (.ref f7) = true)
    (a8 : PySem.W.nsIn K mainGlobals "_law_pairs_of_corners" = some (some (.ref f8)))
    (l8 : K.lookup f8 = some ⟨oc8, od8, .func (PySem.W.fnOf "_law_pairs_of_corners" "_law_pairs_of_corners" (defArgs s__law_pairs_of_corners) (defBody s__law_pairs_of_corners) (defScope s__law_pairs_of_corners) .none kV8 dc8 pm8 an8 cd8 ct8), sl8⟩)
    (c8 : PySem.W.codeIn K cd8 "_law_pairs_of_corners" = true)
    (k8 : PySem.W.keepIn K (.ref f8) = true)
    (a9 : PySem.W.nsIn K mainGlobals "_law_rims" = some (some (.ref f9)))
    (l9 : K.lookup f9 = some ⟨oc9, od9, .func (PySem.W.fnOf "_law_rims" "_law_rims" (defArgs s__law_rims) (defBody s__law_rims) (defScope s__law_rims) .none kV9 dc9 pm9 an9 cd9 ct9), sl9⟩)
    (c9 : PySem.W.codeIn K cd9 "_law_rims" = true)
    (k9 : PySem.W.keepIn K (.ref f9) = true)
    (a10 : PySem.W.nsIn K mainGlobals "is_integer" = some (some (.ref f10)))
    (l10 : K.lookup f10 = some ⟨oc10, od10, .func (PySem.W.fnOf "is_integer" "is_integer" (defArgs s_is_integer) (defBody s_is_integer) (defScope s_is_integer) .none kV10 dc10 pm10 an10 cd10 ct10), sl10⟩)
    (c10 : PySem.W.codeIn K cd10 "is_integer" = true)
    (k10 : PySem.W.keepIn K (.ref f10) = true)
    (a11 : PySem.W.nsIn K mainGlobals "are_signs" = some (some (.ref f11)))
    (l11 : K.lookup f11 = some ⟨oc11, od11, .func (PySem.W.fnOf "are_signs" "are_signs" (defArgs s_are_signs) (defBody s_are_signs) (defScope s_are_signs) .none kV11 dc11 pm11 an11 cd11 ct11), sl11⟩)
    (c11 : PySem.W.codeIn K cd11 "are_signs" = true)
    (k11 : PySem.W.keepIn K (.ref f11) = true)
    (a12 : PySem.W.nsIn K mainGlobals "is_turn" = some (some (.ref f12)))
    (l12 : K.lookup f12 = some ⟨oc12, od12, .func (PySem.W.fnOf "is_turn" "is_turn" (defArgs s_is_turn) (defBody s_is_turn) (defScope s_is_turn) .none kV12 dc12 pm12 an12 cd12 ct12), sl12⟩)
    (c12 : PySem.W.codeIn K cd12 "is_turn" = true)
    (k12 : PySem.W.keepIn K (.ref f12) = true)
    (a13 : PySem.W.nsIn K mainGlobals "tied_of" = some (some (.ref f13)))
    (l13 : K.lookup f13 = some ⟨oc13, od13, .func (PySem.W.fnOf "tied_of" "tied_of" (defArgs s_tied_of) (defBody s_tied_of) (defScope s_tied_of) .none kV13 dc13 pm13 an13 cd13 ct13), sl13⟩)
    (c13 : PySem.W.codeIn K cd13 "tied_of" = true)
    (k13 : PySem.W.keepIn K (.ref f13) = true)
    (a14 : PySem.W.nsIn K mainGlobals "is_right_drawing" = some (some (.ref f14)))
    (l14 : K.lookup f14 = some ⟨oc14, od14, .func (PySem.W.fnOf "is_right_drawing" "is_right_drawing" (defArgs s_is_right_drawing) (defBody s_is_right_drawing) (defScope s_is_right_drawing) .none kV14 dc14 pm14 an14 cd14 ct14), sl14⟩)
    (c14 : PySem.W.codeIn K cd14 "is_right_drawing" = true)
    (k14 : PySem.W.keepIn K (.ref f14) = true)
    (a15 : PySem.W.nsIn K mainGlobals "check_drawing" = some (some (.ref f15)))
    (l15 : K.lookup f15 = some ⟨oc15, od15, .func (PySem.W.fnOf "check_drawing" "check_drawing" (defArgs s_check_drawing) (defBody s_check_drawing) (defScope s_check_drawing) .none kV15 dc15 pm15 an15 cd15 ct15), sl15⟩)
    (c15 : PySem.W.codeIn K cd15 "check_drawing" = true)
    (k15 : PySem.W.keepIn K (.ref f15) = true)
    (a16 : PySem.W.nsIn K mainGlobals "tie_of" = some (some (.ref f16)))
    (l16 : K.lookup f16 = some ⟨oc16, od16, .func (PySem.W.fnOf "tie_of" "tie_of" (defArgs s_tie_of) (defBody s_tie_of) (defScope s_tie_of) .none kV16 dc16 pm16 an16 cd16 ct16), sl16⟩)
    (c16 : PySem.W.codeIn K cd16 "tie_of" = true)
    (k16 : PySem.W.keepIn K (.ref f16) = true)
    (a17 : PySem.W.nsIn K mainGlobals "steps_behind" = some (some (.ref f17)))
    (l17 : K.lookup f17 = some ⟨oc17, od17, .func (PySem.W.fnOf "steps_behind" "steps_behind" (defArgs s_steps_behind) (defBody s_steps_behind) (defScope s_steps_behind) .none kV17 dc17 pm17 an17 cd17 ct17), sl17⟩)
    (c17 : PySem.W.codeIn K cd17 "steps_behind" = true)
    (k17 : PySem.W.keepIn K (.ref f17) = true)
    (a18 : PySem.W.nsIn K mainGlobals "rounds_along" = some (some (.ref f18)))
    (l18 : K.lookup f18 = some ⟨oc18, od18, .func (PySem.W.fnOf "rounds_along" "rounds_along" (defArgs s_rounds_along) (defBody s_rounds_along) (defScope s_rounds_along) .none kV18 dc18 pm18 an18 cd18 ct18), sl18⟩)
    (c18 : PySem.W.codeIn K cd18 "rounds_along" = true)
    (k18 : PySem.W.keepIn K (.ref f18) = true)
    (a19 : PySem.W.nsIn K mainGlobals "signs_by_tie" = some (some (.ref f19)))
    (l19 : K.lookup f19 = some ⟨oc19, od19, .func (PySem.W.fnOf "signs_by_tie" "signs_by_tie" (defArgs s_signs_by_tie) (defBody s_signs_by_tie) (defScope s_signs_by_tie) .none kV19 dc19 pm19 an19 cd19 ct19), sl19⟩)
    (c19 : PySem.W.codeIn K cd19 "signs_by_tie" = true)
    (k19 : PySem.W.keepIn K (.ref f19) = true)
    (a20 : PySem.W.nsIn K mainGlobals "rounds_of" = some (some (.ref f20)))
    (l20 : K.lookup f20 = some ⟨oc20, od20, .func (PySem.W.fnOf "rounds_of" "rounds_of" (defArgs s_rounds_of) (defBody s_rounds_of) (defScope s_rounds_of) .none kV20 dc20 pm20 an20 cd20 ct20), sl20⟩)
    (c20 : PySem.W.codeIn K cd20 "rounds_of" = true)
    (k20 : PySem.W.keepIn K (.ref f20) = true)
    (a21 : PySem.W.nsIn K mainGlobals "rims_of" = some (some (.ref f21)))
    (l21 : K.lookup f21 = some ⟨oc21, od21, .func (PySem.W.fnOf "rims_of" "rims_of" (defArgs s_rims_of) (defBody s_rims_of) (defScope s_rims_of) .none kV21 dc21 pm21 an21 cd21 ct21), sl21⟩)
    (c21 : PySem.W.codeIn K cd21 "rims_of" = true)
    (k21 : PySem.W.keepIn K (.ref f21) = true)
    (a22 : PySem.W.nsIn K mainGlobals "rims" = some (some (.ref f22)))
    (l22 : K.lookup f22 = some ⟨oc22, od22, .func (PySem.W.fnOf "rims" "rims" (defArgs s_rims) (defBody s_rims) (defScope s_rims) .none kV22 dc22 pm22 an22 cd22 ct22), sl22⟩)
    (c22 : PySem.W.codeIn K cd22 "rims" = true)
    (k22 : PySem.W.keepIn K (.ref f22) = true)
    (a23 : PySem.W.nsIn K mainGlobals "is_within" = some (some (.ref f23)))
    (l23 : K.lookup f23 = some ⟨oc23, od23, .func (PySem.W.fnOf "is_within" "is_within" (defArgs s_is_within) (defBody s_is_within) (defScope s_is_within) .none kV23 dc23 pm23 an23 cd23 ct23), sl23⟩)
    (c23 : PySem.W.codeIn K cd23 "is_within" = true)
    (k23 : PySem.W.keepIn K (.ref f23) = true)
    (a24 : PySem.W.nsIn K mainGlobals "is_index" = some (some (.ref f24)))
    (l24 : K.lookup f24 = some ⟨oc24, od24, .func (PySem.W.fnOf "is_index" "is_index" (defArgs s_is_index) (defBody s_is_index) (defScope s_is_index) .none kV24 dc24 pm24 an24 cd24 ct24), sl24⟩)
    (c24 : PySem.W.codeIn K cd24 "is_index" = true)
    (k24 : PySem.W.keepIn K (.ref f24) = true)
    (a25 : PySem.W.nsIn K mainGlobals "is_rising_pair" = some (some (.ref f25)))
    (l25 : K.lookup f25 = some ⟨oc25, od25, .func (PySem.W.fnOf "is_rising_pair" "is_rising_pair" (defArgs s_is_rising_pair) (defBody s_is_rising_pair) (defScope s_is_rising_pair) .none kV25 dc25 pm25 an25 cd25 ct25), sl25⟩)
    (c25 : PySem.W.codeIn K cd25 "is_rising_pair" = true)
    (k25 : PySem.W.keepIn K (.ref f25) = true)
    (a26 : PySem.W.nsIn K mainGlobals "are_rising_pairs" = some (some (.ref f26)))
    (l26 : K.lookup f26 = some ⟨oc26, od26, .func (PySem.W.fnOf "are_rising_pairs" "are_rising_pairs" (defArgs s_are_rising_pairs) (defBody s_are_rising_pairs) (defScope s_are_rising_pairs) .none kV26 dc26 pm26 an26 cd26 ct26), sl26⟩)
    (c26 : PySem.W.codeIn K cd26 "are_rising_pairs" = true)
    (k26 : PySem.W.keepIn K (.ref f26) = true)
    (a27 : PySem.W.nsIn K mainGlobals "beside_lists" = some (some (.ref f27)))
    (l27 : K.lookup f27 = some ⟨oc27, od27, .func (PySem.W.fnOf "beside_lists" "beside_lists" (defArgs s_beside_lists) (defBody s_beside_lists) (defScope s_beside_lists) .none kV27 dc27 pm27 an27 cd27 ct27), sl27⟩)
    (c27 : PySem.W.codeIn K cd27 "beside_lists" = true)
    (k27 : PySem.W.keepIn K (.ref f27) = true)
    (a28 : PySem.W.nsIn K mainGlobals "reached" = some (some (.ref f28)))
    (l28 : K.lookup f28 = some ⟨oc28, od28, .func (PySem.W.fnOf "reached" "reached" (defArgs s_reached) (defBody s_reached) (defScope s_reached) .none kV28 dc28 pm28 an28 cd28 ct28), sl28⟩)
    (c28 : PySem.W.codeIn K cd28 "reached" = true)
    (k28 : PySem.W.keepIn K (.ref f28) = true)
    (a29 : PySem.W.nsIn K mainGlobals "law" = some (some (.ref f29)))
    (l29 : K.lookup f29 = some ⟨oc29, od29, .func (PySem.W.fnOf "law" "law" (defArgs s_law) (defBody s_law) (defScope s_law) .none kV29 dc29 pm29 an29 cd29 ct29), sl29⟩)
    (c29 : PySem.W.codeIn K cd29 "law" = true)
    (k29 : PySem.W.keepIn K (.ref f29) = true)
    (z_abs : PySem.W.nsIn K mainGlobals "abs" = some none)
    (z_all : PySem.W.nsIn K mainGlobals "all" = some none)
    (z_any : PySem.W.nsIn K mainGlobals "any" = some none)
    (z_bool : PySem.W.nsIn K mainGlobals "bool" = some none)
    (z_dict : PySem.W.nsIn K mainGlobals "dict" = some none)
    (z_enumerate : PySem.W.nsIn K mainGlobals "enumerate" = some none)
    (z_int : PySem.W.nsIn K mainGlobals "int" = some none)
    (z_isinstance : PySem.W.nsIn K mainGlobals "isinstance" = some none)
    (z_len : PySem.W.nsIn K mainGlobals "len" = some none)
    (z_list : PySem.W.nsIn K mainGlobals "list" = some none)
    (z_max : PySem.W.nsIn K mainGlobals "max" = some none)
    (z_min : PySem.W.nsIn K mainGlobals "min" = some none)
    (z_range : PySem.W.nsIn K mainGlobals "range" = some none)
    (z_sorted : PySem.W.nsIn K mainGlobals "sorted" = some none)
    (z_tuple : PySem.W.nsIn K mainGlobals "tuple" = some none)
    (z_zip : PySem.W.nsIn K mainGlobals "zip" = some none)
    (v_MOST_CONTENTS : PySem.W.nsIn K mainGlobals "MOST_CONTENTS" = some (some (.int (8) tk_MOST_CONTENTS)))
    (v_MOST_TIES : PySem.W.nsIn K mainGlobals "MOST_TIES" = some (some (.int (28) tk_MOST_TIES))) :
    ∃ fd : FuncData, (∀ (s : Shared) (v : Value), BindsTo s fd ⟨[v], []⟩ [("_law_script", v)]) ∧ ∀ base : Heap, K.In base → base.Ns mainGlobals mg → FnOk l.prog w K mg base CX0 8 fa fd ["_law_script"] (liftSp K spLaw) := by
  have e := hfa.symm.trans (PySem.W.mg_of X G a29)
  cases e
  have B : Bn mg := ⟨PySem.W.mg_none_of X G z_abs, PySem.W.mg_none_of X G z_all, PySem.W.mg_none_of X G z_any, PySem.W.mg_none_of X G z_bool, PySem.W.mg_none_of X G z_dict, PySem.W.mg_none_of X G z_enumerate, PySem.W.mg_none_of X G z_int, PySem.W.mg_none_of X G z_isinstance, PySem.W.mg_none_of X G z_len, PySem.W.mg_none_of X G z_list, PySem.W.mg_none_of X G z_max, PySem.W.mg_none_of X G z_min, PySem.W.mg_none_of X G z_range, PySem.W.mg_none_of X G z_sorted, PySem.W.mg_none_of X G z_tuple, PySem.W.mg_none_of X G z_zip⟩
  have GG : Gs mg := ⟨⟨_, PySem.W.mg_of X G v_MOST_CONTENTS⟩, ⟨_, PySem.W.mg_of X G v_MOST_TIES⟩⟩
  have TB : Cl_TB K mg C_TB := ⟨⟨pg_TB, hd_TB, po_TB, sa_TB⟩, n_TB_kept_size, n_TB_kept_ties, n_TB_kept_facts⟩
  have F1 : DMet K "__init__" "Book.__init__" s_Book___init__ f1 ["self", "size", "ties"] := dmet_mk l1 c1 k1 (fun _ _ _ _ _ _ us hl => match us, hl with | [_, _, _], _ => rfl)
  have F2 : DFun K mg "_law_draw" s__law_draw ["_law_dice_here", "_law_sides"] := dfun_mk X G a2 l2 c2 k2 (fun _ _ _ _ _ _ us hl => match us, hl with | [_, _], _ => rfl)
  have F3 : DFun K mg "_law_shuffled" s__law_shuffled ["_law_dice_here", "_law_items"] := dfun_mk X G a3 l3 c3 k3 (fun _ _ _ _ _ _ us hl => match us, hl with | [_, _], _ => rfl)
  have F4 : DFun K mg "_law_book" s__law_book ["_law_dice_here", "_law_most"] := dfun_mk X G a4 l4 c4 k4 (fun _ _ _ _ _ _ us hl => match us, hl with | [_, _], _ => rfl)
  have F5 : DFun K mg "_law_dice" s__law_dice ["_law_script"] := dfun_mk X G a5 l5 c5 k5 (fun _ _ _ _ _ _ us hl => match us, hl with | [_], _ => rfl)
  have F6 : DFun K mg "_law_tied" s__law_tied ["_law_size", "_law_ties"] := dfun_mk X G a6 l6 c6 k6 (fun _ _ _ _ _ _ us hl => match us, hl with | [_, _], _ => rfl)
  have F7 : DFun K mg "_law_drawing" s__law_drawing ["_law_dice_here", "_law_size", "_law_ties", "_law_minus"] := dfun_mk X G a7 l7 c7 k7 (fun _ _ _ _ _ _ us hl => match us, hl with | [_, _, _, _], _ => rfl)
  have F8 : DFun K mg "_law_pairs_of_corners" s__law_pairs_of_corners ["_law_size", "_law_ties", "_law_drawing_here"] := dfun_mk X G a8 l8 c8 k8 (fun _ _ _ _ _ _ us hl => match us, hl with | [_, _, _], _ => rfl)
  have F9 : DFun K mg "_law_rims" s__law_rims ["_law_size", "_law_ties", "_law_drawing_here"] := dfun_mk X G a9 l9 c9 k9 (fun _ _ _ _ _ _ us hl => match us, hl with | [_, _, _], _ => rfl)
  have F10 : DFun K mg "is_integer" s_is_integer ["thing"] := dfun_mk X G a10 l10 c10 k10 (fun _ _ _ _ _ _ us hl => match us, hl with | [_], _ => rfl)
  have F11 : DFun K mg "are_signs" s_are_signs ["thing", "many"] := dfun_mk X G a11 l11 c11 k11 (fun _ _ _ _ _ _ us hl => match us, hl with | [_, _], _ => rfl)
  have F12 : DFun K mg "is_turn" s_is_turn ["thing", "others"] := dfun_mk X G a12 l12 c12 k12 (fun _ _ _ _ _ _ us hl => match us, hl with | [_, _], _ => rfl)
  have F13 : DFun K mg "tied_of" s_tied_of ["book"] := dfun_mk X G a13 l13 c13 k13 (fun _ _ _ _ _ _ us hl => match us, hl with | [_], _ => rfl)
  have F14 : DFun K mg "is_right_drawing" s_is_right_drawing ["book", "thing"] := dfun_mk X G a14 l14 c14 k14 (fun _ _ _ _ _ _ us hl => match us, hl with | [_, _], _ => rfl)
  have F15 : DFun K mg "check_drawing" s_check_drawing ["book", "drawing"] := dfun_mk X G a15 l15 c15 k15 (fun _ _ _ _ _ _ us hl => match us, hl with | [_, _], _ => rfl)
  have F16 : DFun K mg "tie_of" s_tie_of ["one", "other"] := dfun_mk X G a16 l16 c16 k16 (fun _ _ _ _ _ _ us hl => match us, hl with | [_, _], _ => rfl)
  have F17 : DFun K mg "steps_behind" s_steps_behind ["turning", "signs"] := dfun_mk X G a17 l17 c17 k17 (fun _ _ _ _ _ _ us hl => match us, hl with | [_, _], _ => rfl)
  have F18 : DFun K mg "rounds_along" s_rounds_along ["turning", "signs"] := dfun_mk X G a18 l18 c18 k18 (fun _ _ _ _ _ _ us hl => match us, hl with | [_, _], _ => rfl)
  have F19 : DFun K mg "signs_by_tie" s_signs_by_tie ["book", "drawing"] := dfun_mk X G a19 l19 c19 k19 (fun _ _ _ _ _ _ us hl => match us, hl with | [_, _], _ => rfl)
  have F20 : DFun K mg "rounds_of" s_rounds_of ["book", "drawing"] := dfun_mk X G a20 l20 c20 k20 (fun _ _ _ _ _ _ us hl => match us, hl with | [_, _], _ => rfl)
  have F21 : DFun K mg "rims_of" s_rims_of ["book", "drawing"] := dfun_mk X G a21 l21 c21 k21 (fun _ _ _ _ _ _ us hl => match us, hl with | [_, _], _ => rfl)
  have F22 : DFun K mg "rims" s_rims ["book", "drawing"] := dfun_mk X G a22 l22 c22 k22 (fun _ _ _ _ _ _ us hl => match us, hl with | [_, _], _ => rfl)
  have F23 : DFun K mg "is_within" s_is_within ["thing", "least", "most"] := dfun_mk X G a23 l23 c23 k23 (fun _ _ _ _ _ _ us hl => match us, hl with | [_, _, _], _ => rfl)
  have F24 : DFun K mg "is_index" s_is_index ["thing", "many"] := dfun_mk X G a24 l24 c24 k24 (fun _ _ _ _ _ _ us hl => match us, hl with | [_, _], _ => rfl)
  have F25 : DFun K mg "is_rising_pair" s_is_rising_pair ["thing", "many"] := dfun_mk X G a25 l25 c25 k25 (fun _ _ _ _ _ _ us hl => match us, hl with | [_, _], _ => rfl)
  have F26 : DFun K mg "are_rising_pairs" s_are_rising_pairs ["thing", "many", "most"] := dfun_mk X G a26 l26 c26 k26 (fun _ _ _ _ _ _ us hl => match us, hl with | [_, _, _], _ => rfl)
  have F27 : DFun K mg "beside_lists" s_beside_lists ["many", "pairs"] := dfun_mk X G a27 l27 c27 k27 (fun _ _ _ _ _ _ us hl => match us, hl with | [_, _], _ => rfl)
  have F28 : DFun K mg "reached" s_reached ["rows", "inside", "start"] := dfun_mk X G a28 l28 c28 k28 (fun _ _ _ _ _ _ us hl => match us, hl with | [_, _, _], _ => rfl)
  refine ⟨PySem.W.fnOf "law" "law" (defArgs s_law) (defBody s_law) (defScope s_law) .none kV29 dc29 pm29 an29 cd29 ct29, fun s v => .of_eq rfl, fun base _ _ => ?_⟩
  have c__law_draw := c__law_draw (P := l.prog) (w := w) (base := base) F2 B GG 
  have c__law_shuffled := c__law_shuffled (P := l.prog) (w := w) (base := base) F3 B GG c__law_draw
  have c__law_book := c__law_book (P := l.prog) (w := w) (base := base) F4 B GG c__law_draw c__law_shuffled
  have c__law_dice := c__law_dice (P := l.prog) (w := w) (base := base) F5 B GG 
  have c__law_tied := c__law_tied (P := l.prog) (w := w) (base := base) F6 B GG 
  have c__law_drawing := c__law_drawing (P := l.prog) (w := w) (base := base) F7 B GG c__law_draw c__law_shuffled c__law_tied
  have c__law_pairs_of_corners := c__law_pairs_of_corners (P := l.prog) (w := w) (base := base) F8 B GG 
  have c__law_rims := c__law_rims (P := l.prog) (w := w) (base := base) F9 B GG c__law_pairs_of_corners
  have c_is_integer := c_is_integer (P := l.prog) (w := w) (base := base) F10 B GG 
  have c_are_signs := c_are_signs (P := l.prog) (w := w) (base := base) F11 B GG c_is_integer
  have c_is_turn := c_is_turn (P := l.prog) (w := w) (base := base) F12 B GG c_is_integer
  have c_tied_of := c_tied_of (P := l.prog) (w := w) (base := base) (C_TB := C_TB) F13 B GG TB
  have c_is_right_drawing := c_is_right_drawing (P := l.prog) (w := w) (base := base) (C_TB := C_TB) F14 B GG TB c_are_signs c_is_turn c_tied_of
  have c_check_drawing := c_check_drawing (P := l.prog) (w := w) (base := base) (C_TB := C_TB) F15 B GG c_is_right_drawing
  have c_tie_of := c_tie_of (P := l.prog) (w := w) (base := base) F16 B GG 
  have c_steps_behind := c_steps_behind (P := l.prog) (w := w) (base := base) F17 B GG c_tie_of
  have c_rounds_along := c_rounds_along (P := l.prog) (w := w) (base := base) F18 B GG c_steps_behind
  have c_signs_by_tie := c_signs_by_tie (P := l.prog) (w := w) (base := base) (C_TB := C_TB) F19 B GG TB
  have c_rounds_of := c_rounds_of (P := l.prog) (w := w) (base := base) (C_TB := C_TB) F20 B GG c_rounds_along c_signs_by_tie
  have c_rims_of := c_rims_of (P := l.prog) (w := w) (base := base) (C_TB := C_TB) F21 B GG TB c_rounds_of
  have c_rims := c_rims (P := l.prog) (w := w) (base := base) (C_TB := C_TB) F22 B GG c_check_drawing c_rims_of
  have c_is_within := c_is_within (P := l.prog) (w := w) (base := base) F23 B GG c_is_integer
  have c_is_index := c_is_index (P := l.prog) (w := w) (base := base) F24 B GG c_is_within
  have c_is_rising_pair := c_is_rising_pair (P := l.prog) (w := w) (base := base) F25 B GG c_is_index
  have c_are_rising_pairs := c_are_rising_pairs (P := l.prog) (w := w) (base := base) F26 B GG c_is_rising_pair
  have c_beside_lists := c_beside_lists (P := l.prog) (w := w) (base := base) F27 B GG 
  have c_reached := c_reached (P := l.prog) (w := w) (base := base) F28 B GG 
  have m1 := c_Book___init__ (P := l.prog) (w := w) (base := base) (C_TB := C_TB) F1 B GG TB c_are_rising_pairs c_beside_lists c_is_within c_reached
  have MK_Book := dmk_mk X G aC_TB ⟨mk1, a1, i1, kc1⟩ m1
  exact c_law (fun_mk (st := s_law) l29 c29 k29) B GG c__law_book c__law_dice c__law_draw c__law_drawing c__law_rims c_rims MK_Book
end DL
open PySem PySem.W PyProof.Rows
set_option maxRecDepth 100000 in
set_option maxHeartbeats 0 in
theorem PySem.Challenge.cw_storelands_k44_whole_rims_holds : PySem.Challenge.rw_storelands_k44_whole_rims.Holds := by
  w_on; o_law; k_head; (case hw => w_witness2)
  k_fill
  refine DL.walk_law (k := 8) (x := "_law_script") (l := PySem.Challenge.rw_storelands_k44_whole_rims) rfl rfl ⟨rfl, by decide, by decide⟩ (fun w h Y => PySem.W.kIn_of Y) ?F
  case F =>
    intro w mg fa h KX G hmg
    refine' DL.all_mk KX G hmg ?aC_TB ?pg_TB ?hd_TB ?po_TB ?sa_TB ?n_TB_kept_size ?n_TB_kept_ties ?n_TB_kept_facts ?a1 ?i1 ?l1 ?c1 ?k1 ?mk1 ?kc1 ?a2 ?l2 ?c2 ?k2 ?a3 ?l3 ?c3 ?k3 ?a4 ?l4 ?c4 ?k4 ?a5 ?l5 ?c5 ?k5 ?a6 ?l6 ?c6 ?k6 ?a7 ?l7 ?c7 ?k7 ?a8 ?l8 ?c8 ?k8 ?a9 ?l9 ?c9 ?k9 ?a10 ?l10 ?c10 ?k10 ?a11 ?l11 ?c11 ?k11 ?a12 ?l12 ?c12 ?k12 ?a13 ?l13 ?c13 ?k13 ?a14 ?l14 ?c14 ?k14 ?a15 ?l15 ?c15 ?k15 ?a16 ?l16 ?c16 ?k16 ?a17 ?l17 ?c17 ?k17 ?a18 ?l18 ?c18 ?k18 ?a19 ?l19 ?c19 ?k19 ?a20 ?l20 ?c20 ?k20 ?a21 ?l21 ?c21 ?k21 ?a22 ?l22 ?c22 ?k22 ?a23 ?l23 ?c23 ?k23 ?a24 ?l24 ?c24 ?k24 ?a25 ?l25 ?c25 ?k25 ?a26 ?l26 ?c26 ?k26 ?a27 ?l27 ?c27 ?k27 ?a28 ?l28 ?c28 ?k28 ?a29 ?l29 ?c29 ?k29 ?z_abs ?z_all ?z_any ?z_bool ?z_dict ?z_enumerate ?z_int ?z_isinstance ?z_len ?z_list ?z_max ?z_min ?z_range ?z_sorted ?z_tuple ?z_zip ?v_MOST_CONTENTS ?v_MOST_TIES
    (case aC_TB => k_is); (case pg_TB => k_is); (case hd_TB => k_is); (case po_TB => k_is); (case sa_TB => k_is); (case n_TB_kept_size => k_is)
    (case n_TB_kept_ties => k_is); (case n_TB_kept_facts => k_is); (case a1 => k_is); (case i1 => k_is); (case l1 => k_is); (case c1 => k_is)
    (case k1 => k_is); (case mk1 => k_is); (case kc1 => k_is); (case a2 => k_is); (case l2 => k_is); (case c2 => k_is)
    (case k2 => k_is); (case a3 => k_is); (case l3 => k_is); (case c3 => k_is); (case k3 => k_is); (case a4 => k_is)
    (case l4 => k_is); (case c4 => k_is); (case k4 => k_is); (case a5 => k_is); (case l5 => k_is); (case c5 => k_is)
    (case k5 => k_is); (case a6 => k_is); (case l6 => k_is); (case c6 => k_is); (case k6 => k_is); (case a7 => k_is)
    (case l7 => k_is); (case c7 => k_is); (case k7 => k_is); (case a8 => k_is); (case l8 => k_is); (case c8 => k_is)
    (case k8 => k_is); (case a9 => k_is); (case l9 => k_is); (case c9 => k_is); (case k9 => k_is); (case a10 => k_is)
    (case l10 => k_is); (case c10 => k_is); (case k10 => k_is); (case a11 => k_is); (case l11 => k_is); (case c11 => k_is)
    (case k11 => k_is); (case a12 => k_is); (case l12 => k_is); (case c12 => k_is); (case k12 => k_is); (case a13 => k_is)
    (case l13 => k_is); (case c13 => k_is); (case k13 => k_is); (case a14 => k_is); (case l14 => k_is); (case c14 => k_is)
    (case k14 => k_is); (case a15 => k_is); (case l15 => k_is); (case c15 => k_is); (case k15 => k_is); (case a16 => k_is)
    (case l16 => k_is); (case c16 => k_is); (case k16 => k_is); (case a17 => k_is); (case l17 => k_is); (case c17 => k_is)
    (case k17 => k_is); (case a18 => k_is); (case l18 => k_is); (case c18 => k_is); (case k18 => k_is); (case a19 => k_is)
    (case l19 => k_is); (case c19 => k_is); (case k19 => k_is); (case a20 => k_is); (case l20 => k_is); (case c20 => k_is)
    (case k20 => k_is); (case a21 => k_is); (case l21 => k_is); (case c21 => k_is); (case k21 => k_is); (case a22 => k_is)
    (case l22 => k_is); (case c22 => k_is); (case k22 => k_is); (case a23 => k_is); (case l23 => k_is); (case c23 => k_is)
    (case k23 => k_is); (case a24 => k_is); (case l24 => k_is); (case c24 => k_is); (case k24 => k_is); (case a25 => k_is)
    (case l25 => k_is); (case c25 => k_is); (case k25 => k_is); (case a26 => k_is); (case l26 => k_is); (case c26 => k_is)
    (case k26 => k_is); (case a27 => k_is); (case l27 => k_is); (case c27 => k_is); (case k27 => k_is); (case a28 => k_is)
    (case l28 => k_is); (case c28 => k_is); (case k28 => k_is); (case a29 => k_is); (case l29 => k_is); (case c29 => k_is)
    (case k29 => k_is); (case z_abs => k_is); (case z_all => k_is); (case z_any => k_is); (case z_bool => k_is); (case z_dict => k_is)
    (case z_enumerate => k_is); (case z_int => k_is); (case z_isinstance => k_is); (case z_len => k_is); (case z_list => k_is); (case z_max => k_is)
    (case z_min => k_is); (case z_range => k_is); (case z_sorted => k_is); (case z_tuple => k_is); (case z_zip => k_is); (case v_MOST_CONTENTS => k_is)
    (case v_MOST_TIES => k_is)

