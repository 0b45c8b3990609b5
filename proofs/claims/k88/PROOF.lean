import PyProof.Rows.All
import Wide.All
import OpenK.AllK
import Wide.FinOn
import HandS.ForMost
import HandS.ForExc
import HandS.IsInst
import HandS.TupAny
import HandS.Deep
import HandS.Flow
import HandS.Zip
import HandS.Comp
import HandS.ExcCtx
import HandS.Walk
import HandS.TupLen
import HandS.Conv
import HandS.SortInts
import HandS.SortRule
import HandS.SetFor
import HandS.More
import HandS.Property
import HandS.NoneIn
import HandS.TupLe
import HandS.Ends
import HandS.DictComp
import HandS.Style
import HandS.ExcOwn
import HandS.ExcIs
import PyProof.ExcBaseAll.ValueError
import HandS.Iter
import KE.SortUse
import KE.DataCmp
import HandS.Strs
import PyProof.EqKinds
import HandS.ExcInit
import HandS.ExcField
import KE.KExcSuper
import KE.KSuper
import HandS.TryMany
import HandS.HeadHook3
import HandS.Codes
import HandS.TupMul
import HandS.TupSets
import KE.GoesMore
import PyProof.AutoSeq1
import PyProof.SumWalk
import PyProof.ListOps
import PyProof.ReprRoads
import PyProof.CallFns
import PyProof.ReprLen
import KE.KDictCopyH
import HandS.SetKeys
import HandS.DictTup
import KE.KUnpackStar
import HandS.FStr
import HandS.CallLocal
import KE.KIntText
import PyProof.StrLawsTight
import PyProof.StrLawsChain
import PyProof.Rows.StrSplitAre
import PyProof.StrLawsIn
import HandS.Hot
import HandS.HotCalls
import PySem.Challenge.RW_storelands_k88_logs_refused
set_option Elab.async false
set_option linter.all false
set_option maxRecDepth 100000
set_option maxHeartbeats 2000000
namespace DL
open PySem PySem.Spec PyProof.Rows L2

/-- data: scalars, references (what may change), frozen tuples and lists -/
inductive D where
  | non | bl (b : Bool) | int (i : Int) | str (x : Str) | ref (a : Addr) | ty (n : String)
  | tup (l : List D) | lst (l : List D) | kt (l : List D) | ls (l : List D)
  | dk (ks : List Key) (l : List D) | dt (ks : List (List Key)) (l : List D)

/-- what may change -/
inductive MO where
  | lst (l : List D)
  | dK (kvs : List (Key × D))
  | dT (kvs : List (List Key × D))
  | ins (C : Addr) (fs : List (Str × D))

abbrev Mp := Addr → Option MO
def mset (M : Mp) (a : Addr) (o : MO) : Mp := fun b => if b = a then some o else M b
def mdel (M : Mp) (a : Addr) : Mp := fun b => if b = a then none else M b
theorem mne_of_none {M : Mp} {a b : Addr} {o : MO} (h : M a = some o) (h' : M b = none) : a ≠ b := by
  intro e; subst e; rw [h] at h'; cases h'
theorem mset_same {M : Mp} {a : Addr} {o : MO} : mset M a o a = some o := if_pos rfl
theorem mset_ne {M : Mp} {a b : Addr} {o : MO} (h : b ≠ a) : mset M a o b = M b := if_neg h
theorem mdel_same {M : Mp} {a : Addr} : mdel M a a = none := if_pos rfl
theorem mdel_ne {M : Mp} {a b : Addr} (h : b ≠ a) : mdel M a b = M b := if_neg h
theorem mset_mset {M : Mp} {a : Addr} {o u : MO} : mset (mset M a o) a u = mset M a u := by
  funext b; unfold mset; split <;> rfl

/-- what is frozen, what is somebody else's (it stays as it is), dicts that are frozen -/
structure FZ where
  f : Hp
  p : Hp
  d : Hp
abbrev Sm (F F1 : FZ) : Prop := Same F.f F1.f ∧ Same F.d F1.d
theorem Sm.rfl' {F : FZ} : Sm F F := ⟨Same.refl _, Same.refl _⟩
theorem Sm.trans' {F F1 F2 : FZ} (a : Sm F F1) (b : Sm F1 F2) : Sm F F2 := ⟨a.1.trans b.1, a.2.trans b.2⟩
structure FLe (F F1 : FZ) : Prop where
  s : Sm F F1
  e : F1.p = F.p
theorem FLe.refl (F : FZ) : FLe F F := ⟨Sm.rfl', rfl⟩
theorem FLe.trans {F F1 F2 : FZ} (a : FLe F F1) (b : FLe F1 F2) : FLe F F2 := ⟨a.s.trans' b.s, b.e.trans a.e⟩
/-- what stands on a base: its frozen things, and what was somebody else's -/
structure Bs (F0 F : FZ) : Prop where
  f : Sm F0 F
  p : Same F0.p F.p
theorem Bs.refl (F : FZ) : Bs F F := ⟨Sm.rfl', Same.refl _⟩
theorem Bs.tr {F0 F F1 : FZ} (a : Bs F0 F) (b : FLe F F1) : Bs F0 F1 := ⟨a.f.trans' b.s, by rw [b.e]; exact a.p⟩
def FZ.put (F : FZ) (a : Addr) (o : HO) : FZ := ⟨upd F.f a o, F.p, F.d⟩
/-- a tuple of the written part -/
def KTup (K : PySem.W.Frag) (a : Addr) (xs : List V) : Prop := ∃ (o : Obj) (its : Array Value) (n : Nat), K.lookup a = some o ∧ o.cls = .type "tuple" ∧ o.data = .seq its n ∧ its.size ≤ sizeLine ∧ Vals xs its.toList ∧ o.dict = none
/-- a tuple of the written part, or one whose object is known: it has no attributes of its own -/
def KtF (K : PySem.W.Frag) (F : FZ) (a : Addr) (xs : List V) : Prop := KTup K a xs ∨ ∃ o : Obj, F.f a = some (.frz o (.tup xs)) ∧ o.dict = none
theorem KtF.mono {K : PySem.W.Frag} {F F' : FZ} {a : Addr} {xs : List V} (h : KtF K F a xs) (e : Sm F F') : KtF K F' a xs := h.imp (fun z => z) fun ⟨o, z, y⟩ => ⟨o, e.1 _ _ z, y⟩
mutual
inductive Rp (K : PySem.W.Frag) (F : FZ) : D → V → Prop
  | non : Rp K F .non .non
  | bl (b : Bool) : Rp K F (.bl b) (.bl b)
  | int (i : Int) : Rp K F (.int i) (.int i)
  | str (x : Str) : Rp K F (.str x) (.str x)
  | ref (a : Addr) : Rp K F (.ref a) (.ref a)
  | ty (n : String) : Rp K F (.ty n) (.ty n)
  | tup {a : Addr} {xs : List V} {ds : List D} : F.f a = some (.tup xs) → RpL K F ds xs → Rp K F (.tup ds) (.ref a)
  | kt {a : Addr} {xs : List V} {ds : List D} : KtF K F a xs → RpL K F ds xs → Rp K F (.kt ds) (.ref a)
  | lst {a : Addr} {xs : List V} {ds : List D} : F.f a = some (.lst xs) → RpL K F ds xs → Rp K F (.lst ds) (.ref a)
  | ls {a : Addr} {xs : List V} {ds : List D} : SqL K F.f a xs → RpL K F ds xs → Rp K F (.ls ds) (.ref a)
  | dk {a : Addr} {ps : List (Key × V)} {ds : List D} : F.d a = some (.dK ps) → RpL K F ds (ps.map (·.2)) → Rp K F (.dk (ps.map (·.1)) ds) (.ref a)
  | dt {a : Addr} {ps : List (List Key × V)} {ds : List D} : F.d a = some (.dT ps) → RpL K F ds (ps.map (·.2)) → Rp K F (.dt (ps.map (·.1)) ds) (.ref a)
inductive RpL (K : PySem.W.Frag) (F : FZ) : List D → List V → Prop
  | nil : RpL K F [] []
  | cons {d : D} {v : V} {ds : List D} {xs : List V} : Rp K F d v → RpL K F ds xs → RpL K F (d :: ds) (v :: xs)
end

mutual
theorem Rp.monoS {K : PySem.W.Frag} {F F' : FZ} (e : Sm F F') : ∀ {d : D} {v : V}, Rp K F d v → Rp K F' d v
  | _, _, .non => .non
  | _, _, .bl b => .bl b
  | _, _, .int i => .int i
  | _, _, .str x => .str x
  | _, _, .ref a => .ref a
  | _, _, .ty n => .ty n
  | _, _, .tup t r => .tup (e.1 _ _ t) (RpL.monoS e r)
  | _, _, .kt t r => .kt (t.mono e) (RpL.monoS e r)
  | _, _, .lst t r => .lst (e.1 _ _ t) (RpL.monoS e r)
  | _, _, .ls t r => .ls (e.1.seq t) (RpL.monoS e r)
  | _, _, .dk t r => .dk (e.2 _ _ t) (RpL.monoS e r)
  | _, _, .dt t r => .dt (e.2 _ _ t) (RpL.monoS e r)
theorem RpL.monoS {K : PySem.W.Frag} {F F' : FZ} (e : Sm F F') : ∀ {ds : List D} {xs : List V}, RpL K F ds xs → RpL K F' ds xs
  | _, _, .nil => .nil
  | _, _, .cons h t => .cons (Rp.monoS e h) (RpL.monoS e t)
end
section
variable {K : PySem.W.Frag} {F F' : FZ}
theorem Rp.mono (e : FLe F F') {d : D} {v : V} (r : Rp K F d v) : Rp K F' d v := r.monoS e.s
theorem RpL.mono (e : FLe F F') {ds : List D} {xs : List V} (r : RpL K F ds xs) : RpL K F' ds xs := r.monoS e.s
theorem RpL.length : ∀ {ds : List D} {xs : List V}, RpL K F ds xs → ds.length = xs.length
  | _, _, .nil => rfl
  | _, _, .cons _ t => by simp [RpL.length t]
theorem RpL.get : ∀ {ds : List D} {xs : List V} {i : Nat} {d : D}, RpL K F ds xs → ds[i]? = some d → ∃ v, xs[i]? = some v ∧ Rp K F d v
  | _, _, _, _, .nil, e => by simp at e
  | _, _, 0, _, .cons r _, e => by simp at e; subst e; exact ⟨_, rfl, r⟩
  | _, _, i + 1, d, .cons _ t, e => by
    obtain ⟨u, h1, h2⟩ := RpL.get (i := i) (d := d) t (by simpa using e)
    exact ⟨u, by simpa using h1, h2⟩
theorem RpL.append : ∀ {ds es : List D} {xs ys : List V}, RpL K F ds xs → RpL K F es ys → RpL K F (ds ++ es) (xs ++ ys)
  | _, _, _, _, .nil, s => s
  | _, _, _, _, .cons r t, s => .cons r (RpL.append t s)
theorem RpL.take : ∀ {ds : List D} {xs : List V} (n : Nat), RpL K F ds xs → RpL K F (ds.take n) (xs.take n)
  | _, _, 0, _ => .nil
  | _, _, _ + 1, .nil => .nil
  | _, _, n + 1, .cons r t => .cons r (RpL.take n t)
theorem RpL.drop : ∀ {ds : List D} {xs : List V} (n : Nat), RpL K F ds xs → RpL K F (ds.drop n) (xs.drop n)
  | _, _, 0, r => r
  | _, _, _ + 1, .nil => .nil
  | _, _, n + 1, .cons _ t => RpL.drop n t
theorem RpL.set {d : D} {v : V} (r : Rp K F d v) : ∀ {ds : List D} {xs : List V} (i : Nat), RpL K F ds xs → RpL K F (ds.set i d) (xs.set i v)
  | _, _, _, .nil => .nil
  | _, _, 0, .cons _ t => .cons r t
  | _, _, i + 1, .cons q t => .cons q (RpL.set r i t)
theorem RpL.eraseIdx : ∀ {ds : List D} {xs : List V} (i : Nat), RpL K F ds xs → RpL K F (ds.eraseIdx i) (xs.eraseIdx i)
  | _, _, _, .nil => .nil
  | _, _, 0, .cons _ t => t
  | _, _, i + 1, .cons r t => .cons r (RpL.eraseIdx i t)
theorem RpL.dropLast : ∀ {ds : List D} {xs : List V}, RpL K F ds xs → RpL K F ds.dropLast xs.dropLast
  | _, _, .nil => .nil
  | _, _, .cons _ .nil => .nil
  | _, _, .cons r (.cons q t) => .cons r (RpL.dropLast (.cons q t))
theorem RpL.int : ∀ (ns : List Int) {xs : List V}, RpL K F (ns.map D.int) xs → xs = ns.map V.int
  | [], _, .nil => rfl
  | _ :: ns, _, .cons (.int _) t => by rw [RpL.int ns t]; rfl
theorem RpL.ofInt : ∀ (ns : List Int), RpL K F (ns.map D.int) (ns.map V.int)
  | [] => .nil
  | _ :: ns => .cons (.int _) (RpL.ofInt ns)
theorem RpL.bl : ∀ (ns : List Bool) {xs : List V}, RpL K F (ns.map D.bl) xs → xs = ns.map V.bl
  | [], _, .nil => rfl
  | _ :: ns, _, .cons (.bl _) t => by rw [RpL.bl ns t]; rfl
theorem RpL.str : ∀ (ns : List Str) {xs : List V}, RpL K F (ns.map D.str) xs → xs = ns.map V.str
  | [], _, .nil => rfl
  | _ :: ns, _, .cons (.str _) t => by rw [RpL.str ns t]; rfl
end

abbrev KVR (K : PySem.W.Frag) (F : FZ) {κ : Type} : List (κ × D) → List (κ × V) → Prop := Paired fun p q => p.1 = q.1 ∧ Rp K F p.2 q.2
theorem KVR.monoS {K : PySem.W.Frag} {F F' : FZ} {κ : Type} (e : Sm F F') {l : List (κ × D)} {m : List (κ × V)} (h : KVR K F l m) : KVR K F' l m := Paired.mapP h fun _ _ q => ⟨q.1, q.2.monoS e⟩
theorem KVR.mono {K : PySem.W.Frag} {F F' : FZ} {κ : Type} (e : FLe F F') {l : List (κ × D)} {m : List (κ × V)} (h : KVR K F l m) : KVR K F' l m := h.monoS e.s

inductive MR (K : PySem.W.Frag) (F : FZ) : MO → HO → Prop
  | lst {ds : List D} {xs : List V} : RpL K F ds xs → xs.length ≤ sizeLine → MR K F (.lst ds) (.lst xs)
  | dK {kvs : List (Key × D)} {ps : List (Key × V)} : KVR K F kvs ps → ps.length ≤ sizeLine → MR K F (.dK kvs) (.dK ps)
  | dT {kvs : List (List Key × D)} {ps : List (List Key × V)} : KVR K F kvs ps → ps.length ≤ sizeLine → (∀ p ∈ ps, p.1.length ≤ sizeLine) → MR K F (.dT kvs) (.dT ps)
  | ins {C dx : Addr} {fs : List (Str × D)} {gs : List (Str × V)} : KVR K F fs gs → MR K F (.ins C fs) (.ins C dx gs)
theorem MR.monoS {K : PySem.W.Frag} {F F' : FZ} (e : Sm F F') {o : MO} {u : HO} : MR K F o u → MR K F' o u
  | .lst r z => .lst (r.monoS e) z
  | .dK r z => .dK (r.monoS e) z
  | .dT r z y => .dT (r.monoS e) z y
  | .ins r => .ins (r.monoS e)
theorem MR.mono {K : PySem.W.Frag} {F F' : FZ} (e : FLe F F') {o : MO} {u : HO} (r : MR K F o u) : MR K F' o u := r.monoS e.s

/-- what may be frozen -/
def FzO : HO → Prop
  | .lst xs => xs.length ≤ sizeLine
  | .tup xs => xs.length ≤ sizeLine
  | .frz _ (.lst xs) => xs.length ≤ sizeLine
  | .frz _ (.tup xs) => xs.length ≤ sizeLine
  | _ => False

/-- a dict -/
def DcO : HO → Prop
  | .dK ps => ps.length ≤ sizeLine
  | .dT ps => ps.length ≤ sizeLine ∧ ∀ p ∈ ps, p.1.length ≤ sizeLine
  | _ => False
structure SR (K : PySem.W.Frag) (F : FZ) (M : Mp) (H : Hp) : Prop where
  fz : Same F.f H
  ok : ∀ a o, F.f a = some o → FzO o
  dj : ∀ a o, M a = some o → F.f a = none
  pz : Same F.p H
  pf : ∀ a o, F.p a = some o → F.f a = none ∧ M a = none ∧ (∀ xs, o ≠ .tup xs) ∧ ∀ u, F.d a = some u → ∃ od, o = .frz od u
  mu : ∀ a o, M a = some o → ∃ u, H a = some u ∧ MR K F o u
  dz : ∀ a u, F.d a = some u → Rd H a u
  df : ∀ a u, F.d a = some u → F.f a = none ∧ M a = none ∧ DcO u

abbrev G := List (Option D)
structure GR (K : PySem.W.Frag) (F : FZ) (γ : G) (σ : L2.St) : Prop where
  len : γ.length = σ.length
  at' : ∀ (i : Nat) (d : D), γ[i]? = some (some d) → ∃ v, σ[i]? = some (some v) ∧ Rp K F d v
theorem GR.monoS {K : PySem.W.Frag} {F F' : FZ} (e : Sm F F') {γ : G} {σ : L2.St} (h : GR K F γ σ) : GR K F' γ σ := ⟨h.len, fun i d q => let ⟨v, a, b⟩ := h.at' i d q; ⟨v, a, b.monoS e⟩⟩
theorem GR.mono {K : PySem.W.Frag} {F F' : FZ} (e : FLe F F') {γ : G} {σ : L2.St} (h : GR K F γ σ) : GR K F' γ σ := h.monoS e.s
theorem GR.set {K : PySem.W.Frag} {F : FZ} {γ : G} {σ : L2.St} {d : D} {v : V} (h : GR K F γ σ) (r : Rp K F d v) (i : Nat) : GR K F (γ.set i (some d)) (σ.set i (some v)) := by
  refine ⟨by simp [h.len], fun j e q => ?_⟩
  by_cases hj : i = j
  · subst hj
    by_cases hl : i < γ.length
    · rw [List.getElem?_set_self hl] at q
      cases q
      exact ⟨v, List.getElem?_set_self (h.len ▸ hl), r⟩
    · rw [List.getElem?_eq_none (by simpa using hl)] at q
      cases q
  · rw [List.getElem?_set_ne hj] at q ⊢
    exact h.at' j e q

section
variable {K : PySem.W.Frag} {F F' : FZ} {M : Mp} {H : Hp}
/-- an address that is not tracked is neither frozen nor changeable -/
theorem SR.freeF (s : SR K F M H) {p : Addr} (h : H p = none) : F.f p = none := s.fz.free h
theorem SR.freeD (s : SR K F M H) {p : Addr} (h : H p = none) : F.d p = none := by
  cases e : F.d p with
  | none => rfl
  | some u =>
    rcases s.dz p u e with z | ⟨o, z⟩ <;> rw [h] at z <;> cases z
theorem rd_upd {H : Hp} {a p : Addr} {u o : HO} (h : Rd H a u) (ne : a ≠ p) : Rd (upd H p o) a u := by
  rcases h with z | ⟨x, z⟩
  · exact .inl (by rw [upd_ne ne]; exact z)
  · exact .inr ⟨x, by rw [upd_ne ne]; exact z⟩
theorem SR.freeP (s : SR K F M H) {p : Addr} (h : H p = none) : F.p p = none := s.pz.free h
theorem SR.freeM (s : SR K F M H) {p : Addr} (h : H p = none) : M p = none := by
  cases e : M p with
  | none => rfl
  | some o =>
    obtain ⟨u, q, _⟩ := s.mu p o e
    rw [h] at q; cases q
theorem SR.notP (s : SR K F M H) {p : Addr} {o : MO} (h : M p = some o) : F.p p = none := by
  cases e : F.p p with
  | none => rfl
  | some u =>
    rw [(s.pf p u e).2.1] at h; cases h
theorem SR.notD (s : SR K F M H) {p : Addr} {o : MO} (h : M p = some o) : F.d p = none := by
  cases e : F.d p with
  | none => rfl
  | some u =>
    rw [(s.df p u e).2.1] at h; cases h
theorem same_upd {F : FZ} {p : Addr} {o : HO} (h : F.f p = none) : FLe F (F.put p o) := ⟨⟨fun b u e => by show upd F.f p o b = _; rw [upd_ne (ne_of_none e h)]; exact e, Same.refl _⟩, rfl⟩
theorem put_f {F : FZ} {p : Addr} {o : HO} : (F.put p o).f = upd F.f p o := rfl
theorem put_p {F : FZ} {p : Addr} {o : HO} : (F.put p o).p = F.p := rfl
/-- a new frozen thing -/
theorem SR.newF (s : SR K F M H) {p : Addr} {o : HO} (h : H p = none) (ok : FzO o) : SR K (F.put p o) M (upd H p o) := by
  have hF := s.freeF h
  have hM := s.freeM h
  have hP := s.freeP h
  have hD := s.freeD h
  refine ⟨fun b u e => ?_, fun b u e => ?_, fun b u e => ?_, fun b u e => ?_, fun b u e => ?_, fun b u e => ?_, fun b u e => rd_upd (s.dz b u e) (ne_of_none e hD), fun b u e => ⟨by rw [put_f, upd_ne (ne_of_none (show F.d b = some u from e) hD)]; exact (s.df b u e).1, (s.df b u e).2⟩⟩
  · rw [put_f] at e
    by_cases q : b = p
    · subst q; rw [upd_same] at e ⊢; exact e
    · rw [upd_ne q] at e ⊢; exact s.fz _ _ e
  · rw [put_f] at e
    by_cases q : b = p
    · subst q; rw [upd_same] at e; cases e; exact ok
    · rw [upd_ne q] at e; exact s.ok _ _ e
  · rw [put_f]
    have q : b ≠ p := fun z => by rw [z, hM] at e; cases e
    rw [upd_ne q]; exact s.dj _ _ e
  · rw [put_p] at e
    rw [upd_ne (ne_of_none e hP)]; exact s.pz _ _ e
  · rw [put_p] at e
    rw [put_f, upd_ne (ne_of_none e hP)]
    exact s.pf _ _ e
  · have q : b ≠ p := fun z => by rw [z, hM] at e; cases e
    obtain ⟨v, h1, h2⟩ := s.mu b u e
    exact ⟨v, by rw [upd_ne q]; exact h1, h2.mono (same_upd hF)⟩
/-- a new changeable thing, or one changed -/
theorem SR.put (s : SR K F M H) {p : Addr} {o : MO} {u : HO} (h : F.f p = none) (hp : F.p p = none) (hd : F.d p = none) (r : MR K F o u) : SR K F (mset M p o) (upd H p u) := by
  refine ⟨fun b x e => ?_, s.ok, fun b x e => ?_, fun b x e => ?_, fun b x e => ⟨(s.pf b x e).1, ?_, (s.pf b x e).2.2⟩, fun b x e => ?_, fun b x e => rd_upd (s.dz b x e) (ne_of_none e hd), fun b x e => ⟨(s.df b x e).1, by rw [mset_ne (ne_of_none e hd)]; exact (s.df b x e).2.1, (s.df b x e).2.2⟩⟩
  · rw [upd_ne (ne_of_none e h)]; exact s.fz _ _ e
  · by_cases q : b = p
    · subst q; exact h
    · rw [mset_ne q] at e; exact s.dj _ _ e
  · rw [upd_ne (ne_of_none e hp)]; exact s.pz _ _ e
  · rw [mset_ne (ne_of_none e hp)]; exact (s.pf b x e).2.1
  · by_cases q : b = p
    · subst q; rw [mset_same] at e; cases e; exact ⟨u, upd_same, r⟩
    · rw [mset_ne q] at e
      obtain ⟨v, h1, h2⟩ := s.mu b x e
      exact ⟨v, by rw [upd_ne q]; exact h1, h2⟩
theorem SR.putN (s : SR K F M H) {p : Addr} {o : MO} {u : HO} (h : H p = none) (r : MR K F o u) : SR K F (mset M p o) (upd H p u) := s.put (s.freeF h) (s.freeP h) (s.freeD h) r
theorem SR.putM (s : SR K F M H) {p : Addr} {o o' : MO} {u : HO} (h : M p = some o') (r : MR K F o u) : SR K F (mset M p o) (upd H p u) := s.put (s.dj p _ h) (s.notP h) (s.notD h) r
/-- nobody's thing is frozen -/
theorem SR.adopt (s : SR K F M H) {p : Addr} {o : HO} (hf : F.f p = none) (hp : F.p p = none) (hm : M p = none) (h : H p = some o) (ok : FzO o) : SR K (F.put p o) M H := by
  have hd : F.d p = none := by
    cases e : F.d p with
    | none => rfl
    | some u =>
      have dc := (s.df p u e).2.2
      have k1 : ∀ v : HO, DcO v → FzO v → False := fun v a b => by cases v <;> first | exact a | exact b
      have k2 : ∀ (x : Obj) (v : HO), DcO v → FzO (.frz x v) → False := fun x v a b => by cases v <;> first | exact a | exact b
      rcases s.dz p u e with z | ⟨x, z⟩
      · rw [h] at z; cases z
        exact (k1 _ dc ok).elim
      · rw [h] at z; cases z
        exact (k2 _ _ dc ok).elim
  refine ⟨fun b u e => ?_, fun b u e => ?_, fun b u e => ?_, fun b u e => s.pz b u e, fun b u e => ?_, fun b u e => ?_, s.dz, fun b u e => ⟨by rw [put_f, upd_ne (ne_of_none (show F.d b = some u from e) hd)]; exact (s.df b u e).1, (s.df b u e).2⟩⟩
  · rw [put_f] at e
    by_cases q : b = p
    · subst q; rw [upd_same] at e; cases e; exact h
    · rw [upd_ne q] at e; exact s.fz _ _ e
  · rw [put_f] at e
    by_cases q : b = p
    · subst q; rw [upd_same] at e; cases e; exact ok
    · rw [upd_ne q] at e; exact s.ok _ _ e
  · rw [put_f, upd_ne (mne_of_none e hm)]; exact s.dj _ _ e
  · have e' : F.p b = some u := e
    rw [put_f, upd_ne (ne_of_none e' hp)]
    exact s.pf _ _ e'
  · obtain ⟨v, h1, h2⟩ := s.mu b u e
    exact ⟨v, h1, h2.mono (same_upd hf)⟩
/-- a tuple that is tracked is frozen -/
theorem SR.adoptT (s : SR K F M H) {p : Addr} {xs : List V} (h : H p = some (.tup xs)) (ok : xs.length ≤ sizeLine) : ∃ F1, FLe F F1 ∧ SR K F1 M H ∧ F1.f p = some (.tup xs) := by
  have hm : M p = none := by
    cases e : M p with
    | none => rfl
    | some o =>
      obtain ⟨u, h1, h2⟩ := s.mu p o e
      rw [h] at h1; cases h1
      cases h2
  have hp : F.p p = none := by
    cases e : F.p p with
    | none => rfl
    | some o =>
      have h1 := s.pz p o e
      rw [h] at h1; cases h1
      exact absurd rfl ((s.pf p _ e).2.2.1 xs)
  cases e : F.f p with
  | some o =>
    have h1 := s.fz p o e
    rw [h] at h1; cases h1
    exact ⟨F, FLe.refl F, s, e⟩
  | none => exact ⟨F.put p (.tup xs), same_upd e, s.adopt e hp hm h ok, upd_same⟩
/-- hidden no more, and changed -/
theorem SR.unhide (s : SR K F M H) {q : Hp} {p : Addr} {o u : HO} (e : F.p = upd q p o) (hq : q p = none) (hu : ∀ od u', o = .frz od u' → u = u' := by exact fun _ _ z => nomatch z) : SR K ⟨F.f, q, F.d⟩ M (upd H p u) ∧ H p = some o ∧ F.f p = none ∧ M p = none := by
  have hp : F.p p = some o := by rw [e, upd_same]
  obtain ⟨hf, hm, _, hpd⟩ := s.pf p o hp
  refine ⟨⟨fun b x z => by rw [upd_ne (ne_of_none z hf)]; exact s.fz _ _ z, s.ok, s.dj, fun b x z => ?_, fun b x z => ?_, fun b x z => ?_, fun b x z => ?_, s.df⟩, s.pz _ _ hp, hf, hm⟩
  · have z' : q b = some x := z
    have ne := ne_of_none z' hq
    rw [upd_ne ne]
    exact s.pz b x (by rw [e, upd_ne ne]; exact z')
  · have z' : q b = some x := z
    have ne := ne_of_none z' hq
    exact s.pf b x (by rw [e, upd_ne ne]; exact z')
  · obtain ⟨v, h1, h2⟩ := s.mu b x z
    exact ⟨v, by rw [upd_ne (mne_of_none z hm)]; exact h1, MR.monoS (F := F) (F' := ⟨F.f, q, F.d⟩) Sm.rfl' h2⟩
  · have z' : F.d b = some x := z
    by_cases w : b = p
    · subst w
      obtain ⟨od, eo⟩ := hpd x z'
      rw [hu od x eo]
      exact .inl upd_same
    · exact rd_upd (s.dz b x z') w
/-- a thing is lent to nobody: it stays as it is -/
def FZ.hide (F : FZ) (a : Addr) (o : HO) : FZ := ⟨F.f, upd F.p a o, F.d⟩
/-- a new thing that is not ours -/
theorem SR.other (s : SR K F M H) {p : Addr} {o : HO} (h : H p = none) : SR K F M (upd H p o) :=
  ⟨fun b u e => by rw [upd_ne (ne_of_none e (s.freeF h))]; exact s.fz _ _ e, s.ok, s.dj, fun b u e => by rw [upd_ne (ne_of_none e (s.freeP h))]; exact s.pz _ _ e, s.pf, fun b u e => by
    obtain ⟨v, h1, h2⟩ := s.mu b u e
    exact ⟨v, by rw [upd_ne (mne_of_none e (s.freeM h))]; exact h1, h2⟩, fun b u e => rd_upd (s.dz b u e) (ne_of_none e (s.freeD h)), s.df⟩
theorem SR.noL (s : SR K F M H) {p : Addr} {xs : List V} (h : H p = some (.lst xs)) : ∀ u, F.d p = some u → ∃ od, HO.lst xs = .frz od u := fun u e => by
  have dc := (s.df p u e).2.2
  rcases s.dz p u e with z | ⟨x, z⟩
  · rw [h] at z; cases z; exact False.elim dc
  · rw [h] at z; cases z
theorem SR.noL0 (s : SR K F M H) {p : Addr} {xs : List V} (h : H p = some (.lst xs)) : F.d p = none := by
  cases e : F.d p with
  | none => rfl
  | some u =>
    obtain ⟨od, z⟩ := s.noL h u e
    cases z
theorem SR.hidD (s : SR K F M H) {p : Addr} {o : HO} (e : F.p p = some o) (ho : ∀ od u, o ≠ .frz od u) : F.d p = none := by
  cases e2 : F.d p with
  | none => rfl
  | some u =>
    obtain ⟨od, z⟩ := (s.pf p o e).2.2.2 u e2
    exact absurd z (ho od u)
/-- what a walk asks of the world: frozen things, and what is locked -/
structure Bj (F F1 : FZ) : Prop where
  f : Sm F F1
  p : ∀ a od u, F.p a = some (.frz od u) → F1.p a = some (.frz od u)
theorem FLe.bj {F F1 : FZ} (e : FLe F F1) : Bj F F1 := ⟨e.s, fun a od u h => by rw [e.e]; exact h⟩
theorem Bj.trans {F F1 F2 : FZ} (a : Bj F F1) (b : Bj F1 F2) : Bj F F2 := ⟨a.f.trans' b.f, fun x od u h => b.p x od u (a.p x od u h)⟩
theorem bj_hide {F1 F2 : FZ} {p : Addr} {o : HO} (e : FLe F1 F2) (h : F1.p p = none) : Bj F1 (F2.hide p o) := ⟨e.s, fun b od u hb => by show upd F2.p p o b = _; rw [upd_ne (ne_of_none hb h), e.e]; exact hb⟩
def MLe (M' M : Mp) : Prop := ∀ a o, M' a = some o → M a = some o
theorem MLe.refl (M : Mp) : MLe M M := fun _ _ h => h
theorem MLe.none {M' M : Mp} (l : MLe M' M) {a : Addr} (h : M a = none) : M' a = none := by
  cases e : M' a with
  | none => rfl
  | some o => rw [l a o e] at h; cases h
theorem SR.less (s : SR K F M H) {M' : Mp} (h : MLe M' M) : SR K F M' H := ⟨s.fz, s.ok, fun a o e => s.dj a o (h a o e), s.pz, fun a o e => ⟨(s.pf a o e).1, h.none (s.pf a o e).2.1, (s.pf a o e).2.2⟩, fun a o e => s.mu a o (h a o e), s.dz, fun a u e => ⟨(s.df a u e).1, h.none (s.df a u e).2.1, (s.df a u e).2.2⟩⟩
/-- a list is frozen -/
theorem SR.freeze (s : SR K F M H) {p : Addr} {ds : List D} (h : M p = some (.lst ds)) : ∃ xs, SR K (F.put p (.lst xs)) (mdel M p) H ∧ FLe F (F.put p (.lst xs)) ∧ Rp K (F.put p (.lst xs)) (.lst ds) (.ref p) := by
  obtain ⟨u, h1, h2⟩ := s.mu p _ h
  have hF := s.dj p _ h
  have hP := s.notP h
  have hD := s.notD h
  cases h2 with
  | lst r z =>
    rename_i xs
    have e := same_upd (o := .lst xs) hF
    refine ⟨xs, ⟨fun b x q => ?_, fun b x q => ?_, fun b x q => ?_, fun b x q => s.pz b x q, fun b x q => ?_, fun b x q => ?_, s.dz, fun b x q => ⟨by rw [put_f, upd_ne (ne_of_none (show F.d b = some x from q) hD)]; exact (s.df b x q).1, by rw [mdel_ne (ne_of_none (show F.d b = some x from q) hD)]; exact (s.df b x q).2.1, (s.df b x q).2.2⟩⟩, e, .lst upd_same (r.mono e)⟩
    · rw [put_f] at q
      by_cases w : b = p
      · subst w; rw [upd_same] at q; cases q; exact h1
      · rw [upd_ne w] at q; exact s.fz _ _ q
    · rw [put_f] at q
      by_cases w : b = p
      · subst w; rw [upd_same] at q; cases q; exact z
      · rw [upd_ne w] at q; exact s.ok _ _ q
    · rw [put_f]
      by_cases w : b = p
      · subst w; rw [mdel_same] at q; cases q
      · rw [mdel_ne w] at q; rw [upd_ne w]; exact s.dj _ _ q
    · have q' : F.p b = some x := q
      rw [put_f, upd_ne (ne_of_none q' hP), mdel_ne (ne_of_none q' hP)]
      exact s.pf b x q'
    · by_cases w : b = p
      · subst w; rw [mdel_same] at q; cases q
      · rw [mdel_ne w] at q
        obtain ⟨v, a1, a2⟩ := s.mu b x q
        exact ⟨v, a1, a2.mono e⟩
theorem SR.hide (s : SR K F M H) {p : Addr} {o : HO} (hf : F.f p = none) (hm : M p = none) (h : H p = some o) (ht : ∀ xs, o ≠ .tup xs) (hd : ∀ u, F.d p = some u → ∃ od, o = .frz od u) : SR K (F.hide p o) M H := by
  refine ⟨s.fz, s.ok, s.dj, fun b x e => ?_, fun b x e => ?_, fun b x e => ?_, s.dz, s.df⟩
  · have e' : upd F.p p o b = some x := e
    by_cases q : b = p
    · subst q; rw [upd_same] at e'; cases e'; exact h
    · rw [upd_ne q] at e'; exact s.pz _ _ e'
  · have e' : upd F.p p o b = some x := e
    by_cases q : b = p
    · subst q; rw [upd_same] at e'; cases e'; exact ⟨hf, hm, ht, hd⟩
    · rw [upd_ne q] at e'; exact s.pf _ _ e'
  · obtain ⟨v, a1, a2⟩ := s.mu b x e
    exact ⟨v, a1, MR.monoS (F := F) (show Sm F (F.hide p o) from Sm.rfl' (F := F)) a2⟩
theorem SR.lenT (s : SR K F M H) {a : Addr} {xs : List V} (h : F.f a = some (.tup xs)) : xs.length ≤ sizeLine := s.ok _ _ h
theorem KTup.len {a : Addr} {xs : List V} (h : KTup K a xs) : xs.length ≤ sizeLine := by
  obtain ⟨o, its, n, _, _, _, hz, r, _⟩ := h
  have e := r.length
  simp only [Array.length_toList] at e
  omega
theorem SR.sqT (s : SR K F M H) {a : Addr} {xs : List V} (h : F.f a = some (.tup xs)) : SqT K H a xs := .inl (.inl (s.fz _ _ h))
theorem KTup.sqT {a : Addr} {xs : List V} (h : KTup K a xs) : SqT K H a xs := by
  obtain ⟨o, its, n, h1, h2, h3, h4, h5, _⟩ := h
  exact .inr ⟨o, its, n, h1, h2, h3, h4, h5⟩
theorem KtF.sq {a : Addr} {xs : List V} (h : KtF K F a xs) (e : Same F.f H) : SqT K H a xs := h.elim (fun z => z.sqT) fun ⟨o, z, _⟩ => .inl (.inr ⟨o, e _ _ z⟩)
theorem SR.sqK (s : SR K F M H) {a : Addr} {xs : List V} (h : KtF K F a xs) : SqT K H a xs := h.sq s.fz
theorem SR.lenK (s : SR K F M H) {a : Addr} {xs : List V} (h : KtF K F a xs) : xs.length ≤ sizeLine := h.elim (fun z => z.len) fun ⟨o, z, _⟩ => s.ok _ _ z
theorem SR.lenL (s : SR K F M H) {a : Addr} {xs : List V} (h : SqL K F.f a xs) : xs.length ≤ sizeLine := by
  rcases h with (h | ⟨o, h⟩) | ⟨o, its, n, _, _, _, _, hz, r⟩
  · exact s.ok _ _ h
  · exact s.ok _ _ h
  · have e := r.length
    simp only [Array.length_toList] at e
    omega
end

/-! ### readings -/
abbrev DK := D → Mp → Prop
abbrev DTE := G → Mp → DK → Prop
abbrev DTT := G → Mp → (Bool → Mp → Prop) → Prop
abbrev DTA := G → Mp → (List D → Mp → Prop) → Prop
section
variable (K : PySem.W.Frag) (F0 : FZ)
def LE (t' : DTE) (t : TE) : Prop := ∀ (F : FZ) (γ : G) (M : Mp) (σ : L2.St) (H : Hp) (Q' : DK) (Q : VK), Bs F0 F → SR K F M H → GR K F γ σ → t' γ M Q' →
  (∀ F1 d v M1 H1, FLe F F1 → SR K F1 M1 H1 → Rp K F1 d v → Q' d M1 → Q v H1) → t σ H Q
def LT (t' : DTT) (t : TT) : Prop := ∀ (F : FZ) (γ : G) (M : Mp) (σ : L2.St) (H : Hp) (Q' : Bool → Mp → Prop) (Q : Bool → Hp → Prop), Bs F0 F → SR K F M H → GR K F γ σ → t' γ M Q' →
  (∀ F1 b M1 H1, FLe F F1 → SR K F1 M1 H1 → Q' b M1 → Q b H1) → t σ H Q
def LA (t' : DTA) (t : TA) : Prop := ∀ (F : FZ) (γ : G) (M : Mp) (σ : L2.St) (H : Hp) (Q' : List D → Mp → Prop) (Q : List V → Hp → Prop), Bs F0 F → SR K F M H → GR K F γ σ → t' γ M Q' →
  (∀ F1 ds vs M1 H1, FLe F F1 → SR K F1 M1 H1 → RpL K F1 ds vs → Q' ds M1 → Q vs H1) → t σ H Q
end
structure DE (X : Cx) (F0 : FZ) (e : Expr) (t : TE) (t' : DTE) : Prop where
  pe : PE X e t
  le : LE X.K F0 t' t
structure DT (X : Cx) (F0 : FZ) (e : Expr) (t : TT) (t' : DTT) : Prop where
  pt : PT X e t
  le : LT X.K F0 t' t
structure DW (X : Cx) (F0 : FZ) (e : Expr) (t : TT) (t' : DTT) : Prop where
  pw : PW X e t
  le : LT X.K F0 t' t
structure DA (X : Cx) (F0 : FZ) (es : List Expr) (t : TA) (t' : DTA) : Prop where
  pa : PA X es t
  le : LA X.K F0 t' t

/-! ### names, constants -/
def dVar (i : Nat) : DTE := fun γ M Q => match γ[i]? with
  | some (some d) => Q d M
  | _ => False
def dC (d : D) : DTE := fun _ M Q => Q d M
section
variable {X : Cx} {K : PySem.W.Frag} {F0 : FZ}
theorem le_var (i : Nat) : LE K F0 (dVar i) (tVar i) := by
  intro F γ M σ H Q' Q e0 s g h k
  unfold dVar at h
  split at h
  · rename_i d e
    obtain ⟨v, e1, r⟩ := g.at' i d e
    exact ⟨v, e1, k F d v M H (FLe.refl F) s r h⟩
  · exact h.elim
theorem de_var (i : Nat) {x : Str} {pos : Pos} (hN : X.N[i]? = some x := by rfl) (hv : Vis X.env.scope x := by first | exact Or.inl rfl | exact Or.inr (Or.inl rfl) | exact Or.inr (Or.inr rfl)) (hd : (x == ("__debug__" : Str)) = false := by decide)
    (hcd : (x == ("__classdict__" : Str)) = false := by decide) : DE X F0 (.Name x pos) (tVar i) (dVar i) := ⟨pe_var hN hv hd hcd, le_var i⟩
theorem le_c {d : D} {v : V} (h : ∀ F, Rp K F d v) : LE K F0 (dC d) (tC v) := fun F γ M σ H Q' Q e0 s g q k => k F d v M H (FLe.refl F) s (h F) q
theorem de_int {i j pos} : DE X F0 (.Constant (.int i) j pos) (tC (.int i)) (dC (.int i)) := ⟨pe_int, le_c fun _ => .int i⟩
theorem de_bl {b j pos} : DE X F0 (.Constant (.bool b) j pos) (tC (.bl b)) (dC (.bl b)) := ⟨pe_bl, le_c fun _ => .bl b⟩
theorem de_non {j pos} : DE X F0 (.Constant .none j pos) (tC .non) (dC .non) := ⟨pe_non, le_c fun _ => .non⟩
theorem de_str {x j pos} : DE X F0 (.Constant (.str x) j pos) (tC (.str x)) (dC (.str x)) := ⟨pe_str, le_c fun _ => .str x⟩
theorem de_globI {x : Str} {i : Int} {t : Tok} {pos : Pos} (hm : X.mg x = some (.int i t)) (hg : Gl X x := by rfl) (hd : (x == ("__debug__" : Str)) = false := by decide) : DE X F0 (.Name x pos) (tC (.int i)) (dC (.int i)) :=
  ⟨pe_glob hg hm ⟨t, rfl⟩ hd, le_c fun _ => .int i⟩
/-! ### operators -/
abbrev DR2 := D → D → Mp → DK → Prop
def L2r (K : PySem.W.Frag) (F0 : FZ) (r' : DR2) (r : R2) : Prop := ∀ (F : FZ) (M : Mp) (H : Hp) (d e : D) (x y : V) (Q' : DK) (Q : VK), Bs F0 F → SR K F M H → Rp K F d x → Rp K F e y → r' d e M Q' →
  (∀ F1 d v M1 H1, FLe F F1 → SR K F1 M1 H1 → Rp K F1 d v → Q' d M1 → Q v H1) → r x y H Q
def dOp (r : DR2) (ta tb : DTE) : DTE := fun γ M Q => ta γ M fun x M1 => tb γ M1 fun y M2 => r x y M2 Q
theorem le_op {r' : DR2} {r : R2} {ta' tb' : DTE} {ta tb : TE} (hr : L2r K F0 r' r) (ha : LE K F0 ta' ta) (hb : LE K F0 tb' tb) : LE K F0 (dOp r' ta' tb') (tOp r ta tb) := by
  intro F γ M σ H Q' Q e0 s g h k
  refine ha F γ M σ H _ _ e0 s g h fun F1 d v M1 H1 e1 s1 r1 q1 => ?_
  refine hb F1 γ M1 σ H1 _ _ (e0.tr e1) s1 (g.mono e1) q1 fun F2 d2 v2 M2 H2 e2 s2 r2 q2 => ?_
  exact hr F2 M2 H2 d d2 v v2 Q' Q ((e0.tr e1).tr e2) s2 (r1.mono e2) r2 q2 fun F3 d3 v3 M3 H3 e3 s3 r3 q3 => k F3 d3 v3 M3 H3 ((e1.trans e2).trans e3) s3 r3 q3
variable {a b : Expr} {ta tb : TE} {ta' tb' : DTE} {pos : Pos}
theorem de_op {op : Operator} {r : R2} {r' : DR2} (ho : OpR X (binaryOp op) r) (hr : L2r X.K F0 r' r) (ha : DE X F0 a ta ta') (hb : DE X F0 b tb tb') : DE X F0 (.BinOp a op b pos) (tOp r ta tb) (dOp r' ta' tb') :=
  ⟨pe_op ho ha.pe hb.pe, le_op hr ha.le hb.le⟩
theorem de_cmp {op : CmpOp} {r : R2} {r' : DR2} (ho : OpR X (compareOp op) r) (hr : L2r X.K F0 r' r) (ha : DE X F0 a ta ta') (hb : DE X F0 b tb tb') (hm : behindInMarks op b = false) : DE X F0 (.Compare a [op] [b] pos) (tOp r ta tb) (dOp r' ta' tb') :=
  ⟨pe_cmpR ho ha.pe hb.pe hm, le_op hr ha.le hb.le⟩
def dTest (t : DTE) : DTT := fun γ M Q => t γ M fun x M' => match x with
  | .bl k => Q k M'
  | _ => False
theorem le_test {t' : DTE} {t : TE} (h : LE K F0 t' t) : LT K F0 (dTest t') (tTest t) := by
  intro F γ M σ H Q' Q e0 s g q k
  refine h F γ M σ H _ _ e0 s g q fun F1 d v M1 H1 e1 s1 r1 q1 => ?_
  split at q1
  · cases r1
    exact ⟨_, rfl, k F1 _ M1 H1 e1 s1 q1⟩
  · exact q1.elim
theorem dt_cmp {op : CmpOp} {r : R2} {r' : DR2} (ho : OpR X (compareOp op) r) (hr : L2r X.K F0 r' r) (ha : DE X F0 a ta ta') (hb : DE X F0 b tb tb') (hm : behindInMarks op b = false) : DT X F0 (.Compare a [op] [b] pos) (tTest (tOp r ta tb)) (dTest (dOp r' ta' tb')) :=
  ⟨pt_cmpR ho ha.pe hb.pe hm, le_test (le_op hr ha.le hb.le)⟩
theorem dt_val {e : Expr} {t : TE} {t' : DTE} (h : DE X F0 e t t') (he : ∀ whole, isTrue e X.env whole = (do let v ← whole; standAt e.pos; holding [v] (truthy v)) := by intro _; rfl) : DT X F0 e (tTest t) (dTest t') :=
  ⟨pt_val h.pe he, le_test h.le⟩

/-- two ints -/
def dII (g : Int → Int → D) : DR2 := fun x y M Q => match x, y with
  | .int i, .int j => Q (g i j) M
  | _, _ => False
def dIC (C : Int → Int → Prop) (g : Int → Int → D) : DR2 := fun x y M Q => match x, y with
  | .int i, .int j => C i j ∧ Q (g i j) M
  | _, _ => False
theorem l2_II {g' : Int → Int → D} {g : Int → Int → V} (h : ∀ F i j, Rp K F (g' i j) (g i j)) : L2r K F0 (dII g') (rI0 g) := by
  intro F M H d e x y Q' Q e0 s r1 r2 q k
  unfold dII at q
  split at q
  · cases r1; cases r2
    exact ⟨_, _, rfl, rfl, k F _ _ M H (FLe.refl F) s (h F _ _) q⟩
  · exact q.elim
theorem l2_IC {C : Int → Int → Prop} {g' : Int → Int → D} {g : Int → Int → V} (h : ∀ F i j, Rp K F (g' i j) (g i j)) : L2r K F0 (dIC C g') (rI C g) := by
  intro F M H d e x y Q' Q e0 s r1 r2 q k
  unfold dIC at q
  split at q
  · cases r1; cases r2
    exact ⟨_, _, rfl, rfl, q.1, k F _ _ M H (FLe.refl F) s (h F _ _) q.2⟩
  · exact q.elim
theorem de_add (ha : DE X F0 a ta ta') (hb : DE X F0 b tb tb') : DE X F0 (.BinOp a .Add b pos) (tOp (rI0 fun i j => .int (i + j)) ta tb) (dOp (dII fun i j => .int (i + j)) ta' tb') := de_op op_add (l2_II fun _ _ _ => .int _) ha hb
theorem de_sub (ha : DE X F0 a ta ta') (hb : DE X F0 b tb tb') : DE X F0 (.BinOp a .Sub b pos) (tOp (rI0 fun i j => .int (i - j)) ta tb) (dOp (dII fun i j => .int (i - j)) ta' tb') := de_op op_sub (l2_II fun _ _ _ => .int _) ha hb
theorem de_mul (ha : DE X F0 a ta ta') (hb : DE X F0 b tb tb') : DE X F0 (.BinOp a .Mult b pos) (tOp (rI CMul fun i j => .int (i * j)) ta tb) (dOp (dIC CMul fun i j => .int (i * j)) ta' tb') := de_op op_mul (l2_IC fun _ _ _ => .int _) ha hb
theorem de_fdiv (ha : DE X F0 a ta ta') (hb : DE X F0 b tb tb') : DE X F0 (.BinOp a .FloorDiv b pos) (tOp (rI CDiv fun i j => .int (i / j)) ta tb) (dOp (dIC CDiv fun i j => .int (i / j)) ta' tb') := de_op op_fdiv (l2_IC fun _ _ _ => .int _) ha hb
theorem de_mod (ha : DE X F0 a ta ta') (hb : DE X F0 b tb tb') : DE X F0 (.BinOp a .Mod b pos) (tOp (rI (fun _ j => 0 < j) fun i j => .int (i % j)) ta tb) (dOp (dIC (fun _ j => 0 < j) fun i j => .int (i % j)) ta' tb') := de_op op_mod (l2_IC fun _ _ _ => .int _) ha hb
theorem de_pow (ha : DE X F0 a ta ta') (hb : DE X F0 b tb tb') : DE X F0 (.BinOp a .Pow b pos) (tOp (rI CPow fun i j => .int (i ^ j.toNat)) ta tb) (dOp (dIC CPow fun i j => .int (i ^ j.toNat)) ta' tb') := de_op op_pow (l2_IC fun _ _ _ => .int _) ha hb
end
end DL

set_option maxRecDepth 100000
set_option maxHeartbeats 2000000
namespace DL
open PySem PySem.Spec PyProof.Rows L2

section
variable {X : Cx} {K : PySem.W.Frag} {F0 : FZ} {a b e : Expr} {ta tb te : TE} {ta' tb' te' : DTE} {pos : Pos}
/-! ### comparisons of ints, chains -/
theorem de_lt (ha : DE X F0 a ta ta') (hb : DE X F0 b tb tb') : DE X F0 (.Compare a [.Lt] [b] pos) (tOp (rI0 fun i j => .bl (decide (i < j))) ta tb) (dOp (dII fun i j => .bl (decide (i < j))) ta' tb') := de_cmp op_lt (l2_II fun _ _ _ => .bl _) ha hb (nomark _)
def dChain (r r' : DR2) (ta tb tc : DTE) : DTE := fun γ M Q => ta γ M fun x M1 => tb γ M1 fun y M2 => r x y M2 fun z M3 => match z with
  | .bl true => tc γ M3 fun w M4 => r' y w M4 Q
  | .bl false => Q (.bl false) M3
  | _ => False
end

/-! ### equality of data -/
mutual
def D.py : D → PyData
  | .non => .none
  | .bl b => .bool b
  | .int i => .int i
  | .str x => .str x
  | .tup l => .tuple (D.pyL l)
  | .lst l => .list (D.pyL l)
  | .kt l => .tuple (D.pyL l)
  | .ref _ => .none
  | .ty _ => .none
  | .ls _ => .none
  | .dk _ _ => .none
  | .dt _ _ => .none
def D.pyL : List D → List PyData
  | [] => []
  | d :: r => D.py d :: D.pyL r
end
mutual
/-- plain data, nested at most so deep -/
def D.ok : D → Nat → Bool
  | .non, _ => true
  | .bl _, _ => true
  | .int _, _ => true
  | .str x, _ => PyData.strOk x
  | .tup l, 0 => false
  | .tup l, n + 1 => D.okL l n
  | .lst l, 0 => false
  | .lst l, n + 1 => D.okL l n
  | .kt l, 0 => false
  | .kt l, n + 1 => D.okL l n
  | .ref _, _ => false
  | .ty _, _ => false
  | .ls _, _ => false
  | .dk _ _, _ => false
  | .dt _ _, _ => false
def D.okL : List D → Nat → Bool
  | [], _ => true
  | d :: r, n => D.ok d n && D.okL r n
end
theorem okL_iff {n : Nat} : ∀ {l : List D}, D.okL l n = true ↔ ∀ d ∈ l, D.ok d n = true
  | [] => by simp [D.okL]
  | d :: r => by simp [D.okL, okL_iff (l := r)]
mutual
theorem D.ok_lay : ∀ {d : D} {n : Nat}, d.ok n = true → d.py.canLay0 = true ∧ d.py.depth ≤ n
  | .non, _, _ => by simp [D.py, PyData.canLay0, PyData.depth]
  | .bl _, _, _ => by simp [D.py, PyData.canLay0, PyData.depth]
  | .int _, _, _ => by simp [D.py, PyData.canLay0, PyData.depth]
  | .str x, _, h => by
    have h' : PyData.strOk x = true := by simpa [D.ok] using h
    simp [D.py, PyData.canLay0, PyData.depth, h']
  | .tup l, 0, h => by simp [D.ok] at h
  | .tup l, n + 1, h => by
    have h' : D.okL l n = true := by simpa [D.ok] using h
    obtain ⟨a, b⟩ := D.okL_lay h'
    simp only [D.py, PyData.canLay0, PyData.depth]
    exact ⟨a, by omega⟩
  | .lst l, 0, h => by simp [D.ok] at h
  | .lst l, n + 1, h => by
    have h' : D.okL l n = true := by simpa [D.ok] using h
    obtain ⟨a, b⟩ := D.okL_lay h'
    simp only [D.py, PyData.canLay0, PyData.depth]
    exact ⟨a, by omega⟩
  | .kt l, 0, h => by simp [D.ok] at h
  | .kt l, n + 1, h => by
    have h' : D.okL l n = true := by simpa [D.ok] using h
    obtain ⟨a, b⟩ := D.okL_lay h'
    simp only [D.py, PyData.canLay0, PyData.depth]
    exact ⟨a, by omega⟩
  | .ref _, _, h => by simp [D.ok] at h
  | .ty _, _, h => by simp [D.ok] at h
  | .ls _, _, h => by simp [D.ok] at h
  | .dk _ _, _, h => by simp [D.ok] at h
  | .dt _ _, _, h => by simp [D.ok] at h
theorem D.okL_lay : ∀ {l : List D} {n : Nat}, D.okL l n = true → PyData.canLayAll0 (D.pyL l) = true ∧ PyData.depthAll (D.pyL l) ≤ n
  | [], _, _ => by simp [D.pyL, PyData.canLayAll0, PyData.depthAll]
  | d :: r, n, h => by
    simp only [D.okL, Bool.and_eq_true] at h
    obtain ⟨a, b⟩ := D.ok_lay h.1
    obtain ⟨a', b'⟩ := D.okL_lay h.2
    simp only [D.pyL, PyData.canLayAll0, PyData.depthAll, a, a', Bool.and_self, true_and]
    omega
end
theorem D.ok_shaped {d : D} (h : d.ok 60 = true) : SeqAt.shaped d.py = true := by
  obtain ⟨a, b⟩ := D.ok_lay h
  show (d.py.canLay0 && decide (d.py.depth ≤ 64)) = true
  rw [a, Bool.true_and]
  exact decide_eq_true (by omega)
mutual
theorem Rp.dp {K : PySem.W.Frag} {F : FZ} {H : Hp} (e : Same F.f H) : ∀ {d : D} {v : V} {n : Nat}, Rp K F d v → d.ok n = true → Dp K H v d.py
  | _, _, _, .non, _ => by simp only [D.py]; exact .non
  | _, _, _, .bl b, _ => by simp only [D.py]; exact .bl b
  | _, _, _, .int i, _ => by simp only [D.py]; exact .int i
  | _, _, _, .str x, _ => by simp only [D.py]; exact .str x
  | _, _, _, .ref a, h => by simp [D.ok] at h
  | _, _, _, .ty n, h => by simp [D.ok] at h
  | _, _, _, .ls _ _, h => by simp [D.ok] at h
  | _, _, _, .dk _ _, h => by simp [D.ok] at h
  | _, _, _, .dt _ _, h => by simp [D.ok] at h
  | _, _, 0, .tup t r, h => by simp [D.ok] at h
  | _, _, n + 1, .tup t r, h => by
    simp only [D.py]
    exact .tup (.inl (.inl (e _ _ t))) (RpL.dp e r (n := n) (by simpa [D.ok] using h))
  | _, _, 0, .kt t r, h => by simp [D.ok] at h
  | _, _, n + 1, .kt t r, h => by
    simp only [D.py]
    exact .tup (t.sq e) (RpL.dp e r (n := n) (by simpa [D.ok] using h))
  | _, _, 0, .lst t r, h => by simp [D.ok] at h
  | _, _, n + 1, .lst t r, h => by
    simp only [D.py]
    exact .lst (SqL.of (e _ _ t)) (RpL.dp e r (n := n) (by simpa [D.ok] using h))
theorem RpL.dp {K : PySem.W.Frag} {F : FZ} {H : Hp} (e : Same F.f H) : ∀ {ds : List D} {xs : List V} {n : Nat}, RpL K F ds xs → D.okL ds n = true → DpAll K H xs (D.pyL ds)
  | _, _, _, .nil, _ => by simp only [D.pyL]; exact .nil
  | _, _, n, .cons h t, k => by
    simp only [D.okL, Bool.and_eq_true] at k
    simp only [D.pyL]
    exact .cons (Rp.dp e h k.1) (RpL.dp e t k.2)
end
/-- == of data -/
def D.eq (x y : D) : Bool := PyData.eqv x.py y.py
def D.eqL (x y : List D) : Bool := PyData.eqvAll (D.pyL x) (D.pyL y)
@[simp] theorem D.eq_int (i j : Int) : D.eq (.int i) (.int j) = (i == j) := by simp only [D.eq, D.py, PyData.eqv]
@[simp] theorem D.eq_str (i j : Str) : D.eq (.str i) (.str j) = (i == j) := by simp only [D.eq, D.py, PyData.eqv]
@[simp] theorem D.eq_tup (i j : List D) : D.eq (.tup i) (.tup j) = D.eqL i j := by simp only [D.eq, D.eqL, D.py, PyData.eqv]
@[simp] theorem D.eq_lst (i j : List D) : D.eq (.lst i) (.lst j) = D.eqL i j := by simp only [D.eq, D.eqL, D.py, PyData.eqv]
@[simp] theorem D.eqL_nil : D.eqL [] [] = true := by simp only [D.eqL, D.pyL, PyData.eqvAll]
@[simp] theorem D.eqL_cons (x y : D) (r s : List D) : D.eqL (x :: r) (y :: s) = (D.eq x y && D.eqL r s) := by simp only [D.eqL, D.eq, D.pyL, PyData.eqvAll]
@[simp] theorem D.eqL_nc (y : D) (s : List D) : D.eqL [] (y :: s) = false := by simp only [D.eqL, D.pyL, PyData.eqvAll]
@[simp] theorem D.eqL_cn (y : D) (s : List D) : D.eqL (y :: s) [] = false := by simp only [D.eqL, D.pyL, PyData.eqvAll]
@[simp] theorem D.eq_bl (i j : Bool) : D.eq (.bl i) (.bl j) = (i == j) := by simp only [D.eq, D.py, PyData.eqv]
@[simp] theorem D.eq_nn : D.eq .non .non = true := by simp only [D.eq, D.py, PyData.eqv]

section
variable {X : Cx} {K : PySem.W.Frag} {F0 : FZ} {a b e : Expr} {ta tb te : TE} {ta' tb' te' : DTE} {pos : Pos}
def dEq (neg : Bool) : DR2 := fun x y M Q => x.ok 60 = true ∧ y.ok 60 = true ∧ Q (.bl (if neg then !D.eq x y else D.eq x y)) M
theorem l2_eq : L2r K F0 (dEq false) (rEqD K) := by
  intro F M H d e x y Q' Q e0 s r1 r2 q k
  exact ⟨d.py, e.py, r1.dp s.fz q.1, r2.dp s.fz q.2.1, D.ok_shaped q.1, D.ok_shaped q.2.1, k F _ _ M H (FLe.refl F) s (.bl _) q.2.2⟩
theorem l2_ne : L2r K F0 (dEq true) (rNeD K) := by
  intro F M H d e x y Q' Q e0 s r1 r2 q k
  exact ⟨d.py, e.py, r1.dp s.fz q.1, r2.dp s.fz q.2.1, D.ok_shaped q.1, D.ok_shaped q.2.1, k F _ _ M H (FLe.refl F) s (.bl _) q.2.2⟩
/-! ### and, or, not, if .. else -/
def dAnd (t u : DTT) : DTT := fun γ M Q => t γ M fun c M1 => if c = true then u γ M1 Q else Q false M1
def dOr (t u : DTT) : DTT := fun γ M Q => t γ M fun c M1 => if c = true then Q true M1 else u γ M1 Q
def dNot (t : DTT) : DTT := fun γ M Q => t γ M fun c M1 => Q (!c) M1
variable {tA tB : TT} {tA' tB' : DTT} {rest : List Expr}
theorem dw_and1 (ha : DT X F0 a tA tA') : DW X F0 (.BoolOp .And [a] pos) tA tA' := ⟨pw_and1 ha.pt, ha.le⟩
theorem dw_or1 (ha : DT X F0 a tA tA') : DW X F0 (.BoolOp .Or [a] pos) tA tA' := ⟨pw_or1 ha.pt, ha.le⟩
theorem lt_and (ha : LT K F0 tA' tA) (hb : LT K F0 tB' tB) : LT K F0 (dAnd tA' tB') (tAnd tA tB) := by
  intro F γ M σ H Q' Q e0 s g h k
  refine ha F γ M σ H _ _ e0 s g h fun F1 c M1 H1 e1 s1 q1 => ?_
  cases c with
  | true => exact hb F1 γ M1 σ H1 _ _ (e0.tr e1) s1 (g.mono e1) q1 fun F2 d M2 H2 e2 s2 q2 => k F2 d M2 H2 (e1.trans e2) s2 q2
  | false => exact k F1 false M1 H1 e1 s1 q1
theorem lt_or (ha : LT K F0 tA' tA) (hb : LT K F0 tB' tB) : LT K F0 (dOr tA' tB') (tOr tA tB) := by
  intro F γ M σ H Q' Q e0 s g h k
  refine ha F γ M σ H _ _ e0 s g h fun F1 c M1 H1 e1 s1 q1 => ?_
  cases c with
  | true => exact k F1 true M1 H1 e1 s1 q1
  | false => exact hb F1 γ M1 σ H1 _ _ (e0.tr e1) s1 (g.mono e1) q1 fun F2 d M2 H2 e2 s2 q2 => k F2 d M2 H2 (e1.trans e2) s2 q2
theorem lt_not (ha : LT K F0 tA' tA) : LT K F0 (dNot tA') (tNot tA) := by
  intro F γ M σ H Q' Q e0 s g h k
  exact ha F γ M σ H _ _ e0 s g h fun F1 c M1 H1 e1 s1 q1 => k F1 (!c) M1 H1 e1 s1 q1
theorem dw_and (ha : DT X F0 a tA tA') (hb : DW X F0 (.BoolOp .And (b :: rest) pos) tB tB') : DW X F0 (.BoolOp .And (a :: b :: rest) pos) (tAnd tA tB) (dAnd tA' tB') := ⟨pw_and ha.pt hb.pw, lt_and ha.le hb.le⟩
theorem dw_or (ha : DT X F0 a tA tA') (hb : DW X F0 (.BoolOp .Or (b :: rest) pos) tB tB') : DW X F0 (.BoolOp .Or (a :: b :: rest) pos) (tOr tA tB) (dOr tA' tB') := ⟨pw_or ha.pt hb.pw, lt_or ha.le hb.le⟩
theorem DW.dt {t : TT} {t' : DTT} (h : DW X F0 e t t') : DT X F0 e t t' := ⟨h.pw.pt, h.le⟩
theorem dt_not (ha : DT X F0 a tA tA') : DT X F0 (.UnaryOp .Not a pos) (tNot tA) (dNot tA') := ⟨pt_not ha.pt, lt_not ha.le⟩
def dIfE (c : DTT) (ta tb : DTE) : DTE := fun γ M Q => c γ M fun b M1 => if b = true then ta γ M1 Q else tb γ M1 Q
theorem de_ifExp {c : Expr} (hc : DT X F0 c tA tA') (ha : DE X F0 a ta ta') (hb : DE X F0 b tb tb') : DE X F0 (.IfExp c a b pos) (tIf tA ta tb) (dIfE tA' ta' tb') := by
  refine ⟨pe_ifExp hc.pt ha.pe hb.pe, ?_⟩
  intro F γ M σ H Q' Q e0 s g h k
  refine hc.le F γ M σ H _ _ e0 s g h fun F1 c M1 H1 e1 s1 q1 => ?_
  cases c with
  | true => exact ha.le F1 γ M1 σ H1 _ _ (e0.tr e1) s1 (g.mono e1) q1 fun F2 d v M2 H2 e2 s2 r2 q2 => k F2 d v M2 H2 (e1.trans e2) s2 r2 q2
  | false => exact hb.le F1 γ M1 σ H1 _ _ (e0.tr e1) s1 (g.mono e1) q1 fun F2 d v M2 H2 e2 s2 r2 q2 => k F2 d v M2 H2 (e1.trans e2) s2 r2 q2
end
end DL

set_option maxRecDepth 100000
set_option maxHeartbeats 2000000
namespace DL
open PySem PySem.Spec PyProof.Rows L2

/-! ### statements -/
structure DEnds where
  nx : G → Mp → Prop
  rt : DK
  bk : G → Mp → Prop := fun _ _ => False
  ct : G → Mp → Prop := fun _ _ => False
abbrev DTS := DEnds → G → Mp → Prop
structure ER (K : PySem.W.Frag) (F : FZ) (D' : DEnds) (D : Ends) : Prop where
  nx : ∀ F1 γ M σ H, FLe F F1 → SR K F1 M H → GR K F1 γ σ → D'.nx γ M → D.nx σ H
  rt : ∀ F1 d v M H, FLe F F1 → SR K F1 M H → Rp K F1 d v → D'.rt d M → D.rt v H
  bk : ∀ F1 γ M σ H, FLe F F1 → SR K F1 M H → GR K F1 γ σ → D'.bk γ M → D.bk σ H
  ct : ∀ F1 γ M σ H, FLe F F1 → SR K F1 M H → GR K F1 γ σ → D'.ct γ M → D.ct σ H
theorem ER.mono {K : PySem.W.Frag} {F F1 : FZ} {D' : DEnds} {D : Ends} (h : ER K F D' D) (e : FLe F F1) : ER K F1 D' D :=
  ⟨fun F2 γ M σ H e2 => h.nx F2 γ M σ H (e.trans e2), fun F2 d v M H e2 => h.rt F2 d v M H (e.trans e2), fun F2 γ M σ H e2 => h.bk F2 γ M σ H (e.trans e2), fun F2 γ M σ H e2 => h.ct F2 γ M σ H (e.trans e2)⟩
def LS (K : PySem.W.Frag) (F0 : FZ) (t' : DTS) (t : TS) : Prop := ∀ (F : FZ) (γ : G) (M : Mp) (σ : L2.St) (H : Hp) (D' : DEnds) (D : Ends), Bs F0 F → SR K F M H → GR K F γ σ → t' D' γ M → ER K F D' D → t D σ H
structure DS (X : Cx) (F0 : FZ) (st : Stmt) (t : TS) (t' : DTS) : Prop where
  ps : PS X st t
  le : LS X.K F0 t' t
structure DB (X : Cx) (F0 : FZ) (st : List Stmt) (t : TS) (t' : DTS) : Prop where
  ps : PSs X st t
  le : LS X.K F0 t' t

section
variable {X : Cx} {K : PySem.W.Frag} {F0 : FZ} {st : Stmt} {rest : List Stmt} {t u : TS} {t' u' : DTS} {e : Expr} {te : TE} {te' : DTE} {pos : Pos}
def dNext : DTS := fun D γ M => D.nx γ M
def dSeq (t u : DTS) : DTS := fun D γ M => t { D with nx := u D } γ M
theorem db_nil : DB X F0 [] tNext dNext := ⟨pss_nil, fun F γ M σ H D' D e0 s g q er => er.nx F γ M σ H (FLe.refl F) s g q⟩
theorem ls_seq (h1 : LS K F0 t' t) (h2 : LS K F0 u' u) : LS K F0 (dSeq t' u') (tSeq t u) := by
  intro F γ M σ H D' D e0 s g q er
  refine h1 F γ M σ H { D' with nx := u' D' } { D with nx := u D } e0 s g q ⟨fun F1 γ1 M1 σ1 H1 e1 s1 g1 q1 => ?_, er.rt, er.bk, er.ct⟩
  exact h2 F1 γ1 M1 σ1 H1 D' D (e0.tr e1) s1 g1 q1 (er.mono e1)
theorem db_cons (h1 : DS X F0 st t t') (h2 : DB X F0 rest u u') : DB X F0 (st :: rest) (tSeq t u) (dSeq t' u') := ⟨pss_cons h1.ps h2.ps, ls_seq h1.le h2.le⟩
theorem db_one (h1 : DS X F0 st t t') : DB X F0 [st] t t' := ⟨pss_one h1.ps, h1.le⟩
def dDrop (te : DTE) : DTS := fun D γ M => te γ M fun _ M1 => D.nx γ M1
theorem ds_expr (he : DE X F0 e te te') (hs : swapsWith e none pos.line X.env = pure false := by rfl) : DS X F0 (.Expr e pos) (tDrop te) (dDrop te') :=
  ⟨ps_expr he.pe hs, fun F γ M σ H D' D e0 s g q er => he.le F γ M σ H _ _ e0 s g q fun F1 d v M1 H1 e1 s1 r1 q1 => er.nx F1 γ M1 σ H1 e1 s1 (g.mono e1) q1⟩
def dRet (te : DTE) : DTS := fun D γ M => te γ M D.rt
theorem ds_ret (he : DE X F0 e te te') : DS X F0 (.Return (some e) pos) (tRet te) (dRet te') :=
  ⟨ps_ret he.pe, fun F γ M σ H D' D e0 s g q er => he.le F γ M σ H _ _ e0 s g q fun F1 d v M1 H1 e1 s1 r1 q1 => er.rt F1 d v M1 H1 e1 s1 r1 q1⟩
def dIfS (c : DTT) (t u : DTS) : DTS := fun D γ M => c γ M fun b M1 => if b = true then t D γ M1 else u D γ M1
theorem ds_if {c : Expr} {a b : List Stmt} {tc : TT} {tc' : DTT} (hc : DT X F0 c tc tc') (ha : DB X F0 a t t') (hb : DB X F0 b u u') : DS X F0 (.If c a b pos) (tIfS tc t u) (dIfS tc' t' u') := by
  refine ⟨ps_if hc.pt ha.ps hb.ps, fun F γ M σ H D' D e0 s g q er => ?_⟩
  refine hc.le F γ M σ H _ _ e0 s g q fun F1 c M1 H1 e1 s1 q1 => ?_
  cases c with
  | true => exact ha.le F1 γ M1 σ H1 D' D (e0.tr e1) s1 (g.mono e1) q1 (er.mono e1)
  | false => exact hb.le F1 γ M1 σ H1 D' D (e0.tr e1) s1 (g.mono e1) q1 (er.mono e1)
def dNever : DTS := fun _ _ _ => False
theorem ds_never : DS X F0 st tNever dNever := ⟨ps_never, fun F γ M σ H D' D e0 s g q er => q.elim⟩
/-- ghost: a list as a value is frozen -/
def dFrz (te : DTE) : DTE := fun γ M Q => te γ M fun d M1 => match d with
  | .ref p => (match M1 p with
    | some (.lst ds) => Q (.lst ds) (mdel M1 p)
    | _ => Q (.ref p) M1)
  | d => Q d M1
theorem de_frz (h : DE X F0 e te te') : DE X F0 e te (dFrz te') := ⟨h.pe, fun F γ M σ H Q' Q e0 s g q k => by
  refine h.le F γ M σ H _ _ e0 s g q fun F1 d v M1 H1 e1 s1 r1 q1 => ?_
  split at q1
  · rename_i p
    split at q1
    · rename_i ds hm
      obtain ⟨xs, s2, e2, r2⟩ := s1.freeze hm
      cases r1
      exact k _ _ _ _ H1 (e1.trans e2) s2 r2 q1
    · exact k _ _ _ _ H1 e1 s1 r1 q1
  · exact k _ _ _ _ H1 e1 s1 r1 q1⟩
end

/-! ### targets -/
abbrev DTG := D → G → Mp → (G → Mp → Prop) → Prop
abbrev DTGs := List D → G → Mp → (G → Mp → Prop) → Prop
def LG (K : PySem.W.Frag) (F0 : FZ) (g' : DTG) (g : TG) : Prop := ∀ (F : FZ) (γ : G) (M : Mp) (σ : L2.St) (H : Hp) (d : D) (v : V) (Q' : G → Mp → Prop) (Q : L2.St → Hp → Prop), Bs F0 F → SR K F M H → GR K F γ σ → Rp K F d v → g' d γ M Q' →
  (∀ F1 γ1 M1 σ1 H1, FLe F F1 → SR K F1 M1 H1 → GR K F1 γ1 σ1 → Q' γ1 M1 → Q σ1 H1) → g v σ H Q
def LGs (K : PySem.W.Frag) (F0 : FZ) (g' : DTGs) (g : TGs) : Prop := ∀ (F : FZ) (γ : G) (M : Mp) (σ : L2.St) (H : Hp) (d : List D) (v : List V) (Q' : G → Mp → Prop) (Q : L2.St → Hp → Prop), Bs F0 F → SR K F M H → GR K F γ σ → RpL K F d v → g' d γ M Q' →
  (∀ F1 γ1 M1 σ1 H1, FLe F F1 → SR K F1 M1 H1 → GR K F1 γ1 σ1 → Q' γ1 M1 → Q σ1 H1) → g v σ H Q
structure DG (X : Cx) (F0 : FZ) (tg : Expr) (t : TG) (t' : DTG) : Prop where
  pg : PG X tg t
  le : LG X.K F0 t' t
structure DGs (X : Cx) (F0 : FZ) (ts : List Expr) (t : TGs) (t' : DTGs) : Prop where
  pg : PGs X ts t
  le : LGs X.K F0 t' t
section
variable {X : Cx} {K : PySem.W.Frag} {F0 : FZ} {pos : Pos}
def hName (i : Nat) : DTG := fun d γ M Q => Q (γ.set i (some d)) M
theorem dg_name (i : Nat) {x : Str} (hN : X.N.Nodup) (hi : X.N[i]? = some x := by rfl) (hx : Loc X.env.scope x := by first | exact Or.inl rfl | exact Or.inr rfl) (hf : X.fn x = true ∨ X.env.scope.names.lookup x = some .local := by first | exact .inl rfl | exact .inr rfl | assumption) :
    DG X F0 (.Name x pos) (gName i) (hName i) :=
  ⟨pg_name hN hi hx hf, fun F γ M σ H d v Q' Q e0 s g r q k => k F _ M _ H (FLe.refl F) s (g.set r i) q⟩
def hNil : DTGs := fun ds γ M Q => match ds with
  | [] => Q γ M
  | _ => False
def hCons (t : DTG) (u : DTGs) : DTGs := fun ds γ M Q => match ds with
  | d :: r => t d γ M fun γ1 M1 => u r γ1 M1 Q
  | [] => False
theorem dgs_nil : DGs X F0 [] gNil hNil := ⟨pgs_nil, fun F γ M σ H d v Q' Q e0 s g r q k => by
  cases r with
  | nil => exact ⟨rfl, k F γ M σ H (FLe.refl F) s g q⟩
  | cons _ _ => exact False.elim q⟩
theorem dgs_cons {e : Expr} {es : List Expr} {t : TG} {t' : DTG} {u : TGs} {u' : DTGs} (h1 : DG X F0 e t t') (h2 : DGs X F0 es u u')
    (hs : (assignEach (e :: es) X.env).map (·.2) = assign e X.env :: (assignEach es X.env).map (·.2) := by rfl) : DGs X F0 (e :: es) (gCons t u) (hCons t' u') := ⟨pgs_cons h1.pg h2.pg hs, fun F γ M σ H d v Q' Q e0 s g r q k => by
  cases r with
  | nil => exact False.elim q
  | cons r1 r2 =>
    exact ⟨_, _, rfl, h1.le F γ M σ H _ _ _ _ e0 s g r1 q fun F1 γ1 M1 σ1 H1 e1 s1 g1 q1 => h2.le F1 γ1 M1 σ1 H1 _ _ _ _ (e0.tr e1) s1 g1 (r2.mono e1) q1 fun F2 γ2 M2 σ2 H2 e2 s2 g2 q2 => k F2 γ2 M2 σ2 H2 (e1.trans e2) s2 g2 q2⟩⟩
def hTup (n : Nat) (t : DTGs) : DTG := fun d γ M Q => match d with
  | .tup l => l.length = n ∧ t l γ M Q
  | _ => False
theorem dg_tup {es : List Expr} {k : Nat} {t : TGs} {t' : DTGs} {n : Nat} (hc : X.calm = true) (h : DGs X F0 es t t')
    (hn : (assignEach es X.env).length = n := by rfl) (hst : (assignEach es X.env).findIdx? (·.1) = none := by rfl) : DG X F0 (.Tuple es k pos) (gTup X.K n t) (hTup n t') := ⟨pg_tup hc h.pg hn hst, fun F γ M σ H d v Q' Q e0 s g r q kk => by
  unfold hTup at q
  split at q
  · cases r with
    | tup a b => exact ⟨_, _, rfl, s.sqT a, b.length ▸ q.1, h.le F γ M σ H _ _ _ _ e0 s g b q.2 kk⟩
  · exact q.elim⟩
/-- o[i] = v, by values -/
abbrev DTSet := D → D → D → Mp → (Mp → Prop) → Prop
def L3s (K : PySem.W.Frag) (F0 : FZ) (r' : DTSet) (r : TSet) : Prop := ∀ (F : FZ) (M : Mp) (H : Hp) (o i d : D) (x y v : V) (Q' : Mp → Prop) (Q : Hp → Prop), Bs F0 F → SR K F M H → Rp K F o x → Rp K F i y → Rp K F d v → r' o i d M Q' →
  (∀ F1 M1 H1, FLe F F1 → SR K F1 M1 H1 → Q' M1 → Q H1) → r x y v H Q
def hSub (to ti : DTE) (t : DTSet) : DTG := fun d γ M Q => to γ M fun o M1 => ti γ M1 fun i M2 => t o i d M2 fun M3 => Q γ M3
theorem dg_sub {o i : Expr} {to ti : TE} {to' ti' : DTE} {t : TSet} {t' : DTSet} (ho : DE X F0 o to to') (hi : DE X F0 i ti ti') (hs : PSet X t) (hl : L3s X.K F0 t' t)
    (ha : ∀ v, assign (.Subscript o i pos) X.env v = (do
      let ov ← holding [v] (eval o X.env)
      let iv ← holding [v, ov] (eval i X.env)
      standAt pos
      holding [v, ov, iv] (setItem ov iv v)
      release [v, ov, iv] []) := by intro _; rfl) : DG X F0 (.Subscript o i pos) (gSub to ti t) (hSub to' ti' t') := ⟨pg_sub ho.pe hi.pe hs ha, fun F γ M σ H d v Q' Q e0 s g r q k => by
  refine ho.le F γ M σ H _ _ e0 s g q fun F1 d1 v1 M1 H1 e1 s1 r1 q1 => ?_
  refine hi.le F1 γ M1 σ H1 _ _ (e0.tr e1) s1 (g.mono e1) q1 fun F2 d2 v2 M2 H2 e2 s2 r2 q2 => ?_
  exact hl F2 M2 H2 d1 d2 d v1 v2 v _ _ ((e0.tr e1).tr e2) s2 (r1.mono e2) r2 (r.mono (e1.trans e2)) q2 fun F3 M3 H3 e3 s3 q3 => k F3 γ M3 σ H3 ((e1.trans e2).trans e3) s3 (g.mono ((e1.trans e2).trans e3)) q3⟩
def dAsg (te : DTE) (g : DTG) : DTS := fun D γ M => te γ M fun x M1 => g x γ M1 D.nx
theorem ls_asg {te : TE} {te' : DTE} {g : TG} {g' : DTG} (he : LE K F0 te' te) (hg : LG K F0 g' g) : LS K F0 (dAsg te' g') (tAsg te g) := fun F γ M σ H D' D e0 s gr q er =>
  he F γ M σ H _ _ e0 s gr q fun F1 d v M1 H1 e1 s1 r1 q1 => hg F1 γ M1 σ H1 d v _ _ (e0.tr e1) s1 (gr.mono e1) r1 q1 fun F2 γ2 M2 σ2 H2 e2 s2 g2 q2 => er.nx F2 γ2 M2 σ2 H2 (e1.trans e2) s2 g2 q2
theorem ds_asg {tg e : Expr} {te : TE} {te' : DTE} {g : TG} {g' : DTG} (he : DE X F0 e te te') (hg : DG X F0 tg g g') (hs : swapsWithSole [tg] e pos.line X.env = pure false := by rfl) (hw : swappedStores [tg] e X.env = pure none := by rfl)
    (h1 : (assignEach [tg] X.env).map (·.2) = [assign tg X.env] := by rfl) : DS X F0 (.Assign [tg] e pos) (tAsg te g) (dAsg te' g') := ⟨ps_asg he.pe hg.pg hs hw h1, ls_asg he.le hg.le⟩
theorem ds_set (i : Nat) {x : Str} {e : Expr} {te : TE} {te' : DTE} {pos' : Pos} (hN : X.N.Nodup) (he : DE X F0 e te te') (hi : X.N[i]? = some x := by rfl) (hx : Loc X.env.scope x := by first | exact Or.inl rfl | exact Or.inr rfl)
    (hs : swapsWith e (some (.Name x pos')) pos.line X.env = pure false := by rfl) (hf : X.fn x = true ∨ X.env.scope.names.lookup x = some .local := by first | exact .inl rfl | exact .inr rfl | assumption) :
    DS X F0 (.Assign [.Name x pos'] e pos) (tAsg te (gName i)) (dAsg te' (hName i)) := ⟨ps_set hN hi hx he.pe hs hf, ls_asg he.le (dg_name (X := X) (F0 := F0) (pos := pos') i hN hi hx hf).le⟩
/-- x op= e -/
abbrev DTIp := D → D → Mp → DK → Prop
def dAug (i : Nat) (te : DTE) (ti : DTIp) : DTS := fun D γ M => match γ[i]? with
  | some (some x) => te γ M fun y M1 => ti x y M1 fun z M2 => D.nx (γ.set i (some z)) M2
  | _ => False
def LIp (K : PySem.W.Frag) (F0 : FZ) (r' : DTIp) (r : TIp) : Prop := ∀ (F : FZ) (M : Mp) (H : Hp) (d e : D) (x y : V) (Q' : DK) (Q : VK), Bs F0 F → SR K F M H → Rp K F d x → Rp K F e y → r' d e M Q' →
  (∀ F1 d v M1 H1, FLe F F1 → SR K F1 M1 H1 → Rp K F1 d v → Q' d M1 → Q v H1) → r x y H Q
theorem ds_aug (i : Nat) {x : Str} {e : Expr} {te : TE} {te' : DTE} {op : Operator} {ti : TIp} {ti' : DTIp} {pos' : Pos} (hN : X.N.Nodup) (he : DE X F0 e te te') (ho : PIp X op ti) (hl : LIp X.K F0 ti' ti) (hi : X.N[i]? = some x := by rfl) (hx : Loc X.env.scope x := by first | exact Or.inl rfl | exact Or.inr rfl)
    (hf : X.fn x = true ∨ X.env.scope.names.lookup x = some .local := by first | exact .inl rfl | exact .inr rfl | assumption) :
    DS X F0 (.AugAssign (.Name x pos') op e pos) (tAug i te ti) (dAug i te' ti') := ⟨ps_aug hN hi hx he.pe ho hf, fun F γ M σ H D' D e0 s g q er => by
  unfold dAug at q
  split at q
  · rename_i d0 hd
    obtain ⟨v0, hv, r0⟩ := g.at' i d0 hd
    refine ⟨v0, hv, he.le F γ M σ H _ _ e0 s g q fun F1 d1 v1 M1 H1 e1 s1 r1 q1 => ?_⟩
    exact hl F1 M1 H1 d0 d1 v0 v1 _ _ (e0.tr e1) s1 (r0.mono e1) r1 q1 fun F2 d2 v2 M2 H2 e2 s2 r2 q2 => er.nx F2 _ M2 _ H2 (e1.trans e2) s2 ((g.mono (e1.trans e2)).set r2 i) q2
  · exact q.elim⟩
def dipI (f : Int → Int → Int) : DTIp := fun x y M Q => match x, y with
  | .int i, .int j => Q (.int (f i j)) M
  | _, _ => False
theorem lip_I (f : Int → Int → Int) : LIp K F0 (dipI f) (ipI f) := by
  intro F M H d e x y Q' Q e0 s r1 r2 q k
  unfold dipI at q
  split at q
  · cases r1; cases r2
    exact ⟨_, _, rfl, rfl, k F _ _ M H (FLe.refl F) s (.int _) q⟩
  · exact q.elim
end

/-! ### loops -/
section
variable {X : Cx} {K : PySem.W.Frag} {F0 : FZ} {pos : Pos}
def dWhile (c : DTT) (tb : DTS) : DTS := fun D γ M => ∃ W : Nat → G → Mp → Prop, (∃ m, W m γ M) ∧ ∀ m γ M, W m γ M →
  c γ M fun b M1 => if b = true then tb { D with nx := fun γ' M' => ∃ m', m' < m ∧ W m' γ' M', ct := fun γ' M' => ∃ m', m' < m ∧ W m' γ' M', bk := D.nx } γ M1 else D.nx γ M1
theorem ds_while {c : Expr} {body : List Stmt} {tc : TT} {tc' : DTT} {tb : TS} {tb' : DTS} (hp : PassesOwn (model X.prog X.w) X.A X.env X.xe) (hc : DT X F0 c tc tc') (hb : DB X F0 body tb tb') : DS X F0 (.While c body [] pos) (tWhile tc tb) (dWhile tc' tb') := by
  refine ⟨ps_while hp hc.pt hb.ps, fun F γ M σ H D' D e0 s g q er => ?_⟩
  obtain ⟨W, ⟨m0, w0⟩, turn⟩ := q
  refine ⟨fun m σ H => ∃ F1 γ M, FLe F F1 ∧ SR X.K F1 M H ∧ GR X.K F1 γ σ ∧ W m γ M, ⟨m0, F, γ, M, FLe.refl F, s, g, w0⟩, ?_⟩
  rintro m σ1 H1 ⟨F1, γ1, M1, e1, s1, g1, w1⟩
  refine hc.le F1 γ1 M1 σ1 H1 _ _ (e0.tr e1) s1 g1 (turn m γ1 M1 w1) fun F2 b M2 H2 e2 s2 q2 => ?_
  cases b with
  | false => exact er.nx F2 γ1 M2 σ1 H2 (e1.trans e2) s2 (g1.mono e2) q2
  | true =>
    refine ⟨fun σ' H' => ∃ m', m' < m ∧ ∃ F1 γ M, FLe F F1 ∧ SR X.K F1 M H' ∧ GR X.K F1 γ σ' ∧ W m' γ M, fun σ' H' h => h, ?_⟩
    refine hb.le F2 γ1 M2 σ1 H2 _ _ ((e0.tr e1).tr e2) s2 (g1.mono e2) q2 ⟨?_, fun F3 d v M3 H3 e3 => er.rt F3 d v M3 H3 ((e1.trans e2).trans e3), fun F3 γ3 M3 σ3 H3 e3 => er.nx F3 γ3 M3 σ3 H3 ((e1.trans e2).trans e3), ?_⟩
    · rintro F3 γ3 M3 σ3 H3 e3 s3 g3 ⟨m', hm, w3⟩
      exact ⟨m', hm, F3, γ3, M3, (e1.trans e2).trans e3, s3, g3, w3⟩
    · rintro F3 γ3 M3 σ3 H3 e3 s3 g3 ⟨m', hm, w3⟩
      exact ⟨m', hm, F3, γ3, M3, (e1.trans e2).trans e3, s3, g3, w3⟩

abbrev DTI := G → Mp → (List D → Mp → Prop) → Prop
/-- a walk over known items -/
def JR (K : PySem.W.Frag) (F : FZ) (items : List D) (J : It) : Prop := ∀ (i : Nat) (F1 : FZ) (M1 : Mp) (H1 : Hp), Bj F F1 → SR K F1 M1 H1 →
  (items.length ≤ i → J.stop i H1) ∧ ∀ d, items[i]? = some d → J.go i H1 ∧ ∀ x H2, J.yld i H1 x H2 → ∃ F2, FLe F1 F2 ∧ SR K F2 M1 H2 ∧ Rp K F2 d x
def LI (K : PySem.W.Frag) (F0 : FZ) (wi' : DTI) (wi : TI) : Prop := ∀ (F : FZ) (γ : G) (M : Mp) (σ : L2.St) (H : Hp) (R' : List D → Mp → Prop) (R : It → Hp → Prop), Bs F0 F → SR K F M H → GR K F γ σ → wi' γ M R' →
  (∀ F1 items J M1 H1, FLe F F1 → SR K F1 M1 H1 → JR K F1 items J → R' items M1 → R J H1) → wi σ H R
structure DI (X : Cx) (F0 : FZ) (tg iter : Expr) (wi : TI) (wi' : DTI) : Prop where
  pi : PI X tg iter wi
  le : LI X.K F0 wi' wi
theorem JR.mono {F F1 : FZ} {items : List D} {J : It} (h : JR K F items J) (e : FLe F F1) : JR K F1 items J := fun i F2 M H e2 s => h i F2 M H (e.bj.trans e2) s
def dForI (g : DTG) (tb : DTS) (D0 : DEnds) (γ : G) (items : List D) (M1 : Mp) : Prop := ∃ I : Nat → G → Mp → Prop, I 0 γ M1 ∧
  (∀ i d γ M, items[i]? = some d → I i γ M → g d γ M fun γ1 M1 => tb { D0 with nx := I (i + 1), ct := I (i + 1), bk := D0.nx } γ1 M1) ∧ ∀ γ M, I items.length γ M → D0.nx γ M
def dFor (wi : DTI) (g : DTG) (tb : DTS) : DTS := fun D0 γ M => wi γ M fun items M1 => dForI g tb D0 γ items M1
theorem ds_for {tg iter : Expr} {body : List Stmt} {wi : TI} {wi' : DTI} {g : TG} {g' : DTG} {tb : TS} {tb' : DTS} (hp : PassesOwn (model X.prog X.w) X.A X.env X.xe) (hc : X.calm = true) (hi : DI X F0 tg iter wi wi') (hg : DG X F0 tg g g') (hb : DB X F0 body tb tb')
    (hs : ∀ x, foldedSetIterable iter X.env x = pure x := by intro _; rfl) : DS X F0 (.For tg iter body [] pos) (tFor wi g tb) (dFor wi' g' tb') := by
  refine ⟨ps_for hp hc hi.pi hg.pg hb.ps hs, fun F γ M σ H D' D0 e0 s gr q er => ?_⟩
  refine hi.le F γ M σ H _ _ e0 s gr q fun F1 items J M1 H1 e1 s1 j1 q1 => ?_
  obtain ⟨I, h0, step, fin⟩ := q1
  refine ⟨fun i m σ H => m = items.length - i ∧ i ≤ items.length ∧ ∃ F2 γ2 M2, FLe F1 F2 ∧ SR X.K F2 M2 H ∧ GR X.K F2 γ2 σ ∧ I i γ2 M2, ⟨items.length, by simp, Nat.zero_le _, F1, γ, M1, FLe.refl F1, s1, gr.mono e1, h0⟩, ?_⟩
  rintro i m σ2 H2 ⟨rfl, hi', F2, γ2, M2, e2, s2, g2, q2⟩
  have j2 := j1 i F2 M2 H2 e2.bj s2
  by_cases hlt : i < items.length
  · have hd : items[i]? = some items[i] := List.getElem?_eq_getElem hlt
    obtain ⟨go, y⟩ := j2.2 _ hd
    refine .inr ⟨go, fun σ' H' => ∃ F2 γ2 M2, FLe F1 F2 ∧ SR X.K F2 M2 H' ∧ GR X.K F2 γ2 σ' ∧ I (i + 1) γ2 M2, fun σ' H' h => ⟨items.length - (i + 1), by omega, rfl, hlt, h⟩, fun x H3 yy => ?_⟩
    obtain ⟨F3, e3, s3, r3⟩ := y x H3 yy
    refine hg.le F3 γ2 M2 σ2 H3 _ x _ _ ((e0.tr e1).tr (e2.trans e3)) s3 (g2.mono e3) r3 (step i _ γ2 M2 hd q2) fun F4 γ4 M4 σ4 H4 e4 s4 g4 q4 => ?_
    refine hb.le F4 γ4 M4 σ4 H4 _ _ (((e0.tr e1).tr (e2.trans e3)).tr e4) s4 g4 q4 ⟨?_, fun F5 d v M5 H5 e5 => er.rt F5 d v M5 H5 ((e1.trans ((e2.trans e3).trans e4)).trans e5), fun F5 γ5 M5 σ5 H5 e5 => er.nx F5 γ5 M5 σ5 H5 ((e1.trans ((e2.trans e3).trans e4)).trans e5), ?_⟩
    · intro F5 γ5 M5 σ5 H5 e5 s5 g5 q5
      exact ⟨F5, γ5, M5, (((e2.trans e3).trans e4).trans e5), s5, g5, q5⟩
    · intro F5 γ5 M5 σ5 H5 e5 s5 g5 q5
      exact ⟨F5, γ5, M5, (((e2.trans e3).trans e4).trans e5), s5, g5, q5⟩
  · have e : i = items.length := by omega
    subst e
    exact .inl ⟨j2.1 (Nat.le_refl _), er.nx F2 γ2 M2 σ2 H2 (e1.trans e2) s2 g2 (fin γ2 M2 q2)⟩
end
end DL

set_option maxRecDepth 100000
set_option maxHeartbeats 2000000
namespace DL
open PySem PySem.Spec PyProof.Rows L2

/-! ### argument lists, displays -/
section
variable {X : Cx} {K : PySem.W.Frag} {F0 : FZ} {a b e : Expr} {es : List Expr} {ta tb te : TE} {ta' tb' te' : DTE} {t : TA} {t' : DTA} {pos : Pos}
def dNil : DTA := fun _ M Q => Q [] M
def dCons (ta : DTE) (tr : DTA) : DTA := fun γ M Q => ta γ M fun x M1 => tr γ M1 fun xs M2 => Q (x :: xs) M2
theorem da_nil : DA X F0 [] tNil dNil := ⟨pa_nil, fun F γ M σ H Q' Q e0 s g q k => k F [] [] M H (FLe.refl F) s .nil q⟩
theorem da_cons (ha : DE X F0 e te te') (hr : DA X F0 es t t') (hs : starEach (e :: es) X.env = (false, eval e X.env) :: starEach es X.env := by rfl) : DA X F0 (e :: es) (tCons te t) (dCons te' t') :=
  ⟨pa_cons ha.pe hr.pa hs, fun F γ M σ H Q' Q e0 s g q k => ha.le F γ M σ H _ _ e0 s g q fun F1 d v M1 H1 e1 s1 r1 q1 =>
    hr.le F1 γ M1 σ H1 _ _ (e0.tr e1) s1 (g.mono e1) q1 fun F2 ds vs M2 H2 e2 s2 r2 q2 => k F2 _ _ M2 H2 (e1.trans e2) s2 (.cons (r1.mono e2) r2) q2⟩
def dTup (t : DTA) : DTE := fun γ M Q => t γ M fun ds M1 => ds.length ≤ sizeLine ∧ Q (.tup ds) M1
def dLst (t : DTA) : DTE := fun γ M Q => t γ M fun ds M1 => ds.length ≤ sizeLine ∧ Q (.lst ds) M1
def dLstM (t : DTA) : DTE := fun γ M Q => t γ M fun ds M1 => ds.length ≤ sizeLine ∧ ∀ p, M1 p = none → Q (.ref p) (mset M1 p (.lst ds))
theorem de_tup {x1} (h : DA X F0 es t t') : DE X F0 (.Tuple es x1 pos) (tTup t) (dTup t') := ⟨pe_tup h.pa, fun F γ M σ H Q' Q e0 s g q k => by
  refine h.le F γ M σ H _ _ e0 s g q fun F1 ds vs M1 H1 e1 s1 r1 q1 => ?_
  have hl : vs.length ≤ sizeLine := r1.length ▸ q1.1
  refine ⟨hl, fun p hp => ?_⟩
  have e2 := same_upd (o := .tup vs) (s1.freeF hp)
  exact k _ _ _ _ _ (e1.trans e2) (s1.newF hp hl) (.tup upd_same (r1.mono e2)) q1.2⟩
theorem de_lst (h : DA X F0 es t t') : DE X F0 (.List es pos) (tLst t) (dLst t') := ⟨pe_lst h.pa, fun F γ M σ H Q' Q e0 s g q k => by
  refine h.le F γ M σ H _ _ e0 s g q fun F1 ds vs M1 H1 e1 s1 r1 q1 => ?_
  have hl : vs.length ≤ sizeLine := r1.length ▸ q1.1
  refine ⟨hl, fun p hp => ?_⟩
  have e2 := same_upd (o := .lst vs) (s1.freeF hp)
  exact k _ _ _ _ _ (e1.trans e2) (s1.newF hp hl) (.lst upd_same (r1.mono e2)) q1.2⟩
theorem de_lstM (h : DA X F0 es t t') : DE X F0 (.List es pos) (tLst t) (dLstM t') := ⟨pe_lst h.pa, fun F γ M σ H Q' Q e0 s g q k => by
  refine h.le F γ M σ H _ _ e0 s g q fun F1 ds vs M1 H1 e1 s1 r1 q1 => ?_
  have hl : vs.length ≤ sizeLine := r1.length ▸ q1.1
  refine ⟨hl, fun p hp => ?_⟩
  exact k F1 _ _ _ _ e1 (s1.putN hp (.lst r1 hl)) (.ref p) (q1.2 p (s1.freeM hp))⟩
end

/-! ### dicts as told -/
section
variable {κ : Type} [DecidableEq κ]
def dval (kvs : List (κ × D)) (k : κ) : Option D := (kvs.find? fun kv => decide (kv.1 = k)).map (·.2)
def dput (kvs : List (κ × D)) (k : κ) (v : D) : List (κ × D) := if (dval kvs k).isSome = true then kvs.map fun kv => if kv.1 = k then (kv.1, v) else kv else kvs ++ [(k, v)]
end
def keyOf : D → Option Key
  | .int i => some (.inl i)
  | .str x => some (.inr x)
  | _ => none
def keysOf : List D → Option (List Key)
  | [] => some []
  | d :: r => match keyOf d, keysOf r with
    | some k, some ks => some (k :: ks)
    | _, _ => none
/-- the dict at p, asked for y -/
def dLook (M : Mp) (p : Addr) (y : D) : Option (Option D) := match M p with
  | some (.dK kvs) => (keyOf y).map fun k => dval kvs k
  | some (.dT kvs) => match y with
    | .tup l => (keysOf l).map fun k => dval kvs k
    | _ => none
  | _ => none
section
variable {K : PySem.W.Frag} {F : FZ} {M : Mp} {H : Hp}
theorem keyOf_rp {d : D} {v : V} {k : Key} (r : Rp K F d v) (h : keyOf d = some k) : v = kV k := by
  cases r <;> simp [keyOf] at h <;> subst h <;> rfl
theorem keysOf_rp : ∀ {ds : List D} {xs : List V} {ks : List Key}, RpL K F ds xs → keysOf ds = some ks → xs = ks.map kV
  | _, _, ks, .nil, h => by simp [keysOf] at h; subst h; rfl
  | _, _, ks, .cons r t, h => by
    simp only [keysOf] at h
    split at h
    · rename_i k ks' hk hks
      cases h
      rw [List.map_cons, keyOf_rp r hk, keysOf_rp t hks]
    · cases h
theorem kvr_find {κ : Type} [DecidableEq κ] {k : κ} : ∀ {l : List (κ × D)} {m : List (κ × V)}, KVR K F l m →
    (dval l k = none ∧ valV m k = none) ∨ ∃ d v, dval l k = some d ∧ valV m k = some v ∧ Rp K F d v
  | _, _, .nil => .inl ⟨rfl, rfl⟩
  | (k1, d) :: l, (k2, v) :: m, .cons r t => by
    obtain ⟨e, r⟩ := r
    simp only at e r
    subst e
    by_cases h : k1 = k
    · refine .inr ⟨d, v, ?_, ?_, r⟩ <;> simp [dval, valV, List.find?, h]
    · have e1 : dval ((k1, d) :: l) k = dval l k := by simp [dval, List.find?, h]
      have e2 : valV ((k1, v) :: m) k = valV m k := by simp [valV, List.find?, h]
      rw [e1, e2]
      exact kvr_find t
theorem kvr_append {κ : Type} : ∀ {l : List (κ × D)} {m : List (κ × V)} {l' : List (κ × D)} {m' : List (κ × V)}, KVR K F l m → KVR K F l' m' → KVR K F (l ++ l') (m ++ m')
  | _, _, _, _, .nil, s => s
  | _, _, _, _, .cons r t, s => .cons r (kvr_append t s)
theorem kvr_len {κ : Type} {l : List (κ × D)} {m : List (κ × V)} (h : KVR K F l m) : l.length = m.length := Paired.length h
theorem kvr_map {κ : Type} [DecidableEq κ] {k : κ} {d : D} {v : V} (r : Rp K F d v) : ∀ {l : List (κ × D)} {m : List (κ × V)}, KVR K F l m →
    KVR K F (l.map fun kv => if kv.1 = k then (kv.1, d) else kv) (m.map fun kv => if kv.1 = k then (kv.1, v) else kv)
  | _, _, .nil => .nil
  | (k1, d1) :: l, (k2, v1) :: m, .cons q t => by
    obtain ⟨e, q⟩ := q
    simp only at e q
    subst e
    rw [List.map_cons, List.map_cons]
    refine .cons ?_ (kvr_map r t)
    by_cases h : k1 = k
    · simp [h, r]
    · simp [h, q]
theorem putK_eq {κ : Type} [DecidableEq κ] (m : List (κ × V)) (k : κ) (v : V) : putK m k v = if (valV m k).isSome = true then m.map fun kv => if kv.1 = k then (kv.1, v) else kv else m ++ [(k, v)] := by
  unfold putK valV
  have e : (m.any fun kv => decide (kv.1 = k)) = ((m.find? fun kv => decide (kv.1 = k)).map (·.2)).isSome := by
    induction m with
    | nil => rfl
    | cons p r ih =>
      by_cases h : p.1 = k
      · simp [List.find?, h]
      · simp [List.find?, h] at ih ⊢
        exact ih
  rw [e]
theorem kvr_put {κ : Type} [DecidableEq κ] {k : κ} {d : D} {v : V} (r : Rp K F d v) {l : List (κ × D)} {m : List (κ × V)} (h : KVR K F l m) : KVR K F (dput l k d) (putK m k v) := by
  unfold dput
  rw [putK_eq]
  rcases kvr_find (k := k) h with ⟨e1, e2⟩ | ⟨d1, v1, e1, e2, _⟩
  · rw [e1, e2]
    exact kvr_append h (.cons ⟨rfl, r⟩ .nil)
  · rw [e1, e2]
    exact kvr_map r h
theorem dLook_get (s : SR K F M H) {p : Addr} {y : D} {v : V} {o : Option D} (r : Rp K F y v) (h : dLook M p y = some o) :
    ∃ o', DGet H p v o' ∧ ((o = none ∧ o' = none) ∨ ∃ d w, o = some d ∧ o' = some w ∧ Rp K F d w) := by
  unfold dLook at h
  split at h
  · rename_i kvs hm
    obtain ⟨k, hk, e⟩ := Option.map_eq_some_iff.mp h
    obtain ⟨u, h1, h2⟩ := s.mu p _ hm
    cases h2 with
    | dK r2 z =>
      refine ⟨_, (keyOf_rp r hk) ▸ DGet.k (k := k) h1, ?_⟩
      rcases kvr_find (k := k) r2 with ⟨e1, e2⟩ | ⟨d1, v1, e1, e2, r3⟩
      · exact .inl ⟨by rw [← e, e1], e2⟩
      · exact .inr ⟨d1, v1, by rw [← e, e1], e2, r3⟩
  · rename_i kvs hm
    split at h
    · rename_i l
      obtain ⟨k, hk, e⟩ := Option.map_eq_some_iff.mp h
      obtain ⟨u, h1, h2⟩ := s.mu p _ hm
      cases r with
      | tup ha rl =>
        have hx := keysOf_rp rl hk
        subst hx
        cases h2 with
        | dT r2 z _ =>
          refine ⟨_, DGet.t (k := k) h1 (s.fz _ _ ha), ?_⟩
          rcases kvr_find (k := k) r2 with ⟨e1, e2⟩ | ⟨d1, v1, e1, e2, r3⟩
          · exact .inl ⟨by rw [← e, e1], e2⟩
          · exact .inr ⟨d1, v1, by rw [← e, e1], e2, r3⟩
    · cases h
  · cases h
/-- a frozen dict, asked for y -/
def dkLook : D → D → Option (Option D)
  | .dk ks l, y => (keyOf y).map fun k => dval (ks.zip l) k
  | .dt ks l, .tup m => (keysOf m).map fun k => dval (ks.zip l) k
  | _, _ => none
theorem kvr_zip {κ : Type} : ∀ {ps : List (κ × V)} {l : List D}, RpL K F l (ps.map (·.2)) → KVR K F ((ps.map (·.1)).zip l) ps
  | [], _, .nil => .nil
  | (k, v) :: ps, d :: l, .cons r t => .cons ⟨rfl, r⟩ (kvr_zip t)
theorem dkLook_get (s : SR K F M H) {x y : D} {u v : V} {o : Option D} (rx : Rp K F x u) (r : Rp K F y v) (h : dkLook x y = some o) :
    ∃ p o', u = .ref p ∧ DGet H p v o' ∧ ((o = none ∧ o' = none) ∨ ∃ d w, o = some d ∧ o' = some w ∧ Rp K F d w) := by
  cases rx with
  | dk a b =>
    rename_i p ps l
    simp only [dkLook] at h
    obtain ⟨k, hk, e⟩ := Option.map_eq_some_iff.mp h
    refine ⟨p, valV ps k, rfl, .inl ⟨ps, k, s.dz _ _ a, keyOf_rp r hk, rfl⟩, ?_⟩
    rcases kvr_find (k := k) (kvr_zip b) with ⟨e1, e2⟩ | ⟨d1, v1, e1, e2, r3⟩
    · exact .inl ⟨by rw [← e, e1], e2⟩
    · exact .inr ⟨d1, v1, by rw [← e, e1], e2, r3⟩
  | dt a b =>
    rename_i p ps l
    cases y with
    | tup m =>
      simp only [dkLook] at h
      obtain ⟨k, hk, e⟩ := Option.map_eq_some_iff.mp h
      cases r with
      | tup ha rl =>
        have hx := keysOf_rp rl hk
        subst hx
        refine ⟨p, valV ps k, rfl, .inr ⟨ps, k, _, s.dz _ _ a, rfl, s.fz _ _ ha, rfl⟩, ?_⟩
        rcases kvr_find (k := k) (kvr_zip b) with ⟨e1, e2⟩ | ⟨d1, v1, e1, e2, r3⟩
        · exact .inl ⟨by rw [← e, e1], e2⟩
        · exact .inr ⟨d1, v1, by rw [← e, e1], e2, r3⟩
    | _ => simp [dkLook] at h
  | _ => simp [dkLook] at h
/-- what M says behind a store -/
def dStore (M : Mp) (p : Addr) (y d : D) : Option Mp := match M p with
  | some (.dK kvs) => (keyOf y).bind fun k => if kvs.length < sizeLine then some (mset M p (.dK (dput kvs k d))) else none
  | some (.dT kvs) => match y with
    | .tup l => (keysOf l).bind fun k => if kvs.length < sizeLine then some (mset M p (.dT (dput kvs k d))) else none
    | _ => none
  | some (.lst l) => match y with
    | .int i => (ixN l.length i).bind fun j => some (mset M p (.lst (l.set j d)))
    | _ => none
  | _ => none
theorem putK_len {κ : Type} [DecidableEq κ] (m : List (κ × V)) (k : κ) (v : V) (h : m.length < sizeLine) : (putK m k v).length ≤ sizeLine := by
  rw [putK_eq]
  split
  · rw [List.length_map]; omega
  · rw [List.length_append]; simp; omega
theorem putK_keys {m : List (List Key × V)} {k : List Key} {v : V} (h : ∀ p ∈ m, p.1.length ≤ sizeLine) (hk : k.length ≤ sizeLine) : ∀ p ∈ putK m k v, p.1.length ≤ sizeLine := by
  rw [putK_eq]
  split
  · intro p hp
    obtain ⟨q, h1, h2⟩ := List.mem_map.mp hp
    subst h2
    have := h q h1
    split <;> exact this
  · intro p hp
    rcases List.mem_append.mp hp with h1 | h1
    · exact h p h1
    · rw [List.mem_singleton] at h1
      subst h1
      exact hk
theorem dStore_put (s : SR K F M H) {p : Addr} {y d : D} {v w : V} {M' : Mp} (r : Rp K F y v) (rd : Rp K F d w) (h : dStore M p y d = some M') :
    (∃ H', DPut H p v w H' ∧ SR K F M' H') ∨ ∃ xs k j, v = .int k ∧ H p = some (.lst xs) ∧ ixN xs.length k = some j ∧ SR K F M' (upd H p (.lst (xs.set j w))) := by
  unfold dStore at h
  split at h
  · rename_i kvs hm
    obtain ⟨k, hk, e⟩ := Option.bind_eq_some_iff.mp h
    split at e
    · rename_i hl
      cases e
      obtain ⟨u, h1, h2⟩ := s.mu p _ hm
      cases h2 with
      | dK r2 z =>
        rename_i ps
        have hl2 : ps.length < sizeLine := kvr_len r2 ▸ hl
        exact .inl ⟨_, (keyOf_rp r hk) ▸ DPut.k (k := k) h1 hl2, s.putM hm (.dK (kvr_put rd r2) (putK_len _ _ _ hl2))⟩
    · cases e
  · rename_i kvs hm
    split at h
    · rename_i l
      obtain ⟨k, hk, e⟩ := Option.bind_eq_some_iff.mp h
      split at e
      · rename_i hl
        cases e
        obtain ⟨u, h1, h2⟩ := s.mu p _ hm
        cases r with
        | tup ha rl =>
          have hx := keysOf_rp rl hk
          subst hx
          cases h2 with
          | dT r2 z zz =>
            rename_i ps
            have hl2 : ps.length < sizeLine := kvr_len r2 ▸ hl
            exact .inl ⟨_, DPut.t (k := k) h1 (s.fz _ _ ha) hl2, s.putM hm (.dT (kvr_put rd r2) (putK_len _ _ _ hl2) (putK_keys zz (by have := s.lenT ha; rw [List.length_map] at this; exact this)))⟩
      · cases e
    · cases h
  · rename_i l hm
    split at h
    · rename_i i
      obtain ⟨j, hj, e⟩ := Option.bind_eq_some_iff.mp h
      cases e
      obtain ⟨u, h1, h2⟩ := s.mu p _ hm
      cases h2 with
      | lst r2 z =>
        cases r
        refine .inr ⟨_, i, j, rfl, h1, r2.length ▸ hj, s.putM hm (.lst (r2.set rd j) (by rw [List.length_set]; exact z))⟩
    · cases h
  · cases h
end

/-! ### x[y] -/
/-- an item by place -/
def dAt (x y : D) : Option D := match x, y with
  | .tup l, .int i => atI l i
  | .lst l, .int i => atI l i
  | .kt l, .int i => atI l i
  | .str z, .int i => if z.length ≤ sizeLine then (atI z.cps.toList i).map fun c => .str ⟨#[c]⟩ else none
  | _, _ => none
def dIxV (M : Mp) (x y : D) : Option D := match x with
  | .ref p => (match M p with
    | some (.lst l) => (match y with
      | .int i => atI l i
      | _ => none)
    | _ => (dLook M p y).bind id)
  | .dk ks l => (dkLook (.dk ks l) y).bind id
  | .dt ks l => (dkLook (.dt ks l) y).bind id
  | x => dAt x y
def dIx : DR2 := fun x y M Q => ∃ d, dIxV M x y = some d ∧ Q d M
section
variable {X : Cx} {K : PySem.W.Frag} {F0 : FZ} {a b e o i value : Expr} {ta tb te : TE} {ta' tb' te' : DTE} {pos : Pos}
theorem atI_rp {F : FZ} {ds : List D} {xs : List V} {i : Int} {d : D} (r : RpL K F ds xs) (h : atI ds i = some d) : ∃ v, atI xs i = some v ∧ Rp K F d v := by
  unfold atI at h ⊢
  rw [← r.length]
  obtain ⟨j, h1, h2⟩ := Option.bind_eq_some_iff.mp h
  obtain ⟨v, e, rv⟩ := r.get h2
  exact ⟨v, by rw [h1]; exact e, rv⟩
def rIxAny (K : PySem.W.Frag) : R2 := fun x y H Q => rIx K x y H Q ∨ ∃ a v, x = .ref a ∧ DGet H a y (some v) ∧ Q v H
theorem ix_dict (hu : X.A.units + 1 < cLine) : IxR X (fun x y H Q => ∃ a v, x = .ref a ∧ DGet H a y (some v) ∧ Q v H) := by
  intro value slice pins s σ H x y v u Q I rx ry h hs
  obtain ⟨a, w, rfl, g, q⟩ := h
  obtain rfl : v = Value.ref a := rx
  have hT := dict_typeIs I g
  have h2 : wpAny (model X.prog X.w) X.A (getItem (.ref a) u) (EP X pins σ Q) X.xe s := d_getItem hu I g ry fun w' s3 I3 rw' => ⟨w, H, I3, rw', q⟩
  unfold subscriptTail
  refine wpAny_bind ?_
  rw [getitemInPython_of_ne hT.not_modules]
  refine wpAny_bind (wpAny_specialOf hT PySem.F.slot_dict_getitem.lookup ?_)
  have fin : wpAny (model X.prog X.w) X.A (subscripted slice false (.ref a) u) (fun r s₃ => wpAny (model X.prog X.w) X.A (letTemporaryGo value (.ref a) r >>= fun _ => pure r) (EP X pins σ Q) X.xe s₃) X.xe s := by
    rw [hs]
    exact wpAny_operating (wpAny_mono h2 (fun r s₃ h₃ => wpAny_bind (wpAny_letTemporaryGo (wpAny_pure h₃))) fun _ _ x => x)
  first
    | exact wpAny_pure (wpAny_bind fin)
    | exact wpAny_bind (wpAny_pure (wpAny_bind fin))
    | exact wpAny_bind fin
theorem ix_any (hu : X.A.units + 1 < cLine) : IxR X (rIxAny X.K) := ix_seq.or (ix_dict hu)
theorem dAt_rp {F : FZ} {M : Mp} {H : Hp} {d e r : D} {x y : V} {Q : VK} (s : SR K F M H) (r1 : Rp K F d x) (r2 : Rp K F e y) (hd : dAt d e = some r) (k : ∀ v, Rp K F r v → Q v H) : rIx K x y H Q := by
  cases r1 with
  | tup a b =>
    cases r2 with
    | int i =>
      obtain ⟨v, h1, h2⟩ := atI_rp b (show atI _ i = some r from hd)
      exact .inr (.inl ⟨_, _, _, v, rfl, rfl, s.sqT a, h1, k v h2⟩)
    | _ => exact nomatch hd
  | kt a b =>
    cases r2 with
    | int i =>
      obtain ⟨v, h1, h2⟩ := atI_rp b (show atI _ i = some r from hd)
      exact .inr (.inl ⟨_, _, _, v, rfl, rfl, (s.sqK a), h1, k v h2⟩)
    | _ => exact nomatch hd
  | lst a b =>
    cases r2 with
    | int i =>
      obtain ⟨v, h1, h2⟩ := atI_rp b (show atI _ i = some r from hd)
      exact .inl ⟨_, _, _, v, rfl, rfl, (SqL.of (s.fz _ _ a)), h1, k v h2⟩
    | _ => exact nomatch hd
  | str z =>
    cases r2 with
    | int i =>
      have hd' : (if z.length ≤ sizeLine then (atI z.cps.toList i).map fun c => D.str ⟨#[c]⟩ else none) = some r := hd
      split at hd'
      · rename_i hz
        obtain ⟨c, h1, h2⟩ := Option.map_eq_some_iff.mp hd'
        subst h2
        exact .inr (.inr ⟨z, i, c, rfl, rfl, hz, h1, k _ (.str _)⟩)
      · cases hd'
    | _ => exact nomatch hd
  | _ => exact nomatch hd
theorem l2_ix : L2r K F0 dIx (rIxAny K) := by
  intro F M H d e x y Q' Q e0 s r1 r2 q k
  obtain ⟨r, hr, q⟩ := q
  have kk : ∀ v, Rp K F r v → Q v H := fun v rv => k F r v M H (FLe.refl F) s rv q
  unfold dIxV at hr
  split at hr
  · rename_i p
    cases r1
    split at hr
    · rename_i l hm
      split at hr
      · rename_i i
        cases r2
        obtain ⟨u, h1, h2⟩ := s.mu p _ hm
        cases h2 with
        | lst rl z =>
          obtain ⟨v, h3, h4⟩ := atI_rp rl hr
          exact .inl (.inl ⟨p, _, i, v, rfl, rfl, SqL.of h1, h3, kk v h4⟩)
      · cases hr
    · obtain ⟨o, h1, h2⟩ := Option.bind_eq_some_iff.mp hr
      have h2 : o = some r := h2
      subst h2
      obtain ⟨o', g, c⟩ := dLook_get s r2 h1
      rcases c with ⟨z, _⟩ | ⟨d1, w, z1, z2, rr⟩
      · cases z
      · cases z1
        subst z2
        exact .inr ⟨p, w, rfl, g, kk w rr⟩
  · obtain ⟨o, h1, h2⟩ := Option.bind_eq_some_iff.mp hr
    have h2 : o = some r := h2
    subst h2
    obtain ⟨p, o', rfl, g, c⟩ := dkLook_get s r1 r2 h1
    rcases c with ⟨z, _⟩ | ⟨d1, w, z1, z2, rr⟩
    · cases z
    · cases z1
      subst z2
      exact .inr ⟨p, w, rfl, g, kk w rr⟩
  · obtain ⟨o, h1, h2⟩ := Option.bind_eq_some_iff.mp hr
    have h2 : o = some r := h2
    subst h2
    obtain ⟨p, o', rfl, g, c⟩ := dkLook_get s r1 r2 h1
    rcases c with ⟨z, _⟩ | ⟨d1, w, z1, z2, rr⟩
    · cases z
    · cases z1
      subst z2
      exact .inr ⟨p, w, rfl, g, kk w rr⟩
  · exact .inl (dAt_rp s r1 r2 hr kk)
theorem de_ix {n : Nat} (hr : Room n X.A) (ha : DE X F0 a ta ta') (hb : DE X F0 b tb tb') (hs : PlainIx b := by exact fun _ _ => rfl) : DE X F0 (.Subscript a b pos) (tOp (rIxAny X.K) ta tb) (dOp dIx ta' tb') :=
  ⟨pe_ix (ix_any (hu_of hr)) ha.pe hb.pe hs, le_op l2_ix ha.le hb.le⟩

/-! ### x[y] = v -/
def dSet : DTSet := fun o i v M Q => match o with
  | .ref p => ∃ M', dStore M p i v = some M' ∧ Q M'
  | _ => False
def rSetAny : TSet := fun o i v H Q => rSetL o i v H Q ∨ ∃ a H', o = .ref a ∧ DPut H a i v H' ∧ Q H'
theorem set_any (hu : X.A.units + 1 < cLine) : PSet X rSetAny := by
  intro pins s σ H o i v ov iv u Q I ro ri rv h
  rcases h with h | ⟨a, H', rfl, g, q⟩
  · exact set_list pins s σ H o i v ov iv u Q I ro ri rv h
  · cases ro
    exact d_setItem hu I g ri rv fun s4 I4 => ⟨H', I4, q⟩
theorem l3_set : L3s K F0 dSet rSetAny := by
  intro F M H o i d x y v Q' Q e0 s ro ri rd q k
  unfold dSet at q
  split at q
  · rename_i p
    cases ro
    obtain ⟨M', h1, q⟩ := q
    rcases dStore_put s ri rd h1 with ⟨H', g, s'⟩ | ⟨xs, kk, j, rfl, h2, h3, s'⟩
    · exact .inr ⟨p, H', rfl, g, k F M' H' (FLe.refl F) s' q⟩
    · exact .inl ⟨p, xs, kk, j, rfl, rfl, h2, h3, k F M' _ (FLe.refl F) s' q⟩
  · exact q.elim
theorem dg_sub' {n : Nat} {to ti : TE} {to' ti' : DTE} (hr : Room n X.A) (ho : DE X F0 o to to') (hi : DE X F0 i ti ti')
    (ha : ∀ v, assign (.Subscript o i pos) X.env v = (do
      let ov ← holding [v] (eval o X.env)
      let iv ← holding [v, ov] (eval i X.env)
      standAt pos; holding [v, ov, iv] (setItem ov iv v); release [v, ov, iv] []) := by intro _; rfl) : DG X F0 (.Subscript o i pos) (gSub to ti rSetAny) (hSub to' ti' dSet) := dg_sub ho hi (set_any (hu_of hr)) l3_set ha
end
end DL

set_option maxRecDepth 100000
set_option maxHeartbeats 2000000
namespace DL
open PySem PySem.Spec PyProof.Rows L2

/-! ### defs -/
/-- an exception: its class, its fields (where it has its own dict) -/
abbrev DXK := Value → Option (List (Str × D)) → Mp → Prop
abbrev DSp := List D → Mp → DK → DXK → Prop
def DXK.no : DXK := fun _ _ _ => False
def XR (K : PySem.W.Frag) (F : FZ) (fs : Option (List (Str × D))) (d : Option Addr) (H : Hp) : Prop := match fs, d with
  | none, none => True
  | some l, some a => ∃ gs, H a = some (.xd gs) ∧ KVR K F l gs
  | _, _ => False
def lX (K : PySem.W.Frag) (F : FZ) (E : DXK) : XK := fun c d H => ∃ F1 M fs, FLe F F1 ∧ SR K F1 M H ∧ XR K F1 fs d H ∧ E c fs M
def liftSp (K : PySem.W.Frag) (sp : DSp) : Sp := fun vs H Q E => ∃ F ds M Q' E', SR K F M H ∧ RpL K F ds vs ∧ sp ds M Q' E' ∧
  (∀ F1 d v M1 H1, FLe F F1 → SR K F1 M1 H1 → Rp K F1 d v → Q' d M1 → Q v H1) ∧ ∀ c d H1, lX K F E' c d H1 → E c d H1
def dCall (sp : DSp) (E : DXK) (t : DTA) : DTE := fun γ M Q => t γ M fun ds M1 => sp ds M1 Q E
theorem pass0' {X : Cx} {E : XK} : Passes CX0 X E := fun _ _ _ _ _ _ _ h => h.elim
/-- a def as it is called -/
structure DCal (P : Program) (w : World) (K : PySem.W.Frag) (mg : Str → Option Value) (base : Heap) (CX : CXT) (k : Nat) (x : Str) (sp : DSp) : Prop where
  ex : ∃ f fd ps, FnOk P w K mg base CX k f fd ps (liftSp K sp) ∧ mg x = some (.ref f) ∧ PySem.W.keepIn K (.ref f) = true ∧ Binds K fd ps []
section
variable {P : Program} {w : World} {K : PySem.W.Frag} {mg : Str → Option Value} {base : Heap} {X : Cx} {F0 : FZ} {e : Expr} {es : List Expr} {t : TA} {t' : DTA} {p pos : Pos} {CX : CXT}
/-- what is raised, wherever -/
def lXa (K : PySem.W.Frag) (E : DXK) : XK := fun c d H => ∃ F, lX K F E c d H
structure GoesA (CX : CXT) (X : Cx) (E : DXK) : Prop where
  p : Passes CX X (lXa X.K E)
theorem goes0A {X : Cx} {E : DXK} : GoesA CX0 X E := ⟨pass0'⟩
theorem le_callA {sp : DSp} {E : DXK} (ha : LA K F0 t' t) : LE K F0 (dCall sp E t') (tCall (liftSp K sp) [] (lXa K E) t) := by
  intro F γ M σ H Q' Q e0 s g q k
  refine ha F γ M σ H _ _ e0 s g q fun F1 ds vs M1 H1 e1 s1 r1 q1 => ?_
  rw [List.append_nil]
  exact ⟨F1, ds, M1, Q', E, s1, r1, q1, fun F2 d v M2 H2 e2 s2 r2 q2 => k F2 d v M2 H2 (e1.trans e2) s2 r2 q2, fun c d H1 h => ⟨F1, h⟩⟩
theorem de_call {k j : Nat} {x : Str} {sp : DSp} {E : DXK} (c : DCal X.prog X.w X.K X.mg X.base CX k x sp) (hr : Room j X.A) (hx : GoesA CX X E) (ha : DA X F0 (e :: es) t t') (hk : k ≤ j := by decide) (hg : Gl X x := by rfl)
    (hdb : (x == ("__debug__" : Str)) = false := by decide) (he : starEach (e :: es) X.env = (false, eval e X.env) :: starEach es X.env := by rfl) (hpl : (backTo pos (starEach es X.env)).any (·.1) = false := by rfl) :
    DE X F0 (.Call (.Name x p) (e :: es) [] pos) (tCall (liftSp X.K sp) [] (lXa X.K E) t) (dCall sp E t') := by
  obtain ⟨f, fd, ps, G, hm, hkp, hb⟩ := c.ex
  exact ⟨pe_call G (hr.mono hk) hg hm hkp hb .nil hx.p ha.pa hdb he hpl, le_callA ha.le⟩
theorem de_call0 {k j : Nat} {x : Str} {sp : DSp} {E : DXK} (c : DCal X.prog X.w X.K X.mg X.base CX k x sp) (hr : Room j X.A) (hx : GoesA CX X E) (hk : k ≤ j := by decide) (hg : Gl X x := by rfl)
    (hdb : (x == ("__debug__" : Str)) = false := by decide) : DE X F0 (.Call (.Name x p) [] [] pos) (tCall (liftSp X.K sp) [] (lXa X.K E) tNil) (dCall sp E dNil) := by
  obtain ⟨f, fd, ps, G, hm, hkp, hb⟩ := c.ex
  exact ⟨pe_call0 G (hr.mono hk) hg hm hkp hb .nil hx.p hdb, le_callA (da_nil (X := X) (F0 := F0)).le⟩
def fin (Q : DK) (d : D) (M1 : Mp) : Prop := ∃ M2, MLe M2 M1 ∧ Q d M2
def dstart (N : List Str) (ds : List D) : G := ds.map some ++ List.replicate (N.length - ds.length) none
theorem gr_start {F : FZ} {N : List Str} {ds : List D} {vs : List V} (r : RpL K F ds vs) : GR K F (dstart N ds) (L2.start N vs) := by
  have hl := r.length
  refine ⟨by simp [dstart, L2.start, hl], fun i d h => ?_⟩
  unfold dstart at h
  unfold L2.start
  by_cases hi : i < ds.length
  · rw [List.getElem?_append_left (by simpa using hi), List.getElem?_map] at h
    obtain ⟨d', h1, h2⟩ := Option.map_eq_some_iff.mp h
    cases h2
    obtain ⟨v, h3, h4⟩ := r.get h1
    exact ⟨v, by rw [List.getElem?_append_left (by simpa [← hl] using hi), List.getElem?_map, h3]; rfl, h4⟩
  · rw [List.getElem?_append_right (by simpa using hi)] at h
    rw [List.getElem?_replicate] at h
    split at h <;> cases h
/-- a def of the text as it stands behind the top -/
structure DFun (K : PySem.W.Frag) (mg : Str → Option Value) (x : Str) (st : Stmt) (ps : List Str) : Prop where
  ex : ∃ f fd, Fun K x x st f fd ∧ mg x = some (.ref f) ∧ Binds K fd ps []
theorem dok {x : Str} {st : Stmt} {N ps : List Str} {k : Nat} {sp : DSp} (F : DFun K mg x st ps) (S : FnScope N ps (defScope st)) (len : ∀ ds M Q E, sp ds M Q E → ds.length = ps.length)
    (hbody : ∀ (f : Addr) (cdv : Value) (A : Around) (outer : List Env) (s : Shared) (H : Hp) (E : XK) (F0 : FZ), Room k (A.deeper (envOfC x (defScope st) s.heap.objs.size f cdv)) →
      ∃ t t', DB (cxOf CX0 P w K mg base N x (defScope st) f cdv A outer s H E).nox F0 (defBody st) t t' ∧ ∀ ds M Q' E', sp ds M Q' E' → t' { nx := fun _ M1 => fin Q' .non M1, rt := fin Q' } (dstart N ds) M) : DCal P w K mg base CX0 (k + 1) x sp := by
  obtain ⟨f, fd, G, hm, hb⟩ := F.ex
  refine ⟨f, fd, ps, ?_, hm, G.kp, hb⟩
  refine G.ok S (fun vs H Q E h => ?_) (fun cdv A outer s H vs Q E hr h => ?_)
  · obtain ⟨F, ds, M, Q', E', _, r, q, _⟩ := h
    rw [← r.length]; exact len _ _ _ _ q
  · obtain ⟨F, ds, M, Q', E', s1, r, q, kq, _⟩ := h
    obtain ⟨t, t', d, h⟩ := hbody f cdv A outer s H E F hr
    refine ⟨t, d.ps, d.le F (dstart N ds) M (L2.start N vs) H { nx := fun _ M1 => fin Q' .non M1, rt := fin Q' } { nx := fun _ H' => Q .non H', rt := Q } (Bs.refl _) s1 (gr_start r) (h ds M Q' E' q) ⟨?_, ?_, fun _ _ _ _ _ _ _ _ z => z.elim, fun _ _ _ _ _ _ _ _ z => z.elim⟩⟩
    · rintro F1 γ1 M1 σ1 H1 e1 s1 g1 ⟨M2, l, q⟩
      exact kq F1 .non .non M2 H1 e1 (s1.less l) .non q
    · rintro F1 d1 v1 M1 H1 e1 s1 r1 ⟨M2, l, q⟩
      exact kq F1 d1 v1 M2 H1 e1 (s1.less l) r1 q
/-- a def whose errors have no context -/
theorem fun_okN {x qual : Str} {st : Stmt} {f : Addr} {fd : FuncData} {N ps : List Str} {k : Nat} {sp : Sp} (G1 : Fun K x qual st f fd) (S : FnScope N ps (defScope st)) (len : ∀ vs H Q E, sp vs H Q E → vs.length = ps.length)
    (body : ∀ (cdv : Value) (A : Around) (outer : List Env) (s : Shared) (H : Hp) (vs : List V) (Q : VK) (E : XK), Room k (A.deeper (envOfC qual (defScope st) s.heap.objs.size f cdv)) → sp vs H Q E →
      ∃ t, PSs (cxOf (L2N.CX P w) P w K mg base N qual (defScope st) f cdv A outer s H E) (defBody st) t ∧ t { nx := fun _ H' => Q .non H', rt := Q } (L2.start N vs) H) : FnOk P w K mg base (L2N.CX P w) (k + 1) f fd ps sp := by
  obtain ⟨_, _, _, _, _, _, cdv, _, _, rfl, l1, l2⟩ := G1.ex
  exact fn_of l1 l2 S len fun A outer s H vs Q E r1 q1 => body cdv A outer s H vs Q E r1 q1
/-- .. one that may raise -/
theorem dokX {x : Str} {st : Stmt} {N ps : List Str} {k : Nat} {sp : DSp} (F : DFun K mg x st ps) (S : FnScope N ps (defScope st)) (len : ∀ ds M Q E, sp ds M Q E → ds.length = ps.length)
    (hbody : ∀ (f : Addr) (cdv : Value) (A : Around) (outer : List Env) (s : Shared) (H : Hp) (E : XK) (F0 : FZ) (E' : DXK), Room k (A.deeper (envOfC x (defScope st) s.heap.objs.size f cdv)) → (∀ c d H1, lX K F0 E' c d H1 → E c d H1) →
      ∃ t t', DB (cxOf (L2N.CX P w) P w K mg base N x (defScope st) f cdv A outer s H E) F0 (defBody st) t t' ∧ ∀ ds M Q', sp ds M Q' E' → t' { nx := fun _ M1 => fin Q' .non M1, rt := fin Q' } (dstart N ds) M) : DCal P w K mg base (L2N.CX P w) (k + 1) x sp := by
  obtain ⟨f, fd, G, hm, hb⟩ := F.ex
  refine ⟨f, fd, ps, ?_, hm, G.kp, hb⟩
  refine fun_okN G S (fun vs H Q E h => ?_) (fun cdv A outer s H vs Q E hr h => ?_)
  · obtain ⟨F, ds, M, Q', E', _, r, q, _⟩ := h
    rw [← r.length]; exact len _ _ _ _ q
  · obtain ⟨F, ds, M, Q', E', s1, r, q, kq, xq⟩ := h
    obtain ⟨t, t', d, h⟩ := hbody f cdv A outer s H E F E' hr xq
    refine ⟨t, d.ps, d.le F (dstart N ds) M (L2.start N vs) H { nx := fun _ M1 => fin Q' .non M1, rt := fin Q' } { nx := fun _ H' => Q .non H', rt := Q } (Bs.refl _) s1 (gr_start r) (h ds M Q' q) ⟨?_, ?_, fun _ _ _ _ _ _ _ _ z => z.elim, fun _ _ _ _ _ _ _ _ z => z.elim⟩⟩
    · rintro F1 γ1 M1 σ1 H1 e1 s1 g1 ⟨M2, l, q⟩
      exact kq F1 .non .non M2 H1 e1 (s1.less l) .non q
    · rintro F1 d1 v1 M1 H1 e1 s1 r1 ⟨M2, l, q⟩
      exact kq F1 d1 v1 M2 H1 e1 (s1.less l) r1 q
end

/-! ### list comprehensions -/
def dwipe (γ : G) : List Nat → G
  | [] => γ
  | v :: vs => (dwipe γ vs).set v none
/-- a target whose names are among those -/
def GW (vs : List Nat) (g : TG) : Prop := ∀ x σ H (Q : L2.St → Hp → Prop), g x σ H Q → g x σ H fun σ2 H2 => wipe σ2 vs = wipe σ vs ∧ Q σ2 H2
theorem wipe_set {i : Nat} {v : Option V} : ∀ {vs : List Nat} {σ : L2.St}, i ∈ vs → wipe (σ.set i v) vs = wipe σ vs
  | w :: vs, σ, h => by
    show (wipe (σ.set i v) vs).set w none = (wipe σ vs).set w none
    by_cases hi : i ∈ vs
    · rw [wipe_set hi]
    · have e : i = w := by
        rcases List.mem_cons.mp h with e | h
        · exact e
        · exact absurd h hi
      subst e
      have out : ∀ {us : List Nat} {σ : L2.St}, ¬ i ∈ us → wipe (σ.set i v) us = (wipe σ us).set i v := by
        intro us
        induction us with
        | nil => intro σ _; rfl
        | cons u us ih =>
          intro σ hu
          show (wipe (σ.set i v) us).set u none = ((wipe σ us).set u none).set i v
          rw [ih (fun z => hu (List.mem_cons_of_mem _ z)), List.set_comm _ _ (fun z => hu (by rw [z]; exact List.mem_cons_self))]
      rw [out hi, List.set_set]
theorem gw_name {vs : List Nat} {i : Nat} (h : i ∈ vs) : GW vs (gName i) := fun x σ H Q q => ⟨wipe_set h, q⟩
theorem gr_wipe {K : PySem.W.Frag} {F : FZ} {γ : G} {σ : L2.St} (h : GR K F γ σ) : ∀ vs : List Nat, GR K F (dwipe γ vs) (wipe σ vs)
  | [] => h
  | v :: vs => by
    have ih := gr_wipe h vs
    refine ⟨by simp [dwipe, wipe, ih.len], fun i d q => ?_⟩
    have q' : ((dwipe γ vs).set v none)[i]? = some (some d) := q
    show ∃ w, ((wipe σ vs).set v none)[i]? = some (some w) ∧ Rp K F d w
    by_cases hj : v = i
    · subst hj
      by_cases hl : v < (dwipe γ vs).length
      · rw [List.getElem?_set_self hl] at q'; cases q'
      · rw [List.getElem?_eq_none (by simpa using hl)] at q'; cases q'
    · rw [List.getElem?_set_ne hj] at q' ⊢
      exact ih.at' i d q'
structure DTs (X : Cx) (F0 : FZ) (ifs : List Expr) (t : TT) (t' : DTT) : Prop where
  pt : PTs X ifs t
  le : LT X.K F0 t' t
def dYes : DTT := fun _ M Q => Q true M
section
variable {X : Cx} {K : PySem.W.Frag} {F0 : FZ}
theorem dts_nil : DTs X F0 [] tYes dYes := ⟨pts_nil, fun F γ M σ H Q' Q e0 s g q k => k F true M H (FLe.refl F) s q⟩
theorem dts_one {c : Expr} {t : TT} {t' : DTT} (h : DT X F0 c t t') : DTs X F0 [c] t t' := ⟨pts_one h.pt, h.le⟩
def dLcI (g : DTG) (tt : DTT) (te : DTE) (vs : List Nat) (γ : G) (items : List D) (M1 : Mp) (Q : DK) : Prop := ∃ I : Nat → List D → Mp → Prop, I 0 [] M1 ∧
  (∀ i d acc M, items[i]? = some d → I i acc M → g d (dwipe γ vs) M fun γ2 M2 => tt γ2 M2 fun b M3 => if b = true then te γ2 M3 fun y M4 => I (i + 1) (acc ++ [y]) M4 else I (i + 1) acc M3) ∧
  ∀ acc M, I items.length acc M → Q (.lst acc) M
def dLc (wi : DTI) (g : DTG) (tt : DTT) (te : DTE) (vs : List Nat) : DTE := fun γ M Q => wi γ M fun items M1 => items.length ≤ sizeLine ∧ dLcI g tt te vs γ items M1 Q
theorem wipe_wipe (σ : L2.St) (vs : List Nat) : wipe (wipe σ vs) vs = wipe σ vs := by
  have key : ∀ us : List Nat, (∀ i ∈ us, i ∈ vs) → wipe (wipe σ us) vs = wipe σ vs := by
    intro us
    induction us with
    | nil => intro _; rfl
    | cons u us ih =>
      intro h
      show wipe ((wipe σ us).set u none) vs = wipe σ vs
      rw [wipe_set (h u List.mem_cons_self), ih fun i hi => h i (List.mem_cons_of_mem _ hi)]
  exact key vs fun _ h => h
def LcW (K : PySem.W.Frag) (F1 : FZ) (L : Addr) (I : Nat → List D → Mp → Prop) (i : Nat) (H : Hp) : Prop := ∃ F2 M2 acc xs, FLe F1 F2 ∧ SR K F2 M2 H ∧ F2.f L = none ∧ M2 L = none ∧ H L = some (.lst xs) ∧ RpL K F2 acc xs ∧ acc.length ≤ i ∧ I i acc M2
theorem le_lc {wi : TI} {wi' : DTI} {g : TG} {g' : DTG} {tt : TT} {tt' : DTT} {te : TE} {te' : DTE} {vs : List Nat} (hi : LI K F0 wi' wi) (hg : LG K F0 g' g) (hw : GW vs g) (ht : LT K F0 tt' tt) (he : LE K F0 te' te) :
    LE K F0 (dLc wi' g' tt' te' vs) (tLc wi g tt te vs) := by
  intro F γ M σ H Q' Q e0 s gr q k
  refine hi F γ M σ H _ _ e0 s gr q fun F1 items J M1 H1 e1 s1 j1 q1 => ?_
  obtain ⟨hlen, I, h0, step, done⟩ := q1
  intro D hD
  have hDF := s1.freeF hD
  have hDM := s1.freeM hD
  have hDP := s1.freeP hD
  refine ⟨fun i m H => m = items.length - i ∧ i ≤ items.length ∧ LcW K F1 D I i H, ⟨items.length, by simp, Nat.zero_le _, ?_⟩, ?_⟩
  · refine ⟨F1, M1, [], [], FLe.refl _, s1.other hD, hDF, hDM, upd_same, .nil, Nat.le_refl _, h0⟩
  · rintro i m H2 ⟨rfl, hi2, F2, M2, acc, xs, e2, s2, dF, dM, hl, rl, al, i2⟩
    have dP : F2.p D = none := by rw [e2.e]; exact hDP
    by_cases hlt : i < items.length
    · have hd : items[i]? = some items[i] := List.getElem?_eq_getElem hlt
      have sh := s2.hide dF dM hl (fun _ z => by cases z) (s2.noL hl)
      obtain ⟨go, y⟩ := (j1 i (F2.hide D (.lst xs)) M2 H2 (bj_hide e2 hDP) sh).2 _ hd
      refine .inr ⟨go, LcW K F1 D I (i + 1), fun H' h => ⟨items.length - (i + 1), by omega, rfl, hlt, h⟩, fun x H3 yy => ?_⟩
      obtain ⟨F3, e3, s3, r3⟩ := y x H3 yy
      have b3 : Sm F2 F3 := e3.s
      have a3 : Bs F0 F3 := ⟨((e0.tr e1).tr e2).f.trans' b3, ((e0.tr e1).tr e2).p.trans (fun b o h => by rw [e3.e]; exact (upd_ne (ne_of_none h dP)).trans h)⟩
      have back : ∀ {F5 : FZ} {M5 : Mp} {H5 : Hp} (o : HO), FLe F3 F5 → SR K F5 M5 H5 → SR K ⟨F5.f, F2.p, F5.d⟩ M5 (upd H5 D o) ∧ H5 D = some (.lst xs) ∧ F5.f D = none ∧ M5 D = none := fun o e5 s5 =>
        s5.unhide (o := .lst xs) (by rw [e5.e, e3.e]; rfl) dP
      have step' := step i _ acc M2 hd i2
      have r0 : RpL K F3 acc xs := rl.monoS b3
      have lt1 : xs.length < sizeLine := by rw [← r0.length]; omega
      have main := hw x (wipe σ vs) H3 _ (hg F3 (dwipe γ vs) M2 (wipe σ vs) H3 _ x _ (fun σ2 H2 => tt σ2 H2 fun b H3 => if b = true then te σ2 H3 fun y H4 => ∃ acc, H4 D = some (.lst acc) ∧ acc.length < sizeLine ∧ LcW K F1 D I (i + 1) (upd H4 D (.lst (acc ++ [y]))) else LcW K F1 D I (i + 1) H3)
        a3 s3 (gr_wipe (gr.monoS ((e1.s.trans' e2.s).trans' b3)) vs) r3 step' fun F4 γ4 M4 σ4 H4 e4 s4 g4 q4 =>
        ht F4 γ4 M4 σ4 H4 _ _ (a3.tr e4) s4 g4 q4 fun F5 b M5 H5 e5 s5 q5 => by
          cases b with
          | false =>
            obtain ⟨z1, z2, z3, z4⟩ := back (.lst xs) (e4.trans e5) s5
            have eq : upd H5 D (.lst xs) = H5 := by
              funext b
              by_cases hb : b = D
              · subst hb; rw [upd_same, z2]
              · rw [upd_ne hb]
            rw [eq] at z1
            exact ⟨⟨F5.f, F2.p, F5.d⟩, M5, acc, xs, ⟨(e2.s.trans' b3).trans' (e4.trans e5).s, e2.e⟩, z1, z3, z4, z2, RpL.monoS (F := F3) (F' := ⟨F5.f, F2.p, F5.d⟩) (e4.trans e5).s r0, Nat.le_succ_of_le al, q5⟩
          | true =>
            refine he F5 γ4 M5 σ4 H5 _ _ ((a3.tr e4).tr e5) s5 (g4.mono e5) q5 fun F6 d v M6 H6 e6 s6 r6 q6 => ?_
            obtain ⟨z1, z2, z3, z4⟩ := back (.lst (xs ++ [v])) ((e4.trans e5).trans e6) s6
            refine ⟨xs, z2, lt1, ⟨F6.f, F2.p, F6.d⟩, M6, acc ++ [d], xs ++ [v], ⟨(e2.s.trans' b3).trans' ((e4.trans e5).trans e6).s, e2.e⟩, z1, z3, z4, upd_same, RpL.append (RpL.monoS (F := F3) (F' := ⟨F6.f, F2.p, F6.d⟩) ((e4.trans e5).trans e6).s r0) (.cons (Rp.monoS (F := F6) (F' := ⟨F6.f, F2.p, F6.d⟩) Sm.rfl' r6) .nil), ?_, q6⟩
            rw [List.length_append]
            simp
            omega)
      rw [wipe_wipe] at main
      exact main
    · have e : i = items.length := by omega
      subst e
      refine .inl ⟨((j1 items.length F2 M2 H2 e2.bj s2).1 (Nat.le_refl _)), ?_⟩
      have hz : xs.length ≤ sizeLine := by rw [← rl.length]; omega
      have e3 := same_upd (o := .lst xs) dF
      exact k (F2.put D (.lst xs)) (.lst acc) (.ref D) M2 H2 ((e1.trans e2).trans e3) (s2.adopt dF dP dM hl hz) (.lst upd_same (rl.mono e3)) (done acc M2 i2)
end
end DL

set_option maxRecDepth 100000
set_option maxHeartbeats 2000000
namespace DL
open PySem PySem.Spec PyProof.Rows L2

section
variable {X : Cx} {K : PySem.W.Frag} {F0 : FZ} {tg e e2 : Expr} {te : TE} {te' : DTE} {pos p : Pos}
theorem jr_of {F : FZ} {items : List D} {J : It} {G : Hp → Prop} {Y : Nat → Hp → V → Hp → Prop} (w : Walk J items.length G Y) (hg : ∀ F1 M1 H1, Bj F F1 → SR K F1 M1 H1 → G H1)
    (hst : ∀ i H, items.length ≤ i → G H → J.stop i H)
    (hy : ∀ i d F1 M1 H1 x H2, Bj F F1 → SR K F1 M1 H1 → items[i]? = some d → Y i H1 x H2 → ∃ F2, FLe F1 F2 ∧ SR K F2 M1 H2 ∧ Rp K F2 d x) : JR K F items J := fun i F1 M1 H1 e s =>
  ⟨fun h => hst i H1 h (hg F1 M1 H1 e s), fun d hd =>
    have hlt : i < items.length := (List.getElem?_eq_some_iff.mp hd).1
    ⟨w.goes i H1 hlt (hg F1 M1 H1 e s), fun x H2 y => hy i d F1 M1 H1 x H2 e s hd (w.yields i H1 x H2 hlt (hg F1 M1 H1 e s) y)⟩⟩
theorem jr_list {F : FZ} {a : Addr} {xs : List V} {ds : List D} (h : SqL K F.f a xs) (r : RpL K F ds xs) : JR K F ds (Itl K a) := by
  have hl := r.length
  refine jr_of (G := fun H => SqL K H a xs) (Y := YAt xs) (by rw [hl]; exact walk_list) (fun F1 M1 H1 e s => s.fz.seq (e.f.1.seq h)) (fun i H hi q => ⟨xs, q, by omega⟩) fun i d F1 M1 H1 x H2 e s hd y => ?_
  obtain ⟨e2, hx⟩ := y
  subst e2
  obtain ⟨v, h1, h2⟩ := r.get hd
  rw [hx] at h1; cases h1
  exact ⟨F1, FLe.refl _, s, Rp.monoS e.f h2⟩
theorem jr_tup {F : FZ} {a : Addr} {xs : List V} {ds : List D} (h : ∀ H, Same F.f H → SqT K H a xs) (r : RpL K F ds xs) : JR K F ds (Itt K a) := by
  have hl := r.length
  refine jr_of (G := fun H => SqT K H a xs) (Y := YAt xs) (by rw [hl]; exact walk_tup) (fun F1 M1 H1 e s => h _ (e.f.1.trans s.fz)) (fun i H hi q => ⟨xs, q, by omega⟩) fun i d F1 M1 H1 x H2 e s hd y => ?_
  obtain ⟨e2, hx⟩ := y
  subst e2
  obtain ⟨v, h1, h2⟩ := r.get hd
  rw [hx] at h1; cases h1
  exact ⟨F1, FLe.refl _, s, Rp.monoS e.f h2⟩
/-- a frozen list, a tuple, a text -/
def iSeq (K : PySem.W.Frag) (tl : TE) : TI := fun σ H R => tl σ H fun x H1 => (∃ a, x = .ref a ∧ (∃ xs, SqL K H1 a xs) ∧ R (Itl K a) H1) ∨ (∃ a, x = .ref a ∧ (∃ xs, SqT K H1 a xs) ∧ R (Itt K a) H1)
theorem pi_seq {l : Expr} {tl : TE} (hl : PE X l tl) : PI X tg l (iSeq X.K tl) := by
  refine ⟨fun pins s σ H R I h => ?_⟩
  refine thn (hl.run pins s σ H _ I h) fun v s1 ⟨x, H1, I1, r1, q1⟩ => ?_
  rcases q1 with ⟨a, e, ⟨xs, hq⟩, q⟩ | ⟨a, e, ⟨xs, hq⟩, q⟩
  · subst e
    cases r1
    obtain ⟨its, rv, p, hz⟩ := I1.list hq
    refine wpAny_pyIter_list p.isList ?_
    refine ⟨s1.heap.objs.size, [s1.heap.objs.size], _, _, H1, rfl, I1.kept (t' := s1.toks) fun b o e => Heap.get?_push_of_some _ e, turn_list a _, ⟨_, Heap.get?_push_size _ rfl, rfl, rfl⟩, fun b hb => ?_, q⟩
    have e : b = s1.heap.objs.size := by simpa using hb
    subst e
    exact I1.fpOk (Nat.le_refl _) (I1.hok.fresh (Nat.le_refl _))
  · subst e
    cases r1
    obtain ⟨its, rv, p, hz⟩ := I1.tuple hq
    refine wpAny_pyIter_tuple (show s1.heap.IsTuple a its.toArray from p) ?_
    refine ⟨s1.heap.objs.size, [s1.heap.objs.size], _, _, H1, rfl, I1.kept (t' := s1.toks) fun b o e => Heap.get?_push_of_some _ e, turn_tuple a _, ⟨_, Heap.get?_push_size _ rfl, rfl, rfl⟩, fun b hb => ?_, q⟩
    have e : b = s1.heap.objs.size := by simpa using hb
    subst e
    exact I1.fpOk (Nat.le_refl _) (I1.hok.fresh (Nat.le_refl _))
def jSeq (te : DTE) : DTI := fun γ M R => te γ M fun d M1 => match d with
  | .lst l => R l M1
  | .tup l => R l M1
  | .kt l => R l M1
  | _ => False
theorem di_seq (h : DE X F0 e te te') : DI X F0 tg e (iSeq X.K te) (jSeq te') := ⟨pi_seq h.pe, fun F γ M σ H R' R e0 s g q k => by
  refine h.le F γ M σ H _ _ e0 s g q fun F1 d v M1 H1 e1 s1 r1 q1 => ?_
  cases r1 with
  | lst a b => exact .inl ⟨_, rfl, ⟨_, (SqL.of (s1.fz _ _ a))⟩, k F1 _ _ M1 H1 e1 s1 (jr_list (SqL.of a) b) q1⟩
  | tup a b => exact .inr ⟨_, rfl, ⟨_, s1.sqT a⟩, k F1 _ _ M1 H1 e1 s1 (jr_tup (fun H e => .inl (.inl (e _ _ a))) b) q1⟩
  | kt a b => exact .inr ⟨_, rfl, ⟨_, s1.sqK a⟩, k F1 _ _ M1 H1 e1 s1 (jr_tup (fun H e => a.sq e) b) q1⟩
  | _ => exact False.elim q1⟩
/-- lo, lo + 1, .. -/
def rgD (lo : Int) (n : Nat) : List D := (List.range n).map fun i => .int (lo + (i : Nat))
theorem rgD_len {lo : Int} {n : Nat} : (rgD lo n).length = n := by simp [rgD]
theorem rgD_get {lo : Int} {n i : Nat} {d : D} (h : (rgD lo n)[i]? = some d) : i < n ∧ d = .int (lo + (i : Nat)) := by
  unfold rgD at h
  rw [List.getElem?_map] at h
  obtain ⟨j, h1, h2⟩ := Option.map_eq_some_iff.mp h
  have h3 := List.getElem?_eq_some_iff.mp h1
  obtain ⟨h4, h5⟩ := h3
  simp at h4 h5
  subst h5
  exact ⟨h4, h2.symm⟩
theorem jr_range {F : FZ} {lo : Int} {n : Nat} : JR K F (rgD lo n) (Itr lo n) := by
  refine jr_of (G := fun _ => True) (Y := YFn fun i => .int (lo + i)) (by rw [rgD_len]; exact walk_range) (fun _ _ _ _ _ => trivial) (fun i H hi _ => by rw [rgD_len] at hi; exact hi) fun i d F1 M1 H1 x H2 e s hd y => ?_
  obtain ⟨e2, hx⟩ := y
  subst e2 hx
  obtain ⟨_, e3⟩ := rgD_get hd
  subst e3
  exact ⟨F1, FLe.refl _, s, .int _⟩
def jRng1 (ta : DTA) : DTI := fun γ M R => ta γ M fun ds M1 => match ds with
  | [.int j] => (-(2 ^ 62) ≤ j ∧ j < 2 ^ 62) ∧ R (rgD 0 j.toNat) M1
  | _ => False
def jRng2 (ta : DTA) : DTI := fun γ M R => ta γ M fun ds M1 => match ds with
  | [.int i, .int j] => (-(2 ^ 62) ≤ i ∧ i < 2 ^ 62 ∧ -(2 ^ 62) ≤ j ∧ j < 2 ^ 62) ∧ R (rgD i (j - i).toNat) M1
  | _ => False
theorem di_range1 {a : Expr} {ta : TA} {ta' : DTA} (hm : X.mg "range" = none) (ha : DA X F0 [a] ta ta') (hg : Gl X "range" := by rfl) (hs : starEach [a] X.env = [(false, eval a X.env)] := by rfl) : DI X F0 tg (.Call (.Name "range" p) [a] [] pos) (iRng1 ta) (jRng1 ta') := ⟨pi_range1 hg hm ha.pa hs, fun F γ M σ H R' R e0 s g q k => by
  refine ha.le F γ M σ H _ _ e0 s g q fun F1 ds vs M1 H1 e1 s1 r1 q1 => ?_
  split at q1
  · cases r1 with
    | cons r1 r2 =>
      cases r2
      cases r1
      exact ⟨_, rfl, q1.1.1, q1.1.2, k F1 _ _ M1 H1 e1 s1 jr_range q1.2⟩
  · exact q1.elim⟩
theorem di_range2 {a b : Expr} {ta : TA} {ta' : DTA} (hm : X.mg "range" = none) (ha : DA X F0 [a, b] ta ta') (hg : Gl X "range" := by rfl) (hs : starEach [a, b] X.env = [(false, eval a X.env), (false, eval b X.env)] := by rfl) (hs2 : starEach [b] X.env = [(false, eval b X.env)] := by rfl) :
    DI X F0 tg (.Call (.Name "range" p) [a, b] [] pos) (iRng2 ta) (jRng2 ta') := ⟨pi_range2 hg hm ha.pa hs hs2, fun F γ M σ H R' R e0 s g q k => by
  refine ha.le F γ M σ H _ _ e0 s g q fun F1 ds vs M1 H1 e1 s1 r1 q1 => ?_
  split at q1
  · cases r1 with
    | cons r1 r2 =>
      cases r2 with
      | cons r2 r3 =>
        cases r3
        cases r1
        cases r2
        exact ⟨_, _, rfl, q1.1, k F1 _ _ M1 H1 e1 s1 jr_range q1.2⟩
  · exact q1.elim⟩
end
end DL

set_option maxRecDepth 100000
set_option maxHeartbeats 2000000
namespace DL
open PySem PySem.Spec PyProof.Rows L2

/-! ### built-in functions -/
abbrev DRC := List D → Mp → DK → Prop
def LC (K : PySem.W.Frag) (F0 : FZ) (r' : DRC) (r : List V → Hp → VK → Prop) : Prop := ∀ (F : FZ) (M : Mp) (H : Hp) (ds : List D) (vs : List V) (Q' : DK) (Q : VK), Bs F0 F → SR K F M H → RpL K F ds vs → r' ds M Q' →
  (∀ F1 d v M1 H1, FLe F F1 → SR K F1 M1 H1 → Rp K F1 d v → Q' d M1 → Q v H1) → r vs H Q
def dCB (r : DRC) (t : DTA) : DTE := fun γ M Q => t γ M fun ds M1 => r ds M1 Q
section
variable {X : Cx} {K : PySem.W.Frag} {F0 : FZ} {e : Expr} {es : List Expr} {t : TA} {t' : DTA} {p pos : Pos} {r : List V → Hp → VK → Prop} {r' : DRC}
theorem le_cb (hl : LC K F0 r' r) (ha : LA K F0 t' t) : LE K F0 (dCB r' t') (tCB r t) := fun F γ M σ H Q' Q e0 s g q k =>
  ha F γ M σ H _ _ e0 s g q fun F1 ds vs M1 H1 e1 s1 r1 q1 => hl F1 M1 H1 ds vs _ _ (e0.tr e1) s1 r1 q1 fun F2 d v M2 H2 e2 s2 r2 q2 => k F2 d v M2 H2 (e1.trans e2) s2 r2 q2
theorem de_blt {x : Str} {id : String} (hc : CallR X (.builtin id) r) (hl : LC X.K F0 r' r) (hm : X.mg x = none) (ha : DA X F0 (e :: es) t t') (hv : bootBuiltins x = some (.builtin id) := by decide +kernel) (hg : Gl X x := by rfl) (hn : x ≠ "__name__" := by decide) (hdb : (x == ("__debug__" : Str)) = false := by decide)
    (he : starEach (e :: es) X.env = (false, eval e X.env) :: starEach es X.env := by rfl) (hpl : (backTo pos (starEach es X.env)).any (·.1) = false := by rfl) : DE X F0 (.Call (.Name x p) (e :: es) [] pos) (tCB r t) (dCB r' t') :=
  ⟨pe_callB hc hg hm hv ha.pa hn hdb he hpl, le_cb hl ha.le⟩
theorem de_bty {x : Str} {T : String} (hc : CallR X (.type T) r) (hl : LC X.K F0 r' r) (hm : X.mg x = none) (ha : DA X F0 (e :: es) t t') (hv : bootBuiltins x = some (.type T) := by decide +kernel) (hg : Gl X x := by rfl) (hn : x ≠ "__name__" := by decide) (hdb : (x == ("__debug__" : Str)) = false := by decide)
    (he : starEach (e :: es) X.env = (false, eval e X.env) :: starEach es X.env := by rfl) (hpl : (backTo pos (starEach es X.env)).any (·.1) = false := by rfl) : DE X F0 (.Call (.Name x p) (e :: es) [] pos) (tCB r t) (dCB r' t') :=
  ⟨pe_callTy hc hg hm hv ha.pa hn hdb he hpl, le_cb hl ha.le⟩
end

def keyD : Key → D
  | .inl i => .int i
  | .inr x => .str x
theorem keyD_rp {K : PySem.W.Frag} {F : FZ} : ∀ k : Key, Rp K F (keyD k) (kV k)
  | .inl i => .int i
  | .inr x => .str x
theorem keysD_rp {K : PySem.W.Frag} {F : FZ} : ∀ ks : List Key, RpL K F (ks.map keyD) (ks.map kV)
  | [] => .nil
  | k :: ks => .cons (keyD_rp k) (keysD_rp ks)
/-- how long a thing is -/
def lenV (M : Mp) : D → Option Nat
  | .lst l => some l.length
  | .tup l => some l.length
  | .kt l => some l.length
  | .str z => if z.length ≤ sizeLine then some z.length else none
  | .ref p => (match M p with
    | some (.lst l) => some l.length
    | some (.dK l) => some l.length
    | some (.dT l) => some l.length
    | _ => none)
  | .dk ks _ => some ks.length
  | _ => none
def dLen : DRC := fun ds M Q => match ds with
  | [d] => ∃ n : Nat, lenV M d = some n ∧ Q (.int n) M
  | _ => False
/-- the items of a list, a tuple, a dict -/
def itemsV (M : Mp) : D → Option (List D)
  | .lst l => some l
  | .tup l => some l
  | .kt l => some l
  | .ref p => (match M p with
    | some (.lst l) => some l
    | some (.dK l) => some (l.map fun kv => keyD kv.1)
    | some (.dT l) => some (l.map fun kv => .tup (kv.1.map keyD))
    | _ => none)
  | .dk ks _ => some (ks.map keyD)
  | .dt ks _ => some (ks.map fun k => .tup (k.map keyD))
  | _ => none
def dList : DRC := fun ds M Q => match ds with
  | [d] => ∃ l, itemsV M d = some l ∧ Q (.lst l) M
  | _ => False
def dListM : DRC := fun ds M Q => match ds with
  | [d] => ∃ l, itemsV M d = some l ∧ ∀ p, M p = none → Q (.ref p) (mset M p (.lst l))
  | _ => False
def dTuple : DRC := fun ds M Q => match ds with
  | [.lst l] => Q (.tup l) M
  | [.tup l] => Q (.tup l) M
  | [.kt l] => Q (.kt l) M
  | [.ref p] => (match M p with
    | some (.lst l) => Q (.tup l) M
    | _ => False)
  | _ => False
section
variable {X : Cx} {K : PySem.W.Frag} {F0 : FZ}
def rLenA (K : PySem.W.Frag) : List V → Hp → VK → Prop := fun xs H Q => (∃ p ys, xs = [.ref p] ∧ (SqL K H p ys ∨ SqT K H p ys) ∧ Q (.int ys.length) H) ∨ (∃ z, xs = [.str z] ∧ z.length ≤ sizeLine ∧ Q (.int z.length) H) ∨ (∃ a kvs, xs = [V.ref a] ∧ Rd H a (.dK kvs) ∧ Q (.int kvs.length) H) ∨ rLenT xs H Q
theorem call_lenA : CallR X (.builtin "len") (rLenA X.K) := by
  intro pins s σ H xs us Q I r h
  rcases h with h | h | h | h
  · exact call_len_seq pins s σ H xs us Q I r h
  · exact call_len_str pins s σ H xs us Q I r h
  · obtain ⟨a, kvs, rfl, ha, q⟩ := h
    obtain ⟨u, rfl, ru⟩ := vals1 r
    cases ru
    exact d_len I ha fun t s' I' => ⟨.int kvs.length, H, I', ⟨t, rfl⟩, q⟩
  · exact call_len_dT pins s σ H xs us Q I r h
theorem lc_len : LC K F0 dLen (rLenA K) := by
  intro F M H ds vs Q' Q e0 s r q k
  unfold dLen at q
  split at q
  · rename_i d
    obtain ⟨n, hn, q⟩ := q
    cases r with
    | cons r1 r2 =>
      cases r2
      have kk := k F (.int n) (.int n) M H (FLe.refl F) s (.int _) q
      cases r1 with
      | lst a b =>
        simp only [lenV, Option.some.injEq] at hn
        subst hn
        exact .inl ⟨_, _, rfl, .inl (SqL.of (s.fz _ _ a)), by rw [← b.length]; exact kk⟩
      | tup a b =>
        simp only [lenV, Option.some.injEq] at hn
        subst hn
        exact .inl ⟨_, _, rfl, .inr (s.sqT a), by rw [← b.length]; exact kk⟩
      | kt a b =>
        simp only [lenV, Option.some.injEq] at hn
        subst hn
        exact .inl ⟨_, _, rfl, .inr (s.sqK a), by rw [← b.length]; exact kk⟩
      | str z =>
        simp only [lenV] at hn
        split at hn
        · rename_i hz
          cases hn
          exact .inr (.inl ⟨z, rfl, hz, kk⟩)
        · cases hn
      | ref p =>
        simp only [lenV] at hn
        split at hn
        · rename_i l hm
          cases hn
          obtain ⟨u, h1, h2⟩ := s.mu p _ hm
          cases h2 with
          | lst b z => exact .inl ⟨_, _, rfl, .inl (SqL.of h1), by rw [← b.length]; exact kk⟩
        · rename_i l hm
          cases hn
          obtain ⟨u, h1, h2⟩ := s.mu p _ hm
          cases h2 with
          | dK b z => exact .inr (.inr (.inl ⟨_, _, rfl, .inl h1, by rw [← kvr_len b]; exact kk⟩))
        · rename_i l hm
          cases hn
          obtain ⟨u, h1, h2⟩ := s.mu p _ hm
          cases h2 with
          | dT b z _ => exact .inr (.inr (.inr ⟨_, _, rfl, h1, by rw [← kvr_len b]; exact kk⟩))
        · cases hn
      | dk a b =>
        simp only [lenV, Option.some.injEq] at hn
        subst hn
        rw [List.length_map] at kk
        exact .inr (.inr (.inl ⟨_, _, rfl, s.dz _ _ a, kk⟩))
      | _ => simp [lenV] at hn
  · exact q.elim
theorem de_len {e : Expr} {ta : TA} {ta' : DTA} {p pos : Pos} (hm : X.mg "len" = none) (ha : DA X F0 [e] ta ta') (hg : Gl X "len" := by rfl) (he : starEach (e :: []) X.env = (false, eval e X.env) :: starEach [] X.env := by rfl) : DE X F0 (.Call (.Name "len" p) [e] [] pos) (tCB (rLenA X.K) ta) (dCB dLen ta') :=
  de_blt call_lenA lc_len hm ha PySem.boot_len hg (by decide) (by decide) he

/-- list(d), locked or not -/
def rListR : List V → Hp → VK → Prop := fun xs H Q => ∃ p kvs, xs = [.ref p] ∧ Rd H p (.dK kvs) ∧ ∀ q, H q = none → Q (.ref q) (upd H q (.lst (kvs.map fun kv => kV kv.1)))
theorem call_listR {X : Cx} (hc : X.calm = true) : CallR X (.type "list") rListR := by
  intro pins s σ H xs us Q I r h
  obtain ⟨p, kvs, e, hk, q⟩ := h
  subst e
  obtain ⟨u, eu, rx⟩ := vals1 r
  subst eu
  obtain rfl : u = Value.ref p := rx
  obtain ⟨z, lo, vs, rk, hd⟩ := (show ObjOk X.prog X.w H s.heap p (.dK kvs) from hk.ok I.hok)
  obtain ⟨ep, hat⟩ := hd.dictAt
  have hl : kvs.length = vs.length := Paired.length rk
  refine PySem.W.kdl_call (PySem.W.kdl_dict (knd := mixKind X.prog X.w) (kvs := vs) (ep := ep) lo) (I.ok.hd hc) hat (by rw [← hl]; exact z) fun h' tk acc' c' hkeep hS hacc => ?_
  have ks : (kvs.map fun kv => kV kv.1) = (kvs.map (·.1)).map kV := by rw [List.map_map]; rfl
  refine ⟨.ref s.heap.objs.size, upd H s.heap.objs.size (.lst (kvs.map fun kv => kV kv.1)), I.laid hkeep (Nat.le_refl _) (show ObjOk X.prog X.w _ _ _ (.lst (kvs.map fun kv => kV kv.1)) from ⟨by rw [List.length_map]; exact z, acc'.toList, c', ?_, by rw [Array.toArray_toList]; exact hS⟩), rfl, q _ (I.hok.fresh (Nat.le_refl _))⟩
  have el : acc'.toList.length = acc'.size := by simp
  refine vals_of_at (by rw [List.length_map, el, hacc.1, hl]) fun j x w h1 h2 => ?_
  obtain ⟨k, y, hky, hi⟩ := hacc.2 j w (by rw [← Array.getElem?_toList]; exact h2)
  have e1 : (kvs.map (·.1))[j]? = some k := by rw [KV.keys rk, List.getElem?_map, hky]; rfl
  rw [ks, List.getElem?_map, e1] at h1
  cases h1
  exact keyIs_rel hi
def rListA (K : PySem.W.Frag) : List V → Hp → VK → Prop := fun xs H Q => (∃ p ys, xs = [.ref p] ∧ (SqL K H p ys ∨ SqT K H p ys) ∧ ∀ l, H l = none → Q (.ref l) (upd H l (.lst ys))) ∨ rListR xs H Q ∨ (∃ d kvs, xs = [V.ref d] ∧ Rd H d (.dT kvs) ∧ ∀ p bs, H p = none → IsKeys H kvs bs → Q (.ref p) (upd H p (.lst (bs.map V.ref))))
theorem call_listA (hc : X.calm = true) : CallR X (.type "list") (rListA X.K) := by
  intro pins s σ H xs us Q I r h
  rcases h with h | h | h
  · exact call_list_of pins s σ H xs us Q I r h
  · exact call_listR hc pins s σ H xs us Q I r h
  · exact call_list_dT hc pins s σ H xs us Q I r h
theorem adoptKeys {F : FZ} {M : Mp} {H : Hp} : ∀ {kvs : List (List Key × V)} {bs : List Addr}, SR K F M H → IsKeys H kvs bs → (∀ p ∈ kvs, p.1.length ≤ sizeLine) → ∃ F1, FLe F F1 ∧ SR K F1 M H ∧ RpL K F1 (kvs.map fun kv => .tup (kv.1.map keyD)) (bs.map V.ref)
  | _, _, s, .nil, _ => ⟨F, FLe.refl F, s, .nil⟩
  | kv :: kvs, b :: bs, s, .cons r t, h => by
    obtain ⟨F1, e1, s1, r1⟩ := adoptKeys s t fun p hp => h p (List.mem_cons_of_mem _ hp)
    obtain ⟨F2, e2, s2, r2⟩ := s1.adoptT r (by rw [List.length_map]; exact h kv List.mem_cons_self)
    exact ⟨F2, e1.trans e2, s2, .cons (.tup r2 (keysD_rp _)) (r1.mono e2)⟩
theorem items_rp {F : FZ} {M : Mp} {H : Hp} {d : D} {v : V} {l : List D} {Q : VK} (s : SR K F M H) (r : Rp K F d v) (h : itemsV M d = some l)
    (k : ∀ F1 ys p, FLe F F1 → SR K F1 M H → RpL K F1 l ys → ys.length ≤ sizeLine → H p = none → Q (.ref p) (upd H p (.lst ys))) : rListA K [v] H Q := by
  cases r with
  | lst a b =>
    simp only [itemsV, Option.some.injEq] at h
    subst h
    exact .inl ⟨_, _, rfl, .inl (SqL.of (s.fz _ _ a)), fun p hp => k F _ p (FLe.refl F) s b (s.lenL (SqL.of a)) hp⟩
  | tup a b =>
    simp only [itemsV, Option.some.injEq] at h
    subst h
    exact .inl ⟨_, _, rfl, .inr (s.sqT a), fun p hp => k F _ p (FLe.refl F) s b (s.lenT a) hp⟩
  | kt a b =>
    simp only [itemsV, Option.some.injEq] at h
    subst h
    exact .inl ⟨_, _, rfl, .inr (s.sqK a), fun p hp => k F _ p (FLe.refl F) s b (s.lenK a) hp⟩
  | ref p =>
    simp only [itemsV] at h
    split at h
    · rename_i hm
      cases h
      obtain ⟨u, h1, h2⟩ := s.mu p _ hm
      cases h2 with
      | lst b z => exact .inl ⟨_, _, rfl, .inl (SqL.of h1), fun p hp => k F _ p (FLe.refl F) s b z hp⟩
    · rename_i hm
      cases h
      obtain ⟨u, h1, h2⟩ := s.mu p _ hm
      cases h2 with
      | dK b z =>
        refine .inr (.inl ⟨_, _, rfl, .inl h1, fun p hp => k F _ p (FLe.refl F) s ?_ (by rw [List.length_map]; exact z) hp⟩)
        have key : ∀ {m : List (Key × D)} {n : List (Key × V)}, KVR K F m n → RpL K F (m.map fun kv => keyD kv.1) (n.map fun kv => kV kv.1) := by
          intro m n r
          induction r with
          | nil => exact .nil
          | cons h t ih =>
            rename_i a b _ _
            rw [List.map_cons, List.map_cons, ← h.1]
            exact .cons (keyD_rp _) ih
        exact key b
    · rename_i hm
      cases h
      obtain ⟨u, h1, h2⟩ := s.mu p _ hm
      cases h2 with
      | dT b z zz =>
        rename_i kvs ps
        refine .inr (.inr ⟨_, _, rfl, .inl h1, fun p bs hp hk => ?_⟩)
        obtain ⟨F1, e1, s1, r1⟩ := adoptKeys s hk zz
        have hb : ps.length = bs.length := Paired.length hk
        have em : (kvs.map fun kv => D.tup (kv.1.map keyD)) = ps.map fun kv => D.tup (kv.1.map keyD) := by
          have key : ∀ {m : List (List Key × D)} {n : List (List Key × V)}, KVR K F m n → (m.map fun kv => D.tup (kv.1.map keyD)) = n.map fun kv => D.tup (kv.1.map keyD) := by
            intro m n r
            induction r with
            | nil => rfl
            | cons h t ih => rw [List.map_cons, List.map_cons, ih, h.1]
          exact key b
        exact k F1 _ p e1 s1 (by rw [em]; exact r1) (by rw [List.length_map]; omega) hp
    · cases h
  | dk a b =>
    rename_i q ps l
    simp only [itemsV, Option.some.injEq] at h
    subst h
    have z : ps.length ≤ sizeLine := (s.df _ _ a).2.2
    refine .inr (.inl ⟨_, _, rfl, s.dz _ _ a, fun p hp => k F _ p (FLe.refl F) s ?_ (by rw [List.length_map]; exact z) hp⟩)
    have e1 : (ps.map fun kv => kV kv.1) = (ps.map (·.1)).map kV := by rw [List.map_map]; rfl
    rw [e1]
    exact keysD_rp _
  | dt a b =>
    rename_i q ps l
    simp only [itemsV, Option.some.injEq] at h
    subst h
    obtain ⟨z, zz⟩ := (show DcO (.dT ps) from (s.df _ _ a).2.2)
    refine .inr (.inr ⟨_, _, rfl, s.dz _ _ a, fun p bs hp hk => ?_⟩)
    obtain ⟨F1, e1, s1, r1⟩ := adoptKeys s hk zz
    have hb : ps.length = bs.length := Paired.length hk
    exact k F1 _ p e1 s1 (by rw [List.map_map]; exact r1) (by rw [List.length_map]; omega) hp
  | _ => simp [itemsV] at h
theorem lc_list : LC K F0 dList (rListA K) := by
  intro F M H ds vs Q' Q e0 s r q k
  unfold dList at q
  split at q
  · obtain ⟨l, hl, q⟩ := q
    cases r with
    | cons r1 r2 =>
      cases r2
      refine items_rp s r1 hl fun F1 ys p e1 s1 ry hz hp => ?_
      have e2 := same_upd (o := .lst ys) (s1.freeF hp)
      exact k _ _ _ _ _ (e1.trans e2) (s1.newF hp hz) (.lst upd_same (ry.mono e2)) q
  · exact q.elim
theorem lc_listM : LC K F0 dListM (rListA K) := by
  intro F M H ds vs Q' Q e0 s r q k
  unfold dListM at q
  split at q
  · obtain ⟨l, hl, q⟩ := q
    cases r with
    | cons r1 r2 =>
      cases r2
      refine items_rp s r1 hl fun F1 ys p e1 s1 ry hz hp => ?_
      exact k F1 _ _ _ _ e1 (s1.putN hp (.lst ry hz)) (.ref p) (q p (s1.freeM hp))
  · exact q.elim
theorem lc_tuple : LC K F0 dTuple (fun xs H Q => ∃ p ys, xs = [.ref p] ∧ ((SqL K H p ys ∧ ∀ l, H l = none → Q (.ref l) (upd H l (.tup ys))) ∨ (SqT K H p ys ∧ Q (.ref p) H))) := by
  intro F M H ds vs Q' Q e0 s r q k
  have mk : ∀ {l : List D} {ys : List V}, RpL K F l ys → ys.length ≤ sizeLine → Q' (.tup l) M → ∀ p, H p = none → Q (.ref p) (upd H p (.tup ys)) := fun {l ys} ry hz q p hp => by
    have e2 := same_upd (o := .tup ys) (s.freeF hp)
    exact k _ _ _ _ _ e2 (s.newF hp hz) (.tup upd_same (ry.mono e2)) q
  unfold dTuple at q
  split at q
  · cases r with
    | cons r1 r2 =>
      cases r2
      cases r1 with
      | lst a b => exact ⟨_, _, rfl, .inl ⟨(SqL.of (s.fz _ _ a)), mk b (s.lenL (SqL.of a)) q⟩⟩
  · cases r with
    | cons r1 r2 =>
      cases r2
      cases r1 with
      | tup a b => exact ⟨_, _, rfl, .inr ⟨s.sqT a, k F _ _ M H (FLe.refl F) s (.tup a b) q⟩⟩
  · cases r with
    | cons r1 r2 =>
      cases r2
      cases r1 with
      | kt a b => exact ⟨_, _, rfl, .inr ⟨s.sqK a, k F _ _ M H (FLe.refl F) s (.kt a b) q⟩⟩
  · cases r with
    | cons r1 r2 =>
      cases r2
      cases r1
      split at q
      · rename_i hm
        obtain ⟨u, h1, h2⟩ := s.mu _ _ hm
        cases h2 with
        | lst b z => exact ⟨_, _, rfl, .inl ⟨SqL.of h1, mk b z q⟩⟩
      · exact q.elim
  · exact q.elim
def dAbs : DRC := fun ds M Q => match ds with
  | [.int i] => Q (.int (if i < 0 then -i else i)) M
  | _ => False
theorem lc_abs : LC K F0 dAbs (fun xs H Q => ∃ i, xs = [.int i] ∧ Q (.int (if i < 0 then -i else i)) H) := by
  intro F M H ds vs Q' Q e0 s r q k
  unfold dAbs at q
  split at q
  · cases r with
    | cons r1 r2 =>
      cases r2; cases r1
      exact ⟨_, rfl, k F _ _ M H (FLe.refl F) s (.int _) q⟩
  · exact q.elim
def dInt : DRC := fun ds M Q => match ds with
  | [.int i] => Q (.int i) M
  | [.bl b] => Q (.int (if b then 1 else 0)) M
  | _ => False
theorem lc_int : LC K F0 dInt (fun xs H Q => (∃ i, xs = [.int i] ∧ Q (.int i) H) ∨ ∃ k, xs = [.bl k] ∧ Q (.int (if k then 1 else 0)) H) := by
  intro F M H ds vs Q' Q e0 s r q k
  unfold dInt at q
  split at q
  · cases r with
    | cons r1 r2 =>
      cases r2; cases r1
      exact .inl ⟨_, rfl, k F _ _ M H (FLe.refl F) s (.int _) q⟩
  · cases r with
    | cons r1 r2 =>
      cases r2; cases r1
      exact .inr ⟨_, rfl, k F _ _ M H (FLe.refl F) s (.int _) q⟩
  · exact q.elim
/-- all, any of a list of flags -/
def dFlags (g : List Bool → Bool) : DRC := fun ds M Q => match ds with
  | [.lst l] => ∃ bs : List Bool, l = bs.map .bl ∧ Q (.bl (g bs)) M
  | _ => False
theorem lc_flags {g : List Bool → Bool} : LC K F0 (dFlags g) (fun vs H Q => ∃ (a : Addr) (bs : List Bool), vs = [V.ref a] ∧ SqL K H a (bs.map V.bl) ∧ Q (.bl (g bs)) H) := by
  intro F M H ds vs Q' Q e0 s r q k
  unfold dFlags at q
  split at q
  · obtain ⟨bs, hb, q⟩ := q
    subst hb
    cases r with
    | cons r1 r2 =>
      cases r2
      cases r1 with
      | lst a b =>
        have e := RpL.bl bs b
        subst e
        exact ⟨_, bs, rfl, (SqL.of (s.fz _ _ a)), k F _ _ M H (FLe.refl F) s (.bl _) q⟩
  · exact q.elim
/-- sorted, of ints -/
def dSortI : DRC := fun ds M Q => match ds with
  | [d] => ∃ ns : List Int, (d = .lst (ns.map .int) ∨ ∃ p, d = .ref p ∧ M p = some (.lst (ns.map .int))) ∧ ∀ ns' : List Int, ns'.Perm ns → ns'.Pairwise (· ≤ ·) → Q (.lst (ns'.map .int)) M
  | _ => False
theorem lc_sortI : LC K F0 dSortI (rSortedI K) := by
  intro F M H ds vs Q' Q e0 s r q k
  unfold dSortI at q
  split at q
  · obtain ⟨ns, hd, q⟩ := q
    have mk : ∀ (a : Addr), SqL K H a (ns.map V.int) → ns.length ≤ sizeLine → rSortedI K [.ref a] H Q := fun a ha hz => by
      refine ⟨a, ns, rfl, ha, fun ns' p h1 h2 hp => ?_⟩
      have e2 := same_upd (o := .lst (ns'.map V.int)) (s.freeF hp)
      exact k _ _ _ _ _ e2 (s.newF hp (by show (ns'.map V.int).length ≤ sizeLine; rw [List.length_map, h1.length_eq]; exact hz)) (.lst upd_same (RpL.ofInt ns')) (q ns' h1 h2)
    cases r with
    | cons r1 r2 =>
      cases r2
      rcases hd with rfl | ⟨p, rfl, hm⟩
      · cases r1 with
        | lst a b =>
          have e := RpL.int ns b
          subst e
          exact mk _ (SqL.of (s.fz _ _ a)) (by have := s.lenL (SqL.of a); rw [List.length_map] at this; exact this)
      · cases r1
        obtain ⟨u, h1, h2⟩ := s.mu p _ hm
        cases h2 with
        | lst b z =>
          have e := RpL.int ns b
          subst e
          exact mk p (SqL.of h1) (by rw [List.length_map] at z; exact z)
  · exact q.elim
end
end DL

set_option maxRecDepth 100000
set_option maxHeartbeats 2000000
namespace DL
open PySem PySem.Spec PyProof.Rows L2

/-! ### sorted, of pairs of ints -/
def prD (p : Int × Int) : D := .tup [.int p.1, .int p.2]
def dSortP : DRC := fun ds M Q => match ds with
  | [d] => ∃ ps : List (Int × Int), (d = .lst (ps.map prD) ∨ ∃ p, d = .ref p ∧ M p = some (.lst (ps.map prD))) ∧ ∀ qs : List (Int × Int), qs.Perm ps → SrtO.Srtd SrtO.lexB qs → Q (.lst (qs.map prD)) M
  | _ => False
/-- the two ints of a frozen pair -/
def prOf (F : Hp) (v : V) : Int × Int := match v with
  | .ref t => (match F t with
    | some (.tup [.int i, .int j]) => (i, j)
    | _ => (0, 0))
  | _ => (0, 0)
section
variable {X : Cx} {K : PySem.W.Frag} {F0 : FZ}
theorem prs_rp {F : FZ} : ∀ {ps : List (Int × Int)} {xs : List V}, RpL K F (ps.map prD) xs → ps = xs.map (prOf F.f) ∧ ∀ x ∈ xs, ∃ t, x = V.ref t ∧ F.f t = some (.tup [.int (prOf F.f x).1, .int (prOf F.f x).2])
  | [], _, .nil => ⟨rfl, fun x h => by cases h⟩
  | p :: ps, _, .cons r t => by
    obtain ⟨h1, h2⟩ := prs_rp t
    cases r with
    | tup a b =>
      rename_i t' ys
      cases b with
      | cons b1 b2 =>
        cases b2 with
        | cons b2 b3 =>
          cases b3
          cases b1
          cases b2
          have e : prOf F.f (.ref t') = (p.1, p.2) := by simp only [prOf, a]
          refine ⟨by rw [List.map_cons, e, ← h1], fun x hx => ?_⟩
          rcases List.mem_cons.mp hx with rfl | hx
          · exact ⟨t', rfl, by rw [e]; exact a⟩
          · exact h2 x hx
theorem rp_prs {F : FZ} : ∀ {xs : List V}, (∀ x ∈ xs, ∃ t, x = V.ref t ∧ F.f t = some (.tup [.int (prOf F.f x).1, .int (prOf F.f x).2])) → RpL K F ((xs.map (prOf F.f)).map prD) xs
  | [], _ => .nil
  | x :: xs, h => by
    obtain ⟨t, rfl, ht⟩ := h x List.mem_cons_self
    exact .cons (.tup ht (.cons (.int _) (.cons (.int _) .nil))) (rp_prs fun y hy => h y (List.mem_cons_of_mem _ hy))
theorem lc_sortP : LC K F0 dSortP (rSortedPO K) := by
  intro F M H ds vs Q' Q e0 s r q k
  unfold dSortP at q
  split at q
  · obtain ⟨ps, hd, q⟩ := q
    have mk : ∀ (a : Addr) (xs : List V), SqL K H a xs → xs.length ≤ sizeLine → RpL K F (ps.map prD) xs → rSortedPO K [.ref a] H Q := fun a xs ha hz rl => by
      obtain ⟨h1, h2⟩ := prs_rp rl
      refine ⟨a, xs, prOf F.f, rfl, ha, fun x hx => ?_, fun ys p hs hp hn => ?_⟩
      · obtain ⟨t, e1, e2⟩ := h2 x hx
        exact ⟨t, e1, s.fz _ _ e2⟩
      · have e2 := same_upd (o := .lst ys) (s.freeF hn)
        have hy : RpL K F ((ys.map (prOf F.f)).map prD) ys := rp_prs fun y hy => h2 y (hp.perm.mem_iff.mp hy)
        refine k _ _ _ _ _ e2 (s.newF hn (by show ys.length ≤ sizeLine; rw [hp.perm.length_eq]; exact hz)) (.lst upd_same (hy.mono e2)) (q _ (by rw [h1]; exact hp.perm.map _) (SrtO.srtd_map hs))
    cases r with
    | cons r1 r2 =>
      cases r2
      rcases hd with rfl | ⟨p, rfl, hm⟩
      · cases r1 with
        | lst a b => exact mk _ _ (SqL.of (s.fz _ _ a)) (s.lenL (SqL.of a)) b
      · cases r1
        obtain ⟨u, h1, h2⟩ := s.mu p _ hm
        cases h2 with
        | lst b z => exact mk p _ (SqL.of h1) z b
  · exact q.elim

/-! ### isinstance, built-in types -/
def tyN (M : Mp) : D → Option String
  | .non => some "NoneType"
  | .bl _ => some "bool"
  | .int _ => some "int"
  | .str _ => some "str"
  | .lst _ => some "list"
  | .tup _ => some "tuple"
  | .kt _ => some "tuple"
  | .ref p => (match M p with
    | some (.lst _) => some "list"
    | some (.dK _) => some "dict"
    | some (.dT _) => some "dict"
    | _ => none)
  | .ty _ => none
  | .ls _ => none
  | .dk _ _ => some "dict"
  | .dt _ _ => none
def isiT (T n : String) : Bool := T == n || (T == "bool" && n == "int")
theorem kitB_tab : ∀ T ∈ (["NoneType", "bool", "int", "str", "list", "tuple", "dict"] : List String), ∀ n ∈ (["NoneType", "bool", "int", "str", "list", "tuple", "dict"] : List String), kitB T n = some (isiT T n) := by decide +kernel
def isTab (n : String) : Bool := ["NoneType", "bool", "int", "str", "list", "tuple", "dict"].contains n
theorem isTab_mem {n : String} (h : isTab n = true) : n ∈ (["NoneType", "bool", "int", "str", "list", "tuple", "dict"] : List String) := by simpa [isTab] using h
theorem tyN_tab {M : Mp} {d : D} {T : String} (h : tyN M d = some T) : T ∈ (["NoneType", "bool", "int", "str", "list", "tuple", "dict"] : List String) := by
  unfold tyN at h
  split at h <;> (try (simp at h; done)) <;> first
    | (cases h; simp; done)
    | (split at h <;> first | (cases h; simp; done) | cases h)
theorem tyN_rp {F : FZ} {M : Mp} {H : Hp} {d : D} {v : V} {T : String} (s : SR K F M H) (r : Rp K F d v) (h : tyN M d = some T) : TyX K H v (.type T) := by
  cases r with
  | non => cases h; exact .base .non
  | bl b => cases h; exact .base (.bl b)
  | int i => cases h; exact .base (.int i)
  | str x => cases h; exact .base (.str x)
  | lst a b =>
    cases h
    exact .base (.lst (s.fz _ _ a))
  | tup a b => cases h; exact .base (.tup (s.fz _ _ a))
  | kt a b =>
    cases h
    rcases a with ⟨o, its, n, z, c, _⟩ | ⟨o, z, _⟩
    · exact .kTuple z c
    · exact .fTuple (s.fz _ _ z)
  | ref p =>
    simp only [tyN] at h
    split at h
    · rename_i hm
      cases h
      obtain ⟨u, h1, h2⟩ := s.mu p _ hm
      cases h2
      exact .base (.lst h1)
    · rename_i hm
      cases h
      obtain ⟨u, h1, h2⟩ := s.mu p _ hm
      cases h2
      exact .base (.dK h1)
    · rename_i hm
      cases h
      obtain ⟨u, h1, h2⟩ := s.mu p _ hm
      cases h2
      exact .base (.dT h1)
    · cases h
  | ty n => cases h
  | ls a b => cases h
  | dk a b =>
    cases h
    rcases s.dz _ _ a with z | ⟨o, z⟩
    · exact .base (.dK z)
    · exact .fDict z
  | dt a b => cases h
def dIsi : DRC := fun ds M Q => match ds with
  | [x, .ty n] => isTab n = true ∧ ∃ T, tyN M x = some T ∧ Q (.bl (isiT T n)) M
  | _ => False
theorem lc_isi : LC K F0 dIsi (rIsi K) := by
  intro F M H ds vs Q' Q e0 s r q k
  unfold dIsi at q
  split at q
  · obtain ⟨hn, T, hT, q⟩ := q
    cases r with
    | cons r1 r2 =>
      cases r2 with
      | cons r2 r3 =>
        cases r3
        cases r2
        exact ⟨_, _, _, _, _, rfl, .ty _, tyN_rp s r1 hT, kit_ty (kitB_tab _ (tyN_tab hT) _ (isTab_mem hn)), k F _ _ M H (FLe.refl F) s (.bl _) q⟩
  · exact q.elim
def tysOf : List D → Option (List String)
  | [] => some []
  | .ty n :: r => (tysOf r).map fun l => n :: l
  | _ => none
def dIsiT : DRC := fun ds M Q => match ds with
  | [x, .tup l] => ∃ ns, tysOf l = some ns ∧ ns.all isTab = true ∧ ∃ T, tyN M x = some T ∧ Q (.bl (ns.any fun n => isiT T n)) M
  | _ => False
theorem tys_rp {F : FZ} : ∀ {l : List D} {xs : List V} {ns : List String}, RpL K F l xs → tysOf l = some ns → Paired ClsV xs (ns.map Value.type)
  | _, _, ns, .nil, h => by simp [tysOf] at h; subst h; exact .nil
  | _, _, ns, .cons r t, h => by
    cases r with
    | ty n =>
      simp only [tysOf] at h
      obtain ⟨m, h1, h2⟩ := Option.map_eq_some_iff.mp h
      subst h2
      exact .cons (.ty n) (tys_rp t h1)
    | _ => simp [tysOf] at h
theorem kit_any {T : String} (hT : T ∈ (["NoneType", "bool", "int", "str", "list", "tuple", "dict"] : List String)) : ∀ {ns : List String}, ns.all isTab = true → PySem.W.kitAny K (.type T) (ns.map Value.type) = some (ns.any fun n => isiT T n)
  | [], _ => rfl
  | n :: ns, h => by
    simp only [List.all_cons, Bool.and_eq_true] at h
    have ih := kit_any hT h.2
    rw [List.map_cons, List.any_cons]
    refine kitAny_cons (kit_ty (kitB_tab _ hT _ (isTab_mem h.1))) (fun e => ?_) (fun e => ?_)
    · rw [e, Bool.false_or]; exact ih
    · rw [e, Bool.true_or]
theorem lc_isiT : LC K F0 dIsiT (rIsiT K) := by
  intro F M H ds vs Q' Q e0 s r q k
  unfold dIsiT at q
  split at q
  · obtain ⟨ns, h1, h2, T, hT, q⟩ := q
    cases r with
    | cons r1 r2 =>
      cases r2 with
      | cons r2 r3 =>
        cases r3
        cases r2 with
        | tup a b => exact ⟨_, _, _, _, _, _, rfl, s.fz _ _ a, tys_rp b h1, tyN_rp s r1 hT, kit_any (tyN_tab hT) h2, k F _ _ M H (FLe.refl F) s (.bl _) q⟩
  · exact q.elim
theorem de_ty {x : Str} {n : String} {pos : Pos} (hm : X.mg x = none) (hv : bootBuiltins x = some (.type n) := by decide +kernel) (hg : Gl X x := by rfl) (hn : x ≠ "__name__" := by decide) (hd : (x == ("__debug__" : Str)) = false := by decide) : DE X F0 (.Name x pos) (tC (.ty n)) (dC (.ty n)) :=
  ⟨pe_bltn hg hm hv rfl hn hd, le_c fun _ => .ty n⟩
theorem de_isi {e e2 : Expr} {ta : TA} {ta' : DTA} {p pos : Pos} (hm : X.mg "isinstance" = none) (ha : DA X F0 [e, e2] ta ta') (hg : Gl X "isinstance" := by rfl) (he : starEach [e, e2] X.env = (false, eval e X.env) :: starEach [e2] X.env := by rfl) (hpl : (backTo pos (starEach [e2] X.env)).any (·.1) = false := by rfl) :
    DE X F0 (.Call (.Name "isinstance" p) [e, e2] [] pos) (tCB (rIsi X.K) ta) (dCB dIsi ta') := de_blt call_isi lc_isi hm ha (by decide +kernel) hg (by decide) (by decide) he hpl
theorem de_isiT {e e2 : Expr} {ta : TA} {ta' : DTA} {p pos : Pos} (hm : X.mg "isinstance" = none) (ha : DA X F0 [e, e2] ta ta') (hg : Gl X "isinstance" := by rfl) (he : starEach [e, e2] X.env = (false, eval e X.env) :: starEach [e2] X.env := by rfl) (hpl : (backTo pos (starEach [e2] X.env)).any (·.1) = false := by rfl) :
    DE X F0 (.Call (.Name "isinstance" p) [e, e2] [] pos) (tCB (rIsiT X.K) ta) (dCB dIsiT ta') := de_blt call_isiT lc_isiT hm ha (by decide +kernel) hg (by decide) (by decide) he hpl
end

/-! ### methods of built-in types -/
abbrev DRM := D → List D → Mp → DK → Prop
def LM (K : PySem.W.Frag) (F0 : FZ) (r' : DRM) (r : V → List V → Hp → VK → Prop) : Prop := ∀ (F : FZ) (M : Mp) (H : Hp) (o : D) (x : V) (ds : List D) (vs : List V) (Q' : DK) (Q : VK), Bs F0 F → SR K F M H → Rp K F o x → RpL K F ds vs → r' o ds M Q' →
  (∀ F1 d v M1 H1, FLe F F1 → SR K F1 M1 H1 → Rp K F1 d v → Q' d M1 → Q v H1) → r x vs H Q
def tyD (T : String) (M : Mp) : D → Prop
  | .lst _ => T = "list"
  | .str _ => T = "str"
  | .kt _ => T = "tuple"
  | .ref p => (match M p with
    | some (.lst _) => T = "list"
    | some (.dK _) => T = "dict"
    | some (.dT _) => T = "dict"
    | _ => False)
  | _ => False
def dBM0 (T : String) (r : DRM) (to : DTE) : DTE := fun γ M Q => to γ M fun x M1 => tyD T M1 x ∧ r x [] M1 Q
def dBM (T : String) (r : DRM) (to : DTE) (t : DTA) : DTE := fun γ M Q => to γ M fun x M1 => tyD T M1 x ∧ t γ M1 fun xs M2 => r x xs M2 Q
section
variable {X : Cx} {K : PySem.W.Frag} {F0 : FZ} {o e : Expr} {es : List Expr} {to : TE} {to' : DTE} {t : TA} {t' : DTA} {name : Str} {apos cpos : Pos} {T id : String} {r : V → List V → Hp → VK → Prop} {r' : DRM}
theorem tyD_rp {F : FZ} {M : Mp} {H : Hp} {d : D} {v : V} (s : SR K F M H) (r : Rp K F d v) (hk : T ≠ "tuple") (h : tyD T M d) : tyV K T v H := by
  cases r with
  | lst a b => exact .inl ⟨h, _, SqL.of (s.fz _ _ a)⟩
  | str z => exact h
  | kt a b => exact absurd h hk
  | ref p =>
    simp only [tyD] at h
    split at h
    · rename_i hm
      obtain ⟨u, h1, h2⟩ := s.mu p _ hm
      cases h2
      exact .inl ⟨h, _, SqL.of h1⟩
    · rename_i hm
      obtain ⟨u, h1, h2⟩ := s.mu p _ hm
      cases h2
      exact .inr (.inr (.inl ⟨h, .inl ⟨_, h1⟩⟩))
    · rename_i hm
      obtain ⟨u, h1, h2⟩ := s.mu p _ hm
      cases h2
      exact .inr (.inr (.inl ⟨h, .inr ⟨_, h1⟩⟩))
    · exact h.elim
  | _ => exact False.elim h
theorem de_bm0 (pa : PlainAttrs T) (slot : Slot T name id) (hty : typeOf (.builtin id) = pure (.type "method_descriptor")) (hm : MtR X id r) (hl : LM X.K F0 r' r) (ho : DE X F0 o to to') (hk : T ≠ "tuple" := by decide)
    (hbase : attributeBase o name X.env (eval o X.env) = eval o X.env := by rfl) (hline : (apos.endLine == cpos.line) = true := by rfl) : DE X F0 (.Call (.Attribute o name apos) [] [] cpos) (tBM0 X.K T r to) (dBM0 T r' to') :=
  ⟨pe_bm0 pa slot hty hm ho.pe hbase hline, fun F γ M σ H Q' Q e0 s g q k => ho.le F γ M σ H _ _ e0 s g q fun F1 d v M1 H1 e1 s1 r1 q1 =>
    ⟨tyD_rp s1 r1 hk q1.1, hl F1 M1 H1 d v [] [] _ _ (e0.tr e1) s1 r1 .nil q1.2 fun F2 d2 v2 M2 H2 e2 s2 r2 q2 => k F2 d2 v2 M2 H2 (e1.trans e2) s2 r2 q2⟩⟩
theorem de_bm (pa : PlainAttrs T) (slot : Slot T name id) (hty : typeOf (.builtin id) = pure (.type "method_descriptor")) (hm : MtR X id r) (hl : LM X.K F0 r' r) (ho : DE X F0 o to to') (ha : DA X F0 (e :: es) t t') (hk : T ≠ "tuple" := by decide)
    (hbase : attributeBase o name X.env (eval o X.env) = eval o X.env := by rfl)
    (hfew : ((backTo cpos (starEach (e :: es) X.env)).all (fun x => !x.1) && (backToKw cpos (keywordEach [] X.env)).all (fun x => x.1.isSome) && decide ((e :: es).length + ([] : List Keyword).length + (if ([] : List Keyword).isEmpty then 0 else 1) < 30)) = true := by rfl)
    (hline : (apos.endLine == cpos.line) = true := by rfl) (hs : starEach (e :: es) X.env = (false, eval e X.env) :: starEach es X.env := by rfl) (hplain : (backTo cpos (starEach es X.env)).any (·.1) = false := by rfl) :
    DE X F0 (.Call (.Attribute o name apos) (e :: es) [] cpos) (tBM X.K T r to t) (dBM T r' to' t') :=
  ⟨pe_bm pa slot hty hm ho.pe ha.pa hbase hfew hline hs hplain, fun F γ M σ H Q' Q e0 s g q k => ho.le F γ M σ H _ _ e0 s g q fun F1 d v M1 H1 e1 s1 r1 q1 =>
    ⟨tyD_rp s1 r1 hk q1.1, ha.le F1 γ M1 σ H1 _ _ (e0.tr e1) s1 (g.mono e1) q1.2 fun F2 ds vs M2 H2 e2 s2 r2 q2 => hl F2 M2 H2 d v ds vs _ _ ((e0.tr e1).tr e2) s2 (r1.mono e2) r2 q2 fun F3 d3 v3 M3 H3 e3 s3 r3 q3 => k F3 d3 v3 M3 H3 ((e1.trans e2).trans e3) s3 r3 q3⟩⟩
def dAppend : DRM := fun x ds M Q => match x, ds with
  | .ref p, [d] => (match M p with
    | some (.lst l) => l.length < sizeLine ∧ Q .non (mset M p (.lst (l ++ [d])))
    | _ => False)
  | _, _ => False
theorem lm_append : LM K F0 dAppend rAppend := by
  intro F M H o x ds vs Q' Q e0 s r rs q k
  unfold dAppend at q
  split at q
  · rename_i p d
    split at q
    · rename_i l hm
      obtain ⟨hl, q⟩ := q
      obtain ⟨u, h1, h2⟩ := s.mu p _ hm
      cases h2 with
      | lst b z =>
        cases r
        cases rs with
        | cons r1 r2 =>
          cases r2
          have hl2 := b.length ▸ hl
          exact ⟨p, _, _, rfl, rfl, h1, hl2, k F _ _ _ _ (FLe.refl F) (s.putM hm (.lst (b.append (.cons r1 .nil)) (by rw [List.length_append]; simp; omega))) .non q⟩
    · exact q.elim
  · exact q.elim
def dPop : DRM := fun x ds M Q => match x, ds with
  | .ref p, [] => (match M p with
    | some (.lst l) => ∃ d, l.getLast? = some d ∧ Q d (mset M p (.lst l.dropLast))
    | _ => False)
  | _, _ => False
theorem lm_pop : LM K F0 dPop rPop := by
  intro F M H o x ds vs Q' Q e0 s r rs q k
  unfold dPop at q
  split at q
  · rename_i p
    split at q
    · rename_i l hm
      obtain ⟨d, hd, q⟩ := q
      obtain ⟨u, h1, h2⟩ := s.mu p _ hm
      cases h2 with
      | lst b z =>
        rename_i xs
        cases r
        cases rs
        rw [List.getLast?_eq_getElem?] at hd
        obtain ⟨v, e1, e2⟩ := b.get hd
        rw [b.length] at e1
        exact ⟨p, _, v, rfl, rfl, h1, e1, k F _ _ _ _ (FLe.refl F) (s.putM hm (.lst b.dropLast (by rw [List.length_dropLast]; omega))) e2 q⟩
    · exact q.elim
  · exact q.elim
def dPopAt : DRM := fun x ds M Q => match x, ds with
  | .ref p, [.int i] => (match M p with
    | some (.lst l) => ∃ (j : Nat) (d : D), ixN l.length i = some j ∧ l[j]? = some d ∧ Q d (mset M p (.lst (l.eraseIdx j)))
    | _ => False)
  | _, _ => False
theorem lm_popAt : LM K F0 dPopAt rPopAt := by
  intro F M H o x ds vs Q' Q e0 s r rs q k
  unfold dPopAt at q
  split at q
  · rename_i p i
    split at q
    · rename_i l hm
      obtain ⟨j, d, hj, hd, q⟩ := q
      obtain ⟨u, h1, h2⟩ := s.mu p _ hm
      cases h2 with
      | lst b z =>
        rename_i xs
        cases r
        cases rs with
        | cons r1 r2 =>
          cases r2
          cases r1
          rw [b.length] at hj
          obtain ⟨g1, g2, g3, g4⟩ := ixN_seq hj
          obtain ⟨v, e1, e2⟩ := b.get hd
          have hn := line63
          have hz := sizeLine_eq
          refine ⟨p, xs, i, j, v, rfl, rfl, h1, by omega, by omega, g1, e1, k F _ _ _ _ (FLe.refl F) (s.putM hm (.lst (b.eraseIdx j) ?_)) e2 q⟩
          have := List.length_eraseIdx_le xs j
          omega
    · exact q.elim
  · exact q.elim
theorem de_append {ta : TA} {ta' : DTA} (ho : DE X F0 o to to') (ha : DA X F0 [e] ta ta') (hbase : attributeBase o "append" X.env (eval o X.env) = eval o X.env := by rfl)
    (hfew : ((backTo cpos (starEach [e] X.env)).all (fun x => !x.1) && (backToKw cpos (keywordEach [] X.env)).all (fun x => x.1.isSome) && decide ([e].length + ([] : List Keyword).length + (if ([] : List Keyword).isEmpty then 0 else 1) < 30)) = true := by rfl)
    (hline : (apos.endLine == cpos.line) = true := by rfl) (hs : starEach [e] X.env = (false, eval e X.env) :: starEach [] X.env := by rfl) : DE X F0 (.Call (.Attribute o "append" apos) [e] [] cpos) (tBM X.K "list" rAppend to ta) (dBM "list" dAppend to' ta') :=
  de_bm PySem.F.plainAttrs_list PySem.F.slot_list_append PySem.F.type_list_append mt_append lm_append ho ha (by decide) hbase hfew hline hs rfl
theorem de_pop (ho : DE X F0 o to to') (hbase : attributeBase o "pop" X.env (eval o X.env) = eval o X.env := by rfl) (hline : (apos.endLine == cpos.line) = true := by rfl) : DE X F0 (.Call (.Attribute o "pop" apos) [] [] cpos) (tBM0 X.K "list" rPop to) (dBM0 "list" dPop to') :=
  de_bm0 PySem.F.plainAttrs_list PySem.F.slot_list_pop PySem.F.type_list_pop mt_pop lm_pop ho (by decide) hbase hline
theorem de_popAt {ta : TA} {ta' : DTA} (ho : DE X F0 o to to') (ha : DA X F0 [e] ta ta') (hbase : attributeBase o "pop" X.env (eval o X.env) = eval o X.env := by rfl)
    (hfew : ((backTo cpos (starEach [e] X.env)).all (fun x => !x.1) && (backToKw cpos (keywordEach [] X.env)).all (fun x => x.1.isSome) && decide ([e].length + ([] : List Keyword).length + (if ([] : List Keyword).isEmpty then 0 else 1) < 30)) = true := by rfl)
    (hline : (apos.endLine == cpos.line) = true := by rfl) (hs : starEach [e] X.env = (false, eval e X.env) :: starEach [] X.env := by rfl) : DE X F0 (.Call (.Attribute o "pop" apos) [e] [] cpos) (tBM X.K "list" rPopAt to ta) (dBM "list" dPopAt to' ta') :=
  de_bm PySem.F.plainAttrs_list PySem.F.slot_list_pop PySem.F.type_list_pop mt_popAt lm_popAt ho ha (by decide) hbase hfew hline hs rfl
end
end DL

set_option maxRecDepth 100000
set_option maxHeartbeats 2000000
namespace DL
open PySem PySem.Spec PyProof.Rows L2

section
variable {X : Cx} {K : PySem.W.Frag} {F0 : FZ} {a b c e o : Expr} {es rest : List Expr} {ta tb tc te to : TE} {ta' tb' tc' te' to' : DTE} {pos : Pos}
/-! ### chains, and | or | not as values, truth -/
theorem le_chain {r r' : R2} {d d' : DR2} (hr : L2r K F0 d r) (hr' : L2r K F0 d' r') (ha : LE K F0 ta' ta) (hb : LE K F0 tb' tb) (hc : LE K F0 tc' tc) : LE K F0 (dChain d d' ta' tb' tc') (tChain r r' ta tb tc) := by
  intro F γ M σ H Q' Q e0 s g h k
  refine ha F γ M σ H _ _ e0 s g h fun F1 d1 v1 M1 H1 e1 s1 r1 q1 => ?_
  refine hb F1 γ M1 σ H1 _ _ (e0.tr e1) s1 (g.mono e1) q1 fun F2 d2 v2 M2 H2 e2 s2 r2 q2 => ?_
  refine hr F2 M2 H2 d1 d2 v1 v2 _ _ ((e0.tr e1).tr e2) s2 (r1.mono e2) r2 q2 fun F3 d3 v3 M3 H3 e3 s3 r3 q3 => ?_
  split at q3
  · cases r3
    refine ⟨true, rfl, ?_⟩
    refine hc F3 γ M3 σ H3 _ _ (((e0.tr e1).tr e2).tr e3) s3 (g.mono ((e1.trans e2).trans e3)) q3 fun F4 d4 v4 M4 H4 e4 s4 r4 q4 => ?_
    exact hr' F4 M4 H4 d2 d4 v2 v4 _ _ ((((e0.tr e1).tr e2).tr e3).tr e4) s4 (r2.mono (e3.trans e4)) r4 q4 fun F5 d5 v5 M5 H5 e5 s5 r5 q5 => k F5 d5 v5 M5 H5 ((((e1.trans e2).trans e3).trans e4).trans e5) s5 r5 q5
  · cases r3
    exact ⟨false, rfl, k F3 _ _ M3 H3 ((e1.trans e2).trans e3) s3 (.bl _) q3⟩
  · exact q3.elim
theorem de_chain {op op' : CmpOp} {r r' : R2} {d d' : DR2} (ho : OpR X (compareOp op) r) (hr : L2r X.K F0 d r) (ho' : OpR X (compareOp op') r') (hr' : L2r X.K F0 d' r') (ha : DE X F0 a ta ta') (hb : DE X F0 b tb tb') (hc : DE X F0 c tc tc')
    (hm : lastMarks [op, op'] [b, c] = false := by with_unfolding_all rfl) : DE X F0 (.Compare a [op, op'] [b, c] pos) (tChain r r' ta tb tc) (dChain d d' ta' tb' tc') :=
  ⟨pe_chain ho ho' ha.pe hb.pe hc.pe hm, le_chain hr hr' ha.le hb.le hc.le⟩
def dAndV (ta tb : DTE) : DTE := fun γ M Q => ta γ M fun x M1 => match x with
  | .bl c => if c = true then tb γ M1 Q else Q (.bl false) M1
  | _ => False
def dNotV (ta : DTE) : DTE := fun γ M Q => ta γ M fun x M1 => match x with
  | .bl c => Q (.bl (!c)) M1
  | _ => False
theorem de_one {op : BoolOp} (h : DE X F0 a ta ta') : DE X F0 (.BoolOp op [a] pos) ta ta' := ⟨pe_one h.pe, h.le⟩
theorem de_and (ha : DE X F0 a ta ta') (hb : DE X F0 (.BoolOp .And (b :: rest) pos) tb tb') : DE X F0 (.BoolOp .And (a :: b :: rest) pos) (tAndV ta tb) (dAndV ta' tb') := ⟨pe_and ha.pe hb.pe, fun F γ M σ H Q' Q e0 s g h k => by
  refine ha.le F γ M σ H _ _ e0 s g h fun F1 d1 v1 M1 H1 e1 s1 r1 q1 => ?_
  split at q1
  · rename_i c
    cases r1
    refine ⟨c, rfl, ?_⟩
    cases c with
    | true => exact hb.le F1 γ M1 σ H1 _ _ (e0.tr e1) s1 (g.mono e1) q1 fun F2 d2 v2 M2 H2 e2 s2 r2 q2 => k F2 d2 v2 M2 H2 (e1.trans e2) s2 r2 q2
    | false => exact k F1 _ _ M1 H1 e1 s1 (.bl _) q1
  · exact q1.elim⟩
theorem de_not (ha : DE X F0 a ta ta') : DE X F0 (.UnaryOp .Not a pos) (tNotV ta) (dNotV ta') := ⟨pe_not ha.pe, fun F γ M σ H Q' Q e0 s g h k => by
  refine ha.le F γ M σ H _ _ e0 s g h fun F1 d1 v1 M1 H1 e1 s1 r1 q1 => ?_
  split at q1
  · cases r1
    exact ⟨_, rfl, k F1 _ _ M1 H1 e1 s1 (.bl _) q1⟩
  · exact q1.elim⟩
/-- unary minus -/
def dNeg (ta : DTE) : DTE := fun γ M Q => ta γ M fun x M1 => match x with
  | .int i => Q (.int (-i)) M1
  | _ => False
theorem de_neg (ha : DE X F0 a ta ta') : DE X F0 (.UnaryOp .USub a pos) (tUn (rU fun i => .int (-i)) ta) (dNeg ta') := ⟨pe_un un_neg ha.pe, fun F γ M σ H Q' Q e0 s g h k => by
  refine ha.le F γ M σ H _ _ e0 s g h fun F1 d1 v1 M1 H1 e1 s1 r1 q1 => ?_
  split at q1
  · cases r1
    exact ⟨_, rfl, k F1 _ _ M1 H1 e1 s1 (.int _) q1⟩
  · exact q1.elim⟩
/-! ### in -/
/-- y in x -/
def inV' (M : Mp) (y : D) : D → Option Bool
  | .lst l => if y.ok 60 = true ∧ D.ok (.lst l) 60 = true then some (l.any fun z => D.eq z y) else none
  | .tup l => if y.ok 60 = true ∧ D.ok (.tup l) 60 = true then some (l.any fun z => D.eq z y) else none
  | .kt l => if y.ok 60 = true ∧ D.ok (.kt l) 60 = true then some (l.any fun z => D.eq z y) else none
  | .str z => (match y with
    | .str x => some (!(Builtin.Str.occurrences z x 0 z.length 1).isEmpty)
    | _ => none)
  | .ref p => (match M p with
    | some (.lst l) => if y.ok 60 = true ∧ D.ok (.lst l) 60 = true then some (l.any fun z => D.eq z y) else none
    | _ => (dLook M p y).map (·.isSome))
  | .dk ks l => (dkLook (.dk ks l) y).map (·.isSome)
  | .dt ks l => (dkLook (.dt ks l) y).map (·.isSome)
  | _ => none
def dIn (neg : Bool) : DR2 := fun y x M Q => ∃ k, inV' M y x = some k ∧ Q (.bl (if neg then !k else k)) M
def rInTD (K : PySem.W.Frag) : R2 := fun x y H Q => ∃ d ds, Dp K H x d ∧ Dp K H y (.tuple ds) ∧ SeqAt.shaped d = true ∧ SeqAt.shaped (.tuple ds) = true ∧ Q (.bl (ds.any fun z => PyData.eqv z d)) H
def rNotInTD (K : PySem.W.Frag) : R2 := fun x y H Q => ∃ d ds, Dp K H x d ∧ Dp K H y (.tuple ds) ∧ SeqAt.shaped d = true ∧ SeqAt.shaped (.tuple ds) = true ∧ Q (.bl (!ds.any fun z => PyData.eqv z d)) H
theorem op_inTD (hu : X.A.units + 65 < cLine) : OpR X (compareOp .In) (rInTD X.K) := by
  intro pins s σ H x y v u Q I rx ry h
  obtain ⟨d, ds, hd, he, sd, se, q⟩ := h
  obtain ⟨as, r1⟩ := Dp.reads I d x v hd rx
  obtain ⟨bs, r2⟩ := Dp.reads I (.tuple ds) y u he ry
  exact SeqAt.in_tuple_reads r2 r1 (by have := SeqAt.canLay_of_shaped se; simpa [PyData.canLay0] using this) (SeqAt.canLay_of_shaped sd) (room_in_shaped sd hu) ⟨.bl _, H, I, rfl, q⟩
theorem op_notInTD (hu : X.A.units + 65 < cLine) : OpR X (compareOp .NotIn) (rNotInTD X.K) := by
  intro pins s σ H x y v u Q I rx ry h
  obtain ⟨d, ds, hd, he, sd, se, q⟩ := h
  obtain ⟨as, r1⟩ := Dp.reads I d x v hd rx
  obtain ⟨bs, r2⟩ := Dp.reads I (.tuple ds) y u he ry
  exact SeqAt.notIn_tuple_reads r2 r1 (by have := SeqAt.canLay_of_shaped se; simpa [PyData.canLay0] using this) (SeqAt.canLay_of_shaped sd) (room_in_shaped sd hu) ⟨.bl _, H, I, rfl, q⟩
def rDIn (neg : Bool) : R2 := fun y x H Q => ∃ a o, x = .ref a ∧ DGet H a y o ∧ Q (.bl (if neg then !o.isSome else o.isSome)) H
theorem op_inDict (hu : X.A.units + 1 < cLine) : OpR X (compareOp .In) (rDIn false) := by
  intro pins s σ H y x iv u Q I ry rx h
  obtain ⟨a, ov, rfl, g, q⟩ := h
  obtain rfl : u = Value.ref a := rx
  exact d_in hu I g ry fun s3 I3 => ⟨.bl ov.isSome, H, I3, rfl, q⟩
theorem op_notInDict (hu : X.A.units + 1 < cLine) : OpR X (compareOp .NotIn) (rDIn true) := by
  intro pins s σ H y x iv u Q I ry rx h
  obtain ⟨a, ov, rfl, g, q⟩ := h
  obtain rfl : u = Value.ref a := rx
  exact d_notIn hu I g ry fun s3 I3 => ⟨.bl (!ov.isSome), H, I3, rfl, q⟩
def rInA (K : PySem.W.Frag) : R2 := fun x y H Q => rInD K x y H Q ∨ rInTD K x y H Q ∨ (∃ i j, x = .str i ∧ y = .str j ∧ Q (.bl (!(Builtin.Str.occurrences j i 0 j.length 1).isEmpty)) H) ∨ rDIn false x y H Q
def rNotInA (K : PySem.W.Frag) : R2 := fun x y H Q => rNotInD K x y H Q ∨ rNotInTD K x y H Q ∨ (∃ i j, x = .str i ∧ y = .str j ∧ Q (.bl (!(!(Builtin.Str.occurrences j i 0 j.length 1).isEmpty))) H) ∨ rDIn true x y H Q
theorem op_inA {n : Nat} (hr : Room n X.A) : OpR X (compareOp .In) (rInA X.K) := (op_inD (by have := hr.un; omega)).or ((op_inTD (by have := hr.un; omega)).or (op_in_str.or (op_inDict (hu_of hr))))
theorem op_notInA {n : Nat} (hr : Room n X.A) : OpR X (compareOp .NotIn) (rNotInA X.K) := (op_notInD (by have := hr.un; omega)).or ((op_notInTD (by have := hr.un; omega)).or (op_notin_str.or (op_notInDict (hu_of hr))))
theorem any_py (y : D) : ∀ l : List D, ((D.pyL l).any fun z => PyData.eqv z y.py) = l.any fun z => D.eq z y
  | [] => rfl
  | d :: l => by simp only [D.pyL, List.any_cons, any_py y l, D.eq]
theorem inV_cases {F : FZ} {M : Mp} {H : Hp} {y x : D} {v u : V} {k : Bool} (s : SR K F M H) (r1 : Rp K F y v) (r2 : Rp K F x u) (h : inV' M y x = some k) :
    (∃ d ds, Dp K H v d ∧ Dp K H u (.list ds) ∧ SeqAt.shaped d = true ∧ SeqAt.shaped (.list ds) = true ∧ k = ds.any fun z => PyData.eqv z d) ∨ (∃ d ds, Dp K H v d ∧ Dp K H u (.tuple ds) ∧ SeqAt.shaped d = true ∧ SeqAt.shaped (.tuple ds) = true ∧ k = ds.any fun z => PyData.eqv z d) ∨
      (∃ i j, v = .str i ∧ u = .str j ∧ k = (!(Builtin.Str.occurrences j i 0 j.length 1).isEmpty)) ∨ ∃ a o, u = .ref a ∧ DGet H a v o ∧ k = o.isSome := by
  cases r2 with
  | lst a b =>
    simp only [inV'] at h
    split at h
    · rename_i hok
      cases h
      have hp := Rp.dp (K := K) s.fz (.lst a b) hok.2
      simp only [D.py] at hp
      have sh := D.ok_shaped hok.2
      simp only [D.py] at sh
      exact .inl ⟨_, _, r1.dp s.fz hok.1, hp, D.ok_shaped hok.1, sh, by rw [any_py]⟩
    · cases h
  | tup a b =>
    simp only [inV'] at h
    split at h
    · rename_i hok
      cases h
      have hp := Rp.dp (K := K) s.fz (.tup a b) hok.2
      simp only [D.py] at hp
      have sh := D.ok_shaped hok.2
      simp only [D.py] at sh
      exact .inr (.inl ⟨_, _, r1.dp s.fz hok.1, hp, D.ok_shaped hok.1, sh, by rw [any_py]⟩)
    · cases h
  | kt a b =>
    simp only [inV'] at h
    split at h
    · rename_i hok
      cases h
      have hp := Rp.dp (K := K) s.fz (.kt a b) hok.2
      simp only [D.py] at hp
      have sh := D.ok_shaped hok.2
      simp only [D.py] at sh
      exact .inr (.inl ⟨_, _, r1.dp s.fz hok.1, hp, D.ok_shaped hok.1, sh, by rw [any_py]⟩)
    · cases h
  | str z =>
    simp only [inV'] at h
    split at h
    · cases r1
      cases h
      exact .inr (.inr (.inl ⟨_, _, rfl, rfl, rfl⟩))
    · cases h
  | ref p =>
    simp only [inV'] at h
    split at h
    · rename_i l hm
      split at h
      · rename_i hok
        cases h
        obtain ⟨w, h1, h2⟩ := s.mu p _ hm
        cases h2 with
        | lst b z =>
          have hp : Dp K H (.ref p) (D.lst l).py := by
            have hl : D.okL l 59 = true := by have := hok.2; simpa [D.ok] using this
            simp only [D.py]
            exact .lst (SqL.of h1) (RpL.dp s.fz b hl)
          simp only [D.py] at hp
          have sh := D.ok_shaped hok.2
          simp only [D.py] at sh
          exact .inl ⟨_, _, r1.dp s.fz hok.1, hp, D.ok_shaped hok.1, sh, by rw [any_py]⟩
      · cases h
    · obtain ⟨o, h1, h2⟩ := Option.map_eq_some_iff.mp h
      obtain ⟨o', g, c⟩ := dLook_get s r1 h1
      refine .inr (.inr (.inr ⟨p, o', rfl, g, ?_⟩))
      rcases c with ⟨z1, z2⟩ | ⟨d1, w, z1, z2, _⟩ <;> subst z1 z2 <;> exact h2.symm
  | dk a b =>
    simp only [inV'] at h
    obtain ⟨o, h1, h2⟩ := Option.map_eq_some_iff.mp h
    obtain ⟨p, o', ep, g, c⟩ := dkLook_get s (.dk a b) r1 h1
    refine .inr (.inr (.inr ⟨p, o', ep, g, ?_⟩))
    rcases c with ⟨z1, z2⟩ | ⟨d1, w, z1, z2, _⟩ <;> subst z1 z2 <;> exact h2.symm
  | dt a b =>
    simp only [inV'] at h
    obtain ⟨o, h1, h2⟩ := Option.map_eq_some_iff.mp h
    obtain ⟨p, o', ep, g, c⟩ := dkLook_get s (.dt a b) r1 h1
    refine .inr (.inr (.inr ⟨p, o', ep, g, ?_⟩))
    rcases c with ⟨z1, z2⟩ | ⟨d1, w, z1, z2, _⟩ <;> subst z1 z2 <;> exact h2.symm
  | _ => simp [inV'] at h
theorem l2_in : L2r K F0 (dIn false) (rInA K) := by
  intro F M H d e x y Q' Q e0 s r1 r2 q k
  obtain ⟨b, hb, q⟩ := q
  have kk := k F _ _ M H (FLe.refl F) s (.bl _) q
  rcases inV_cases s r1 r2 hb with ⟨d1, ds, h1, h2, h3, h4, h5⟩ | ⟨d1, ds, h1, h2, h3, h4, h5⟩ | ⟨i, j, h1, h2, h3⟩ | ⟨p, o, h1, h2, h3⟩
  · subst h5; exact .inl ⟨d1, ds, h1, h2, h3, h4, kk⟩
  · subst h5; exact .inr (.inl ⟨d1, ds, h1, h2, h3, h4, kk⟩)
  · subst h3; exact .inr (.inr (.inl ⟨i, j, h1, h2, kk⟩))
  · subst h3; exact .inr (.inr (.inr ⟨p, o, h1, h2, kk⟩))
theorem l2_notIn : L2r K F0 (dIn true) (rNotInA K) := by
  intro F M H d e x y Q' Q e0 s r1 r2 q k
  obtain ⟨b, hb, q⟩ := q
  have kk := k F _ _ M H (FLe.refl F) s (.bl _) q
  rcases inV_cases s r1 r2 hb with ⟨d1, ds, h1, h2, h3, h4, h5⟩ | ⟨d1, ds, h1, h2, h3, h4, h5⟩ | ⟨i, j, h1, h2, h3⟩ | ⟨p, o, h1, h2, h3⟩
  · subst h5; exact .inl ⟨d1, ds, h1, h2, h3, h4, kk⟩
  · subst h5; exact .inr (.inl ⟨d1, ds, h1, h2, h3, h4, kk⟩)
  · subst h3; exact .inr (.inr (.inl ⟨i, j, h1, h2, kk⟩))
  · subst h3; exact .inr (.inr (.inr ⟨p, o, h1, h2, kk⟩))
theorem de_in {n : Nat} (hr : Room n X.A) (ha : DE X F0 a ta ta') (hb : DE X F0 b tb tb') (hm : behindInMarks .In b = false := by rfl) : DE X F0 (.Compare a [.In] [b] pos) (tOp (rInA X.K) ta tb) (dOp (dIn false) ta' tb') := de_cmp (op_inA hr) l2_in ha hb hm
/-! ### + of lists, tuples, texts; slices -/
/-- the items of xs[lo:hi] -/
def cutD {α : Type} (xs : List α) (lo hi : Option Int) : List α := (xs.drop (HT.sIx xs.length 0 lo)).take (HT.sIx xs.length xs.length hi - HT.sIx xs.length 0 lo)
abbrev DTO := G → Mp → (Option Int → Mp → Prop) → Prop
def LO (K : PySem.W.Frag) (F0 : FZ) (t' : DTO) (t : TO) : Prop := ∀ (F : FZ) (γ : G) (M : Mp) (σ : L2.St) (H : Hp) (Q' : Option Int → Mp → Prop) (Q : Option Int → Hp → Prop), Bs F0 F → SR K F M H → GR K F γ σ → t' γ M Q' →
  (∀ F1 o M1 H1, FLe F F1 → SR K F1 M1 H1 → Q' o M1 → Q o H1) → t σ H Q
structure DO (X : Cx) (F0 : FZ) (e : Option Expr) (t : TO) (t' : DTO) : Prop where
  po : PO X e t
  le : LO X.K F0 t' t
def dNoPart : DTO := fun _ M Q => Q none M
def dPart (t : DTE) : DTO := fun γ M Q => t γ M fun x M1 => match x with
  | .int i => Q (some i) M1
  | _ => False
theorem do_none : DO X F0 none tNoPart dNoPart := ⟨po_none, fun F γ M σ H Q' Q e0 s g q k => k F none M H (FLe.refl F) s q⟩
theorem do_some (h : DE X F0 e te te') : DO X F0 (some e) (tPart te) (dPart te') := ⟨po_some h.pe, fun F γ M σ H Q' Q e0 s g q k => by
  refine h.le F γ M σ H _ _ e0 s g q fun F1 d1 v1 M1 H1 e1 s1 r1 q1 => ?_
  split at q1
  · cases r1
    exact ⟨_, rfl, k F1 _ M1 H1 e1 s1 q1⟩
  · exact q1.elim⟩
def dSl (te : DTE) (tl th : DTO) : DTE := fun γ M Q => te γ M fun x M1 => tl γ M1 fun l M2 => th γ M2 fun u M3 => match x with
  | .tup xs => Q (.tup (cutD xs l u)) M3
  | .lst xs => Q (.lst (cutD xs l u)) M3
  | .ls xs => Q (.lst (cutD xs l u)) M3
  | .ref p => (match M3 p with
    | some (.lst xs) => Q (.lst (cutD xs l u)) M3
    | _ => False)
  | _ => False
def dSlM (te : DTE) (tl th : DTO) : DTE := fun γ M Q => te γ M fun x M1 => tl γ M1 fun l M2 => th γ M2 fun u M3 => match x with
  | .lst xs => ∀ p, M3 p = none → Q (.ref p) (mset M3 p (.lst (cutD xs l u)))
  | .ls xs => ∀ p, M3 p = none → Q (.ref p) (mset M3 p (.lst (cutD xs l u)))
  | .ref p => (match M3 p with
    | some (.lst xs) => ∀ p, M3 p = none → Q (.ref p) (mset M3 p (.lst (cutD xs l u)))
    | _ => False)
  | _ => False
theorem cut_rp {F : FZ} {l : List D} {xs : List V} (r : RpL K F l xs) (lo hi : Option Int) : RpL K F (cutD l lo hi) (cutV xs lo hi) := by
  unfold cutD cutV
  rw [r.length]
  exact (r.drop _).take _
def rSlX' (K : PySem.W.Frag) : V → Option Int → Option Int → Hp → VK → Prop := fun x lo hi H Q => rSlA K x lo hi H Q ∨ rSlL K x lo hi H Q
theorem sl_X : SlR X (rSlX' X.K) := sl_tupA.or sl_list
theorem cutV_whole {xs : List V} {lo hi : Option Int} (h : HT.sIx xs.length 0 lo = 0 ∧ HT.sIx xs.length xs.length hi = xs.length) : cutV xs lo hi = xs := by
  unfold cutV
  rw [h.1, h.2]
  simp
theorem de_slice {lo hi : Option Expr} {tl th : TO} {tl' th' : DTO} {p2 : Pos} (he : DE X F0 e te te') (hl : DO X F0 lo tl tl') (hu : DO X F0 hi th th') : DE X F0 (.Subscript e (.Slice lo hi none p2) pos) (tSl (rSlX' X.K) te tl th) (dSl te' tl' th') := ⟨pe_slice sl_X he.pe hl.po hu.po, fun F γ M σ H Q' Q e0 s g q k => by
  refine he.le F γ M σ H _ _ e0 s g q fun F1 d1 v1 M1 H1 e1 s1 r1 q1 => ?_
  refine hl.le F1 γ M1 σ H1 _ _ (e0.tr e1) s1 (g.mono e1) q1 fun F2 l M2 H2 e2 s2 q2 => ?_
  refine hu.le F2 γ M2 σ H2 _ _ ((e0.tr e1).tr e2) s2 (g.mono (e1.trans e2)) q2 fun F3 u M3 H3 e3 s3 q3 => ?_
  have r3 := r1.mono (e2.trans e3)
  have ee := (e1.trans e2).trans e3
  split at q3
  · cases r3 with
    | tup a b =>
      rename_i xs
      refine .inl ⟨_, xs, rfl, s3.sqT a, fun w => ?_, fun w p hp => ?_⟩
      · have hc := cut_rp b l u
        rw [cutV_whole w] at hc
        exact k F3 _ _ M3 H3 ee s3 (.tup a hc) q3
      · have e4 := same_upd (o := .tup (cutV xs l u)) (s3.freeF hp)
        exact k _ _ _ _ _ (ee.trans e4) (s3.newF hp (Nat.le_trans (cutV_length xs l u) (s3.lenT a))) (.tup upd_same ((cut_rp b l u).mono e4)) q3
  · cases r3 with
    | lst a b =>
      rename_i xs
      refine .inr ⟨_, xs, rfl, (SqL.of (s3.fz _ _ a)), fun p hp => ?_⟩
      have e4 := same_upd (o := .lst (cutV xs l u)) (s3.freeF hp)
      exact k _ _ _ _ _ (ee.trans e4) (s3.newF hp (Nat.le_trans (cutV_length xs l u) (s3.lenL (SqL.of a)))) (.lst upd_same ((cut_rp b l u).mono e4)) q3
  · cases r3 with
    | ls a b =>
      rename_i xs
      refine .inr ⟨_, xs, rfl, s3.fz.seq a, fun p hp => ?_⟩
      have e4 := same_upd (o := .lst (cutV xs l u)) (s3.freeF hp)
      exact k _ _ _ _ _ (ee.trans e4) (s3.newF hp (Nat.le_trans (cutV_length xs l u) (s3.lenL a))) (.lst upd_same ((cut_rp b l u).mono e4)) q3
  · cases r3
    split at q3
    · rename_i hm
      obtain ⟨w, h1, h2⟩ := s3.mu _ _ hm
      cases h2 with
      | lst b z =>
        rename_i xs
        refine .inr ⟨_, xs, rfl, SqL.of h1, fun p hp => ?_⟩
        have e4 := same_upd (o := .lst (cutV xs l u)) (s3.freeF hp)
        exact k _ _ _ _ _ (ee.trans e4) (s3.newF hp (Nat.le_trans (cutV_length xs l u) z)) (.lst upd_same ((cut_rp b l u).mono e4)) q3
    · exact q3.elim
  · exact q3.elim⟩
theorem de_sliceM {lo hi : Option Expr} {tl th : TO} {tl' th' : DTO} {p2 : Pos} (he : DE X F0 e te te') (hl : DO X F0 lo tl tl') (hu : DO X F0 hi th th') : DE X F0 (.Subscript e (.Slice lo hi none p2) pos) (tSl (rSlX' X.K) te tl th) (dSlM te' tl' th') := ⟨pe_slice sl_X he.pe hl.po hu.po, fun F γ M σ H Q' Q e0 s g q k => by
  refine he.le F γ M σ H _ _ e0 s g q fun F1 d1 v1 M1 H1 e1 s1 r1 q1 => ?_
  refine hl.le F1 γ M1 σ H1 _ _ (e0.tr e1) s1 (g.mono e1) q1 fun F2 l M2 H2 e2 s2 q2 => ?_
  refine hu.le F2 γ M2 σ H2 _ _ ((e0.tr e1).tr e2) s2 (g.mono (e1.trans e2)) q2 fun F3 u M3 H3 e3 s3 q3 => ?_
  have r3 := r1.mono (e2.trans e3)
  have ee := (e1.trans e2).trans e3
  split at q3
  · cases r3 with
    | lst a b =>
      rename_i xs
      exact .inr ⟨_, xs, rfl, (SqL.of (s3.fz _ _ a)), fun p hp => k F3 _ _ _ _ ee (s3.putN hp (.lst (cut_rp b l u) (Nat.le_trans (cutV_length xs l u) (s3.lenL (SqL.of a))))) (.ref p) (q3 p (s3.freeM hp))⟩
  · cases r3 with
    | ls a b =>
      rename_i xs
      exact .inr ⟨_, xs, rfl, s3.fz.seq a, fun p hp => k F3 _ _ _ _ ee (s3.putN hp (.lst (cut_rp b l u) (Nat.le_trans (cutV_length xs l u) (s3.lenL a)))) (.ref p) (q3 p (s3.freeM hp))⟩
  · cases r3
    split at q3
    · rename_i hm
      obtain ⟨w, h1, h2⟩ := s3.mu _ _ hm
      cases h2 with
      | lst b z =>
        rename_i xs
        exact .inr ⟨_, xs, rfl, SqL.of h1, fun p hp => k F3 _ _ _ _ ee (s3.putN hp (.lst (cut_rp b l u) (Nat.le_trans (cutV_length xs l u) z))) (.ref p) (q3 p (s3.freeM hp))⟩
    · exact q3.elim
  · exact q3.elim⟩

/-! ### new dicts -/
def dNewK : DTE := fun _ M Q => ∀ p, M p = none → Q (.ref p) (mset M p (.dK []))
theorem de_newK : DE X F0 (.Dict [] [] pos) tDNewK dNewK := ⟨pe_dnewK, fun F γ M σ H Q' Q e0 s g q k p hp => k F _ _ _ _ (FLe.refl F) (s.putN hp (.dK .nil (by simp))) (.ref p) (q p (s.freeM hp))⟩
end
end DL

set_option maxRecDepth 100000
set_option maxHeartbeats 2000000
namespace DL
open PySem PySem.Spec PyProof.Rows L2

/-! ### instances -/
def putD (f : Str) (v : D) : List (Str × D) → List (Str × D)
  | [] => [(f, v)]
  | (g, u) :: fs => if g = f then (g, v) :: fs else (g, u) :: putD f v fs
section
variable {K : PySem.W.Frag} {F : FZ} {M : Mp} {H : Hp}
theorem kvr_lookup {f : Str} {d : D} : ∀ {l : List (Str × D)} {m : List (Str × V)}, KVR K F l m → l.lookup f = some d → ∃ v, m.lookup f = some v ∧ Rp K F d v
  | _, _, .nil, h => by cases h
  | (g, e) :: l, (g2, v) :: m, .cons r t, h => by
    obtain ⟨e1, r⟩ := r
    simp only at e1 r
    subst e1
    rw [List.lookup_cons] at h ⊢
    cases hb : f == g with
    | true => rw [hb] at h; cases h; exact ⟨v, rfl, r⟩
    | false => rw [hb] at h; exact kvr_lookup t h
theorem kvr_putD {f : Str} {d : D} {v : V} (r : Rp K F d v) : ∀ {l : List (Str × D)} {m : List (Str × V)}, KVR K F l m → KVR K F (putD f d l) (putF f v m)
  | _, _, .nil => .cons ⟨rfl, r⟩ .nil
  | (g, e) :: l, (g2, u) :: m, .cons q t => by
    obtain ⟨e1, q⟩ := q
    simp only at e1 q
    subst e1
    show KVR K F (if g = f then (g, d) :: l else (g, e) :: putD f d l) (if g = f then (g, v) :: m else (g, u) :: putF f v m)
    by_cases h : g = f
    · rw [if_pos h, if_pos h]
      exact .cons ⟨rfl, r⟩ t
    · rw [if_neg h, if_neg h]
      exact .cons ⟨rfl, q⟩ (kvr_putD r t)
theorem SR.ins (s : SR K F M H) {p C : Addr} {fs : List (Str × D)} (h : M p = some (.ins C fs)) : ∃ dx gs, H p = some (.ins C dx gs) ∧ KVR K F fs gs := by
  obtain ⟨u, h1, h2⟩ := s.mu p _ h
  cases h2 with
  | ins r => exact ⟨_, _, h1, r⟩
end
section
variable {X : Cx} {K : PySem.W.Frag} {F0 : FZ} {e o value : Expr} {es : List Expr} {te to tv : TE} {te' to' tv' : DTE} {t : TA} {t' : DTA} {f : Str} {p pos pos' : Pos} {C : Addr}
def dFld (C : Addr) (ta : DTE) (f : Str) : DTE := fun γ M Q => ta γ M fun x M1 => match x with
  | .ref p => (match M1 p with
    | some (.ins C' fs) => C' = C ∧ ∃ d, fs.lookup f = some d ∧ Q d M1
    | _ => False)
  | _ => False
theorem de_fld (T : Cls X.K C) (n : NoAttr X.K C f) (he : DE X F0 e te te') (hb : attributeBase e f X.env (eval e X.env) = eval e X.env := by rfl) : DE X F0 (.Attribute e f pos) (tFld X.K te f) (dFld C te' f) := ⟨pe_fld he.pe hb, fun F γ M σ H Q' Q e0 s g q k => by
  refine he.le F γ M σ H _ _ e0 s g q fun F1 d1 v1 M1 H1 e1 s1 r1 q1 => ?_
  split at q1
  · rename_i p
    split at q1
    · rename_i C' fs hm
      obtain ⟨rfl, d, hl, q1⟩ := q1
      obtain ⟨dx, gs, h1, h2⟩ := s1.ins hm
      obtain ⟨v, hv, rv⟩ := kvr_lookup h2 hl
      cases r1
      exact ⟨p, C', dx, gs, v, rfl, h1, T, n, hv, k F1 d v M1 H1 e1 s1 rv q1⟩
    · exact q1.elim
  · exact q1.elim⟩
def dFldS (C : Addr) (ta tv : DTE) (f : Str) : DTS := fun D0 γ M => tv γ M fun y M1 => ta γ M1 fun x M2 => match x with
  | .ref p => (match M2 p with
    | some (.ins C' fs) => C' = C ∧ fs.length < 1000 ∧ D0.nx γ (mset M2 p (.ins C (putD f y fs)))
    | _ => False)
  | _ => False
theorem ds_fld (T : Cls X.K C) (n : NoAttr X.K C f) (ho : DE X F0 o to to') (hv : DE X F0 value tv tv') (hs : swapsWith value (some (.Attribute o f pos')) pos.line X.env = pure false := by rfl) : DS X F0 (.Assign [.Attribute o f pos'] value pos) (sFld X.K to tv f) (dFldS C to' tv' f) := ⟨ps_fld ho.pe hv.pe hs, fun F γ M σ H D' D0 e0 s g q er => by
  refine hv.le F γ M σ H _ _ e0 s g q fun F1 d1 v1 M1 H1 e1 s1 r1 q1 => ?_
  refine ho.le F1 γ M1 σ H1 _ _ (e0.tr e1) s1 (g.mono e1) q1 fun F2 d2 v2 M2 H2 e2 s2 r2 q2 => ?_
  split at q2
  · rename_i p
    split at q2
    · rename_i C' fs hm
      obtain ⟨rfl, hl, q2⟩ := q2
      obtain ⟨dx, gs, h1, h2⟩ := s2.ins hm
      cases r2
      exact ⟨p, C', dx, gs, rfl, h1, T, n, by rw [← kvr_len h2]; exact hl, er.nx F2 γ _ σ _ (e1.trans e2) (s2.putM hm (.ins (kvr_putD (r1.mono e2) h2))) (g.mono (e1.trans e2)) q2⟩
    · exact q2.elim
  · exact q2.elim⟩
def dMake (C : Addr) (sp : DSp) (E : DXK) (t : DTA) : DTE := fun γ M Q => t γ M fun ds M1 => ∀ p, M1 p = none → sp (.ref p :: ds) (mset M1 p (.ins C [])) (fun v M2 => v = .non ∧ Q (.ref p) M2) E
/-- a class as it is called -/
structure DMk (P : Program) (w : World) (K : PySem.W.Frag) (mg : Str → Option Value) (base : Heap) (CX : CXT) (k : Nat) (x : Str) (C : Addr) (sp : DSp) : Prop where
  ex : ∃ f fd ps, FnOk P w K mg base CX k f fd ps (liftSp K sp) ∧ mg x = some (.ref C) ∧ Mk K C f ∧ Binds K fd ps []
theorem le_make {sp : DSp} {E : DXK} (ha : LA K F0 t' t) : LE K F0 (dMake C sp E t') (tMake C (liftSp K sp) [] (lXa K E) t) := by
  intro F γ M σ H Q' Q e0 s g q k
  refine ha F γ M σ H _ _ e0 s g q fun F1 ds vs M1 H1 e1 s1 r1 q1 => ?_
  intro x dx hx hdx hne
  have s2 := s1.other (o := .own x) hdx
  have hx2 : (upd H1 dx (.own x)) x = none := by rw [upd_ne (Ne.symm hne)]; exact hx
  have s3 := s2.putN (o := .ins C []) (u := .ins C dx []) hx2 (.ins .nil)
  rw [List.append_nil]
  refine ⟨F1, .ref x :: ds, _, _, E, s3, .cons (.ref x) r1, q1 x (s1.freeM hx), fun F2 d v M2 H2 e2 s2 r2 q2 => ?_, fun c d H1 h => ⟨F1, h⟩⟩
  obtain ⟨rfl, q2⟩ := q2
  cases r2
  exact ⟨rfl, k F2 _ _ M2 H2 (e1.trans e2) s2 (.ref x) q2⟩
theorem de_make {CX : CXT} {k j : Nat} {x : Str} {sp : DSp} {E : DXK} (c : DMk X.prog X.w X.K X.mg X.base CX k x C sp) (hr : Room j X.A) (hx : GoesA CX X E) (ha : DA X F0 (e :: es) t t') (hk : k + 1 ≤ j := by decide) (hg : Gl X x := by rfl)
    (hdb : (x == ("__debug__" : Str)) = false := by decide) (he : starEach (e :: es) X.env = (false, eval e X.env) :: starEach es X.env := by rfl) (hpl : (backTo pos (starEach es X.env)).any (·.1) = false := by rfl) :
    DE X F0 (.Call (.Name x p) (e :: es) [] pos) (tMake C (liftSp X.K sp) [] (lXa X.K E) t) (dMake C sp E t') := by
  obtain ⟨f, fd, ps, G, hm, mk, hb⟩ := c.ex
  exact ⟨pe_make mk G (hr.mono hk) hg hm hb .nil hx.p ha.pa hdb he hpl, le_make ha.le⟩
def dProp (C : Addr) (sp : DSp) (E : DXK) (ta : DTE) : DTE := fun γ M Q => ta γ M fun x M1 => match x with
  | .ref p => (∃ fs, M1 p = some (.ins C fs)) ∧ sp [.ref p] M1 Q E
  | _ => False
/-- a property of a class -/
structure DPr (P : Program) (w : World) (K : PySem.W.Frag) (mg : Str → Option Value) (base : Heap) (k : Nat) (C : Addr) (f : Str) (sp : DSp) : Prop where
  ex : ∃ pa g fd ps, FnOk P w K mg base CX0 k g fd ps (liftSp K sp) ∧ PropOf K C f pa g ∧ Binds K fd ps []
theorem de_prop {k j : Nat} {sp : DSp} (T : Cls X.K C) (c : DPr X.prog X.w X.K X.mg X.base k C f sp) (hr : Room j X.A) (he : DE X F0 e te te') (hk : k + 1 ≤ j := by decide) (hb : attributeBase e f X.env (eval e X.env) = eval e X.env := by rfl) :
    DE X F0 (.Attribute e f pos) (tProp C (liftSp X.K sp) [] (lXa X.K DXK.no) te) (dProp C sp DXK.no te') := by
  obtain ⟨pa, g, fd, ps, G, pr, hbi⟩ := c.ex
  refine ⟨pe_prop he.pe T pr G (hr.mono hk) hbi .nil pass0' hb, fun F γ M σ H Q' Q e0 s g q k => ?_⟩
  refine he.le F γ M σ H _ _ e0 s g q fun F1 d1 v1 M1 H1 e1 s1 r1 q1 => ?_
  split at q1
  · rename_i p
    obtain ⟨⟨fs, hm⟩, q1⟩ := q1
    obtain ⟨dx, gs, h1, h2⟩ := s1.ins hm
    cases r1
    exact ⟨p, dx, gs, rfl, h1, F1, _, M1, _, _, s1, .cons (.ref p) .nil, q1, fun F2 d v M2 H2 e2 s2 r2 q2 => k F2 d v M2 H2 (e1.trans e2) s2 r2 q2, fun c d H1 h => ⟨F1, h⟩⟩
  · exact q1.elim
end
section
variable {P : Program} {w : World} {K : PySem.W.Frag} {mg : Str → Option Value} {base : Heap}
/-- a method of the text -/
structure DMet (K : PySem.W.Frag) (x qual : Str) (st : Stmt) (f : Addr) (ps : List Str) : Prop where
  ex : ∃ fd, Fun K x qual st f fd ∧ Binds K fd ps []
theorem dokM {x qual : Str} {st : Stmt} {f : Addr} {N ps : List Str} {k : Nat} {sp : DSp} (F : DMet K x qual st f ps) (S : FnScope N ps (defScope st)) (len : ∀ ds M Q E, sp ds M Q E → ds.length = ps.length)
    (hbody : ∀ (cdv : Value) (A : Around) (outer : List Env) (s : Shared) (H : Hp) (E : XK) (F0 : FZ), Room k (A.deeper (envOfC qual (defScope st) s.heap.objs.size f cdv)) →
      ∃ t t', DB (cxOf CX0 P w K mg base N qual (defScope st) f cdv A outer s H E).nox F0 (defBody st) t t' ∧ ∀ ds M Q' E', sp ds M Q' E' → t' { nx := fun _ M1 => fin Q' .non M1, rt := fin Q' } (dstart N ds) M) :
    ∃ fd, FnOk P w K mg base CX0 (k + 1) f fd ps (liftSp K sp) ∧ Binds K fd ps [] := by
  obtain ⟨fd, G, hb⟩ := F.ex
  refine ⟨fd, ?_, hb⟩
  refine G.ok S (fun vs H Q E h => ?_) (fun cdv A outer s H vs Q E hr h => ?_)
  · obtain ⟨F, ds, M, Q', E', _, r, q, _⟩ := h
    rw [← r.length]; exact len _ _ _ _ q
  · obtain ⟨F, ds, M, Q', E', s1, r, q, kq, _⟩ := h
    obtain ⟨t, t', d, h⟩ := hbody cdv A outer s H E F hr
    refine ⟨t, d.ps, d.le F (dstart N ds) M (L2.start N vs) H { nx := fun _ M1 => fin Q' .non M1, rt := fin Q' } { nx := fun _ H' => Q .non H', rt := Q } (Bs.refl _) s1 (gr_start r) (h ds M Q' E' q) ⟨?_, ?_, fun _ _ _ _ _ _ _ _ z => z.elim, fun _ _ _ _ _ _ _ _ z => z.elim⟩⟩
    · rintro F1 γ1 M1 σ1 H1 e1 s1 g1 ⟨M2, l, q⟩
      exact kq F1 .non .non M2 H1 e1 (s1.less l) .non q
    · rintro F1 d1 v1 M1 H1 e1 s1 r1 ⟨M2, l, q⟩
      exact kq F1 d1 v1 M2 H1 e1 (s1.less l) r1 q
end

/-! ### the law's own promise -/
def spLaw : DSp := fun ds M Q _ => ∃ ns : List Int, ds = [.ls (ns.map .int)] ∧ ns.length ≤ 63 ∧ (∀ a, M a = none) ∧ ∀ M', Q (.bl true) M'
theorem law_sp {K : PySem.W.Frag} {H : Hp} {a : Addr} {ns : List Int} (hl : ns.length ≤ 63) (h : SqL K H a (ns.map V.int)) : liftSp K spLaw [.ref a] H (fun v _ => v = .bl true) fun _ _ _ => False := by
  have hz : (ns.map V.int).length ≤ sizeLine := by rw [List.length_map, sizeLine_eq]; omega
  have none_ok : ∀ (f : Hp), Same f H → (∀ b o, f b = some o → FzO o) → SR K ⟨f, fun _ => none, fun _ => none⟩ (fun _ => none) H := fun f e ok => ⟨e, ok, fun _ _ z => (by cases z), fun _ _ z => (by cases z), fun _ _ z => (by cases z), fun _ _ z => (by cases z), fun _ _ z => (by cases z), fun _ _ z => (by cases z)⟩
  have fin : ∀ f : Hp, SR K ⟨f, fun _ => none, fun _ => none⟩ (fun _ => none) H → SqL K f a (ns.map V.int) → liftSp K spLaw [.ref a] H (fun v _ => v = .bl true) fun _ _ _ => False := fun f s hq =>
    ⟨⟨f, fun _ => none, fun _ => none⟩, [.ls (ns.map .int)], fun _ => none, fun d _ => d = .bl true, DXK.no, s, .cons (.ls hq (RpL.ofInt ns)) .nil, ⟨ns, rfl, hl, fun _ => rfl, fun _ => rfl⟩, fun F1 d v M1 H1 e s r q => by subst q; cases r; rfl, fun c d H1 ⟨_, _, _, _, _, _, z⟩ => z⟩
  have one : ∀ o, H a = some o → FzO o → SqL K (fun b => if b = a then some o else none) a (ns.map V.int) → liftSp K spLaw [.ref a] H (fun v _ => v = .bl true) fun _ _ _ => False := fun o ho ok hq =>
    fin _ (none_ok _ (fun b u z => by
      by_cases hb : b = a
      · rw [if_pos hb] at z; cases z; rw [hb]; exact ho
      · rw [if_neg hb] at z; cases z) fun b u z => by
      by_cases hb : b = a
      · rw [if_pos hb] at z; cases z; exact ok
      · rw [if_neg hb] at z; cases z) hq
  rcases h with (h | ⟨o, h⟩) | h
  · exact one _ h hz (.inl (.inl (if_pos rfl)))
  · exact one _ h hz (.inl (.inr ⟨o, if_pos rfl⟩))
  · exact fin (fun _ => none) (none_ok _ (fun _ _ z => (by cases z)) fun _ _ z => (by cases z)) (.inr h)
end DL

set_option maxRecDepth 100000
set_option maxHeartbeats 2000000
namespace DL
open PySem PySem.Spec PyProof.Rows L2

section
variable {X : Cx} {K : PySem.W.Frag} {F0 : FZ} {a b e o i value : Expr} {ta tb te : TE} {ta' tb' te' : DTE} {pos : Pos} {n : Nat}
/-! ### comparisons as tests -/
theorem dt_lt (ha : DE X F0 a ta ta') (hb : DE X F0 b tb tb') : DT X F0 (.Compare a [.Lt] [b] pos) (tTest (tOp (rI0 fun i j => .bl (decide (i < j))) ta tb)) (dTest (dOp (dII fun i j => .bl (decide (i < j))) ta' tb')) := dt_cmp op_lt (l2_II fun _ _ _ => .bl _) ha hb (nomark _)
theorem dt_gt (ha : DE X F0 a ta ta') (hb : DE X F0 b tb tb') : DT X F0 (.Compare a [.Gt] [b] pos) (tTest (tOp (rI0 fun i j => .bl (decide (j < i))) ta tb)) (dTest (dOp (dII fun i j => .bl (decide (j < i))) ta' tb')) := dt_cmp op_gt (l2_II fun _ _ _ => .bl _) ha hb (nomark _)
theorem dt_ge (ha : DE X F0 a ta ta') (hb : DE X F0 b tb tb') : DT X F0 (.Compare a [.GtE] [b] pos) (tTest (tOp (rI0 fun i j => .bl (decide (j ≤ i))) ta tb)) (dTest (dOp (dII fun i j => .bl (decide (j ≤ i))) ta' tb')) := dt_cmp op_ge (l2_II fun _ _ _ => .bl _) ha hb (nomark _)
theorem dt_eq (hr : Room n X.A) (ha : DE X F0 a ta ta') (hb : DE X F0 b tb tb') : DT X F0 (.Compare a [.Eq] [b] pos) (tTest (tOp (rEqD X.K) ta tb)) (dTest (dOp (dEq false) ta' tb')) := dt_cmp (op_eqD hr.units) l2_eq ha hb (nomark _)
theorem dt_ne (hr : Room n X.A) (ha : DE X F0 a ta ta') (hb : DE X F0 b tb tb') : DT X F0 (.Compare a [.NotEq] [b] pos) (tTest (tOp (rNeD X.K) ta tb)) (dTest (dOp (dEq true) ta' tb')) := dt_cmp (op_neD hr.units) l2_ne ha hb (nomark _)
theorem dt_in (hr : Room n X.A) (ha : DE X F0 a ta ta') (hb : DE X F0 b tb tb') (hm : behindInMarks .In b = false := by rfl) : DT X F0 (.Compare a [.In] [b] pos) (tTest (tOp (rInA X.K) ta tb)) (dTest (dOp (dIn false) ta' tb')) := dt_cmp (op_inA hr) l2_in ha hb hm
theorem dt_notIn (hr : Room n X.A) (ha : DE X F0 a ta ta') (hb : DE X F0 b tb tb') (hm : behindInMarks .NotIn b = false := by rfl) : DT X F0 (.Compare a [.NotIn] [b] pos) (tTest (tOp (rNotInA X.K) ta tb)) (dTest (dOp (dIn true) ta' tb')) := dt_cmp (op_notInA hr) l2_notIn ha hb hm

/-! ### o[i] = e, o[i] op= e -/
theorem ds_put {to ti : TE} {to' ti' : DTE} {pos' : Pos} (hr : Room n X.A) (ho : DE X F0 o to to') (hi : DE X F0 i ti ti') (he : DE X F0 e te te') (hs : swapsWithSole [.Subscript o i pos'] e pos.line X.env = pure false := by rfl) (hw : swappedStores [.Subscript o i pos'] e X.env = pure none := by rfl)
    (h1 : (assignEach [.Subscript o i pos'] X.env).map (·.2) = [assign (.Subscript o i pos') X.env] := by rfl)
    (ha : ∀ v, assign (.Subscript o i pos') X.env v = (do
      let ov ← holding [v] (eval o X.env); let iv ← holding [v, ov] (eval i X.env)
      standAt pos'; holding [v, ov, iv] (setItem ov iv v); release [v, ov, iv] []) := by intro _; rfl) : DS X F0 (.Assign [.Subscript o i pos'] e pos) (tAsg te (gSub to ti rSetAny)) (dAsg te' (hSub to' ti' dSet)) := ds_asg he (dg_sub' hr ho hi ha) hs hw h1
end

/-! ### comprehensions to be changed -/
theorem SR.own {K : PySem.W.Frag} {F : FZ} {M : Mp} {H : Hp} (s : SR K F M H) {p : Addr} {o : MO} {u : HO} (hf : F.f p = none) (hp : F.p p = none) (hd : F.d p = none) (h : H p = some u) (r : MR K F o u) : SR K F (mset M p o) H := by
  have e : upd H p u = H := by
    funext b
    by_cases hb : b = p
    · subst hb; rw [upd_same, h]
    · rw [upd_ne hb]
  have := s.put hf hp hd r
  rwa [e] at this
section
variable {X : Cx} {K : PySem.W.Frag} {F0 : FZ}
/-- the list that is told becomes one to be changed -/
def toM (Q : DK) : DK := fun d M => match d with
  | .lst l => ∀ p, M p = none → Q (.ref p) (mset M p (.lst l))
  | _ => False
def dLcM (wi : DTI) (g : DTG) (tt : DTT) (te : DTE) (vs : List Nat) : DTE := fun γ M Q => dLc wi g tt te vs γ M (toM Q)
theorem le_lcM {wi : TI} {wi' : DTI} {g : TG} {g' : DTG} {tt : TT} {tt' : DTT} {te : TE} {te' : DTE} {vs : List Nat} (hi : LI K F0 wi' wi) (hg : LG K F0 g' g) (hw : GW vs g) (ht : LT K F0 tt' tt) (he : LE K F0 te' te) :
    LE K F0 (dLcM wi' g' tt' te' vs) (tLc wi g tt te vs) := by
  intro F γ M σ H Q' Q e0 s gr q k
  refine hi F γ M σ H _ _ e0 s gr q fun F1 items J M1 H1 e1 s1 j1 q1 => ?_
  obtain ⟨hlen, I, h0, step, done⟩ := q1
  intro D hD
  have hDF := s1.freeF hD
  have hDM := s1.freeM hD
  have hDP := s1.freeP hD
  refine ⟨fun i m H => m = items.length - i ∧ i ≤ items.length ∧ LcW K F1 D I i H, ⟨items.length, by simp, Nat.zero_le _, ?_⟩, ?_⟩
  · refine ⟨F1, M1, [], [], FLe.refl _, s1.other hD, hDF, hDM, upd_same, .nil, Nat.le_refl _, h0⟩
  · rintro i m H2 ⟨rfl, hi2, F2, M2, acc, xs, e2, s2, dF, dM, hl, rl, al, i2⟩
    have dP : F2.p D = none := by rw [e2.e]; exact hDP
    by_cases hlt : i < items.length
    · have hd : items[i]? = some items[i] := List.getElem?_eq_getElem hlt
      have sh := s2.hide dF dM hl (fun _ z => by cases z) (s2.noL hl)
      obtain ⟨go, y⟩ := (j1 i (F2.hide D (.lst xs)) M2 H2 (bj_hide e2 hDP) sh).2 _ hd
      refine .inr ⟨go, LcW K F1 D I (i + 1), fun H' h => ⟨items.length - (i + 1), by omega, rfl, hlt, h⟩, fun x H3 yy => ?_⟩
      obtain ⟨F3, e3, s3, r3⟩ := y x H3 yy
      have b3 : Sm F2 F3 := e3.s
      have a3 : Bs F0 F3 := ⟨((e0.tr e1).tr e2).f.trans' b3, ((e0.tr e1).tr e2).p.trans (fun b o h => by rw [e3.e]; exact (upd_ne (ne_of_none h dP)).trans h)⟩
      have back : ∀ {F5 : FZ} {M5 : Mp} {H5 : Hp} (o : HO), FLe F3 F5 → SR K F5 M5 H5 → SR K ⟨F5.f, F2.p, F5.d⟩ M5 (upd H5 D o) ∧ H5 D = some (.lst xs) ∧ F5.f D = none ∧ M5 D = none := fun o e5 s5 =>
        s5.unhide (o := .lst xs) (by rw [e5.e, e3.e]; rfl) dP
      have step' := step i _ acc M2 hd i2
      have r0 : RpL K F3 acc xs := rl.monoS b3
      have lt1 : xs.length < sizeLine := by rw [← r0.length]; omega
      have main := hw x (wipe σ vs) H3 _ (hg F3 (dwipe γ vs) M2 (wipe σ vs) H3 _ x _ (fun σ2 H2 => tt σ2 H2 fun b H3 => if b = true then te σ2 H3 fun y H4 => ∃ acc, H4 D = some (.lst acc) ∧ acc.length < sizeLine ∧ LcW K F1 D I (i + 1) (upd H4 D (.lst (acc ++ [y]))) else LcW K F1 D I (i + 1) H3)
        a3 s3 (gr_wipe (gr.monoS ((e1.s.trans' e2.s).trans' b3)) vs) r3 step' fun F4 γ4 M4 σ4 H4 e4 s4 g4 q4 =>
        ht F4 γ4 M4 σ4 H4 _ _ (a3.tr e4) s4 g4 q4 fun F5 b M5 H5 e5 s5 q5 => by
          cases b with
          | false =>
            obtain ⟨z1, z2, z3, z4⟩ := back (.lst xs) (e4.trans e5) s5
            have eq : upd H5 D (.lst xs) = H5 := by
              funext b
              by_cases hb : b = D
              · subst hb; rw [upd_same, z2]
              · rw [upd_ne hb]
            rw [eq] at z1
            exact ⟨⟨F5.f, F2.p, F5.d⟩, M5, acc, xs, ⟨(e2.s.trans' b3).trans' (e4.trans e5).s, e2.e⟩, z1, z3, z4, z2, RpL.monoS (F := F3) (F' := ⟨F5.f, F2.p, F5.d⟩) (e4.trans e5).s r0, Nat.le_succ_of_le al, q5⟩
          | true =>
            refine he F5 γ4 M5 σ4 H5 _ _ ((a3.tr e4).tr e5) s5 (g4.mono e5) q5 fun F6 d v M6 H6 e6 s6 r6 q6 => ?_
            obtain ⟨z1, z2, z3, z4⟩ := back (.lst (xs ++ [v])) ((e4.trans e5).trans e6) s6
            refine ⟨xs, z2, lt1, ⟨F6.f, F2.p, F6.d⟩, M6, acc ++ [d], xs ++ [v], ⟨(e2.s.trans' b3).trans' ((e4.trans e5).trans e6).s, e2.e⟩, z1, z3, z4, upd_same, RpL.append (RpL.monoS (F := F3) (F' := ⟨F6.f, F2.p, F6.d⟩) ((e4.trans e5).trans e6).s r0) (.cons (Rp.monoS (F := F6) (F' := ⟨F6.f, F2.p, F6.d⟩) Sm.rfl' r6) .nil), ?_, q6⟩
            rw [List.length_append]
            simp
            omega)
      rw [wipe_wipe] at main
      exact main
    · have e : i = items.length := by omega
      subst e
      refine .inl ⟨((j1 items.length F2 M2 H2 e2.bj s2).1 (Nat.le_refl _)), ?_⟩
      have hz : xs.length ≤ sizeLine := by rw [← rl.length]; omega
      have s3 := s2.own (o := .lst acc) dF (by rw [e2.e]; exact hDP) (s2.noL0 hl) hl (.lst rl hz)
      exact k F2 (.ref D) (.ref D) _ H2 (e1.trans e2) s3 (.ref D) (done acc M2 i2 D dM)
end

/-! ### dict displays -/
abbrev DPP := G → Mp → (List (Key × D) → Mp → Prop) → Prop
def LPP (K : PySem.W.Frag) (F0 : FZ) (t' : DPP) (trs : List (TE × TE)) : Prop := ∀ (F : FZ) (γ : G) (M : Mp) (σ : L2.St) (H : Hp) (Q' : List (Key × D) → Mp → Prop) (Q : List (V × V) → Hp → Prop), Bs F0 F → SR K F M H → GR K F γ σ → t' γ M Q' →
  (∀ F1 l m M1 H1, FLe F F1 → SR K F1 M1 H1 → KVR K F1 l m → Q' l M1 → Q (m.map fun kv => (kV kv.1, kv.2)) H1) → tPairs trs σ H Q
structure DPPs (X : Cx) (F0 : FZ) (pos : Pos) (keys : List (Option Expr)) (values : List Expr) (trs : List (TE × TE)) (t' : DPP) : Prop where
  pp : PPs X pos keys values trs
  le : LPP X.K F0 t' trs
def dppNil : DPP := fun _ M Q => Q [] M
def dppCons (tk tv : DTE) (r : DPP) : DPP := fun γ M Q => tk γ M fun x M1 => ∃ k, keyOf x = some k ∧ tv γ M1 fun y M2 => r γ M2 fun l M3 => Q ((k, y) :: l) M3
section
variable {X : Cx} {K : PySem.W.Frag} {F0 : FZ} {pos : Pos}
theorem dpp_nil : DPPs X F0 pos [] [] [] dppNil := ⟨pps_nil, fun F γ M σ H Q' Q e0 s g q k => k F [] [] M H (FLe.refl F) s .nil q⟩
theorem dpp_cons {k v : Expr} {ks : List (Option Expr)} {vs : List Expr} {tk tv : TE} {tk' tv' : DTE} {trs : List (TE × TE)} {r' : DPP} (hk : DE X F0 k tk tk') (hv : DE X F0 v tv tv') (hr : DPPs X F0 pos ks vs trs r') : DPPs X F0 pos (some k :: ks) (v :: vs) ((tk, tv) :: trs) (dppCons tk' tv' r') := ⟨pps_cons hk.pe hv.pe hr.pp, fun F γ M σ H Q' Q e0 s g q kk => by
  refine hk.le F γ M σ H _ _ e0 s g q fun F1 d1 v1 M1 H1 e1 s1 r1 q1 => ?_
  obtain ⟨k, hk, q1⟩ := q1
  refine hv.le F1 γ M1 σ H1 _ _ (e0.tr e1) s1 (g.mono e1) q1 fun F2 d2 v2 M2 H2 e2 s2 r2 q2 => ?_
  refine hr.le F2 γ M2 σ H2 _ _ ((e0.tr e1).tr e2) s2 (g.mono (e1.trans e2)) q2 fun F3 l m M3 H3 e3 s3 r3 q3 => ?_
  have hx := keyOf_rp r1 hk
  subst hx
  exact kk F3 ((k, d2) :: l) ((k, v2) :: m) M3 H3 ((e1.trans e2).trans e3) s3 (.cons ⟨rfl, r2.mono e3⟩ r3) q3⟩
def dMerge : List (Key × D) → List (Key × D) → List (Key × D)
  | l, [] => l
  | l, (k, d) :: r => dMerge (dput l k d) r
theorem kvr_merge {F : FZ} : ∀ {l' : List (Key × D)} {m' : List (Key × V)} {l : List (Key × D)} {m : List (Key × V)}, KVR K F l m → KVR K F l' m' → KVR K F (dMerge l l') (mergeK m m')
  | _, _, _, _, h, .nil => h
  | (k, d) :: l', (k2, v) :: m', l, m, h, .cons q t => by
    obtain ⟨e, q⟩ := q
    simp only at e q
    subst e
    show KVR K F (dMerge (dput l k d) l') (mergeK (putK m k v) m')
    exact kvr_merge (kvr_put q h) t
def dDisp (t : DPP) : DTE := fun γ M Q => ∀ p, M p = none → t γ M fun l M2 => M2 p = none → l.length ≤ 15 ∧ Q (.ref p) (mset M2 p (.dK (dMerge [] l)))
theorem de_disp {keys : List (Option Expr)} {values : List Expr} {trs : List (TE × TE)} {t' : DPP} (h : DPPs X F0 pos keys values trs t') (hall : keys.all (·.isSome) = true := by rfl) (hl : keys.length = values.length := by rfl) (h0 : keys ≠ [] := by exact fun h => nomatch h)
    (h15 : keys.length ≤ 15 := by decide) : DE X F0 (.Dict keys values pos) (tDisp trs) (dDisp t') := ⟨pe_disp h.pp hall hl h0 h15, fun F γ M σ H Q' Q e0 s g q k => by
  intro p hp
  have hF := s.freeF hp
  have hM := s.freeM hp
  have hP := s.freeP hp
  have s1 := (s.other (o := .dK []) hp)
  have sh := s1.hide hF hM upd_same (fun _ z => by cases z) (fun u e => by rw [s.freeD hp] at e; cases e)
  refine h.le (F.hide p (.dK [])) γ M σ _ _ _ ⟨e0.f, e0.p.trans fun b o h => (upd_ne (ne_of_none h hP)).trans h⟩ sh (GR.monoS (F := F) (F' := F.hide p (.dK [])) (Sm.rfl' (F := F)) g) (q p hM) fun F1 l m M1 H1 e1 s2 r2 q2 => ?_
  have hdn : F1.d p = none := s2.hidD (o := .dK []) (by rw [e1.e]; exact upd_same) (fun _ _ z => nomatch z)
  obtain ⟨z1, z2, z3, z4⟩ := s2.unhide (u := .dK (mergeK [] m)) (o := .dK []) (q := F.p) (by rw [e1.e]; rfl) hP
  obtain ⟨h15, q2⟩ := q2 z4
  refine ⟨z2, m, rfl, by rw [← kvr_len r2]; exact h15, ?_⟩
  have hz : (mergeK [] m).length ≤ sizeLine := by
    have := length_mergeK m []
    rw [List.length_nil, ← kvr_len r2] at this
    rw [sizeLine_eq]; omega
  have r3 : KVR X.K ⟨F1.f, F.p, F1.d⟩ (dMerge [] l) (mergeK [] m) := kvr_merge .nil (r2.monoS (F := F1) (F' := ⟨F1.f, F.p, F1.d⟩) Sm.rfl')
  exact k ⟨F1.f, F.p, F1.d⟩ (.ref p) (.ref p) _ _ ⟨e1.s, rfl⟩ (z1.own (o := .dK (dMerge [] l)) z3 hP hdn upd_same (.dK r3 hz)) (.ref p) q2⟩
end

/-! ### lists: +, *, clear, extend -/
def lstOf (M : Mp) : D → Option (List D)
  | .lst l => some l
  | .ref p => (match M p with
    | some (.lst l) => some l
    | _ => none)
  | _ => none
section
variable {X : Cx} {K : PySem.W.Frag} {F0 : FZ} {a b e o : Expr} {ta tb te to : TE} {ta' tb' te' to' : DTE} {pos apos cpos : Pos}
theorem lst_of {F : FZ} {M : Mp} {H : Hp} {d : D} {v : V} {l : List D} (s : SR K F M H) (r : Rp K F d v) (h : lstOf M d = some l) : ∃ p xs, v = .ref p ∧ H p = some (.lst xs) ∧ RpL K F l xs ∧ xs.length ≤ sizeLine := by
  cases r with
  | lst a b => simp only [lstOf, Option.some.injEq] at h; subst h; exact ⟨_, _, rfl, s.fz _ _ a, b, s.ok _ _ a⟩
  | ref p =>
    simp only [lstOf] at h
    split at h
    · rename_i hm
      cases h
      obtain ⟨u, h1, h2⟩ := s.mu p _ hm
      cases h2 with
      | lst b z => exact ⟨_, _, rfl, h1, b, z⟩
    · cases h
  | _ => simp [lstOf] at h
def dCatL : DR2 := fun x y M Q => ∃ l m, lstOf M x = some l ∧ lstOf M y = some m ∧ l.length + m.length ≤ sizeLine ∧ Q (.lst (l ++ m)) M
theorem l2_catL : L2r K F0 dCatL rCat := by
  intro F M H d e x y Q' Q e0 s r1 r2 q k
  obtain ⟨l, m, h1, h2, hz, q⟩ := q
  obtain ⟨p1, xs, rfl, a1, b1, _⟩ := lst_of s r1 h1
  obtain ⟨p2, ys, rfl, a2, b2, _⟩ := lst_of s r2 h2
  rw [b1.length, b2.length] at hz
  refine ⟨p1, p2, xs, ys, rfl, rfl, a1, a2, hz, fun p hp => ?_⟩
  have e2 := same_upd (o := .lst (xs ++ ys)) (s.freeF hp)
  exact k _ _ _ _ _ e2 (s.newF hp (by show (xs ++ ys).length ≤ sizeLine; rw [List.length_append]; exact hz)) (.lst upd_same ((b1.append b2).mono e2)) q
theorem de_catL (ha : DE X F0 a ta ta') (hb : DE X F0 b tb tb') : DE X F0 (.BinOp a .Add b pos) (tOp rCat ta tb) (dOp dCatL ta' tb') := de_op op_cat l2_catL ha hb
def dRep : DR2 := fun x y M Q => match y with
  | .int k => ∃ l, lstOf M x = some l ∧ -(2 ^ 63) ≤ k ∧ k < 2 ^ 63 ∧ l.length * k.toNat ≤ sizeLine ∧ Q (.lst (List.replicate k.toNat l).flatten) M
  | _ => False
def dRepM : DR2 := fun x y M Q => dRep x y M (toM Q)
theorem rep_rp {F : FZ} {l : List D} {xs : List V} (r : RpL K F l xs) : ∀ n : Nat, RpL K F (List.replicate n l).flatten (List.replicate n xs).flatten
  | 0 => .nil
  | n + 1 => by
    rw [List.replicate_succ, List.replicate_succ, List.flatten_cons, List.flatten_cons]
    exact r.append (rep_rp r n)
theorem rep_len {α : Type} (l : List α) : ∀ n : Nat, (List.replicate n l).flatten.length = l.length * n
  | 0 => by simp
  | n + 1 => by rw [List.replicate_succ, List.flatten_cons, List.length_append, rep_len l n, Nat.mul_succ, Nat.add_comm]
theorem l2_rep : L2r K F0 dRep rRep := by
  intro F M H d e x y Q' Q e0 s r1 r2 q k
  unfold dRep at q
  split at q
  · rename_i kk
    obtain ⟨l, h1, h2, h3, hz, q⟩ := q
    obtain ⟨p1, xs, rfl, a1, b1, _⟩ := lst_of s r1 h1
    cases r2
    rw [b1.length] at hz
    refine ⟨p1, kk, xs, rfl, rfl, a1, h2, h3, hz, fun p hp => ?_⟩
    have e2 := same_upd (o := .lst (List.replicate kk.toNat xs).flatten) (s.freeF hp)
    exact k _ _ _ _ _ e2 (s.newF hp (by show (List.replicate kk.toNat xs).flatten.length ≤ sizeLine; rw [rep_len]; exact hz)) (.lst upd_same ((rep_rp b1 _).mono e2)) q
  · exact q.elim
theorem l2_repM : L2r K F0 dRepM rRep := by
  intro F M H d e x y Q' Q e0 s r1 r2 q k
  unfold dRepM dRep at q
  split at q
  · rename_i kk
    obtain ⟨l, h1, h2, h3, hz, q⟩ := q
    obtain ⟨p1, xs, rfl, a1, b1, _⟩ := lst_of s r1 h1
    cases r2
    rw [b1.length] at hz
    exact ⟨p1, kk, xs, rfl, rfl, a1, h2, h3, hz, fun p hp => k F _ _ _ _ (FLe.refl F) (s.putN hp (.lst (rep_rp b1 _) (by rw [rep_len]; exact hz))) (.ref p) (q p (s.freeM hp))⟩
  · exact q.elim
theorem de_rep (ha : DE X F0 a ta ta') (hb : DE X F0 b tb tb') : DE X F0 (.BinOp a .Mult b pos) (tOp rRep ta tb) (dOp dRep ta' tb') := de_op op_rep l2_rep ha hb
theorem de_repM (ha : DE X F0 a ta ta') (hb : DE X F0 b tb tb') : DE X F0 (.BinOp a .Mult b pos) (tOp rRep ta tb) (dOp dRepM ta' tb') := de_op op_rep l2_repM ha hb
def dExtend : DRM := fun x ds M Q => match x, ds with
  | .ref p, [d] => (match M p with
    | some (.lst l) => ∃ m, lstOf M d = some m ∧ l.length + m.length ≤ sizeLine ∧ Q .non (mset M p (.lst (l ++ m)))
    | _ => False)
  | _, _ => False
theorem lm_extend : LM K F0 dExtend rExtend := by
  intro F M H o x ds vs Q' Q e0 s r rs q k
  unfold dExtend at q
  split at q
  · split at q
    · rename_i hm
      obtain ⟨m, h3, hz, q⟩ := q
      obtain ⟨u, h1, h2⟩ := s.mu _ _ hm
      cases h2 with
      | lst b z =>
        cases r
        cases rs with
        | cons r1 r2 =>
          cases r2
          obtain ⟨p2, ys, rfl, a2, b2, _⟩ := lst_of s r1 h3
          rw [b.length, b2.length] at hz
          exact ⟨_, _, _, _, rfl, rfl, h1, a2, hz, k F _ _ _ _ (FLe.refl F) (s.putM hm (.lst (b.append b2) (by rw [List.length_append]; exact hz))) .non q⟩
    · exact q.elim
  · exact q.elim
theorem de_extend {t : TA} {t' : DTA} (ho : DE X F0 o to to') (ha : DA X F0 [e] t t') (hbase : attributeBase o "extend" X.env (eval o X.env) = eval o X.env := by rfl)
    (hfew : ((backTo cpos (starEach [e] X.env)).all (fun x => !x.1) && (backToKw cpos (keywordEach [] X.env)).all (fun x => x.1.isSome) && decide ([e].length + ([] : List Keyword).length + (if ([] : List Keyword).isEmpty then 0 else 1) < 30)) = true := by rfl)
    (hline : (apos.endLine == cpos.line) = true := by rfl) (hs : starEach [e] X.env = (false, eval e X.env) :: starEach [] X.env := by rfl) : DE X F0 (.Call (.Attribute o "extend" apos) [e] [] cpos) (tBM X.K "list" rExtend to t) (dBM "list" dExtend to' t') :=
  de_bm PySem.F.plainAttrs_list PySem.F.slot_list_extend PySem.F.type_list_extend mt_extend lm_extend ho ha (by decide) hbase hfew hline hs rfl

/-! ### sorted, list(range(..)) -/
theorem de_sortI {t : TA} {t' : DTA} {p : Pos} (hm : X.mg "sorted" = none) (ha : DA X F0 [e] t t') (hc : X.calm = true := by rfl) (hg : Gl X "sorted" := by rfl) (he : starEach [e] X.env = (false, eval e X.env) :: starEach [] X.env := by rfl) : DE X F0 (.Call (.Name "sorted" p) [e] [] pos) (tCB (rSortedI X.K) t) (dCB dSortI t') :=
  de_blt cr_sortedI lc_sortI hm ha (by decide +kernel) hg (by decide) (by decide) he rfl
theorem de_sortP {t : TA} {t' : DTA} {p : Pos} (hm : X.mg "sorted" = none) (ha : DA X F0 [e] t t') (hc : X.calm = true := by rfl) (hg : Gl X "sorted" := by rfl) (he : starEach [e] X.env = (false, eval e X.env) :: starEach [] X.env := by rfl) : DE X F0 (.Call (.Name "sorted" p) [e] [] pos) (tCB (rSortedPO X.K) t) (dCB dSortP t') :=
  de_blt cr_sortedPO lc_sortP hm ha (by decide +kernel) hg (by decide) (by decide) he rfl
abbrev DRg := G → Mp → (Int → Int → Mp → Prop) → Prop
structure DR (X : Cx) (F0 : FZ) (e : Expr) (t : L2.St → Hp → (Int → Int → Hp → Prop) → Prop) (t' : DRg) : Prop where
  pr : PRg X e t
  le : ∀ (F : FZ) (γ : G) (M : Mp) (σ : L2.St) (H : Hp) (Q' : Int → Int → Mp → Prop) (Q : Int → Int → Hp → Prop), Bs F0 F → SR X.K F M H → GR X.K F γ σ → t' γ M Q' → (∀ F1 i j M1 H1, FLe F F1 → SR X.K F1 M1 H1 → Q' i j M1 → Q i j H1) → t σ H Q
variable {tr : L2.St → Hp → (Int → Int → Hp → Prop) → Prop} {tr' : DRg}
end

/-! ### comprehensions that only tell -/
theorem dLcI_map {g : DTG} {te : DTE} {vs : List Nat} {γ : G} {items : List D} {M : Mp} {Q : DK} (f : D → D) (h : ∀ (i : Nat) (d : D), items[i]? = some d → ∀ Q2 : DK, Q2 (f d) M → g d (dwipe γ vs) M fun γ2 M2 => te γ2 M2 Q2) (q : Q (.lst (items.map f)) M) : dLcI g dYes te vs γ items M Q := by
  refine ⟨fun i acc M' => M' = M ∧ acc = (items.take i).map f, ⟨rfl, by simp⟩, ?_, ?_⟩
  · rintro i d acc M' hd ⟨rfl, rfl⟩
    refine h i d hd _ ⟨rfl, ?_⟩
    have hlt := (List.getElem?_eq_some_iff.mp hd).1
    rw [List.take_add_one, hd]
    simp
  · rintro acc M' ⟨rfl, rfl⟩
    rw [List.take_length]
    exact q
theorem dLcI_filter {g : DTG} {tt : DTT} {te : DTE} {vs : List Nat} {γ : G} {items : List D} {M : Mp} {Q : DK} (c : D → Bool) (f : D → D) (h : ∀ (i : Nat) (d : D), items[i]? = some d → ∀ Q2 : Bool → DK, (c d = false → Q2 false .non M) → (c d = true → Q2 true (f d) M) → g d (dwipe γ vs) M fun γ2 M2 => tt γ2 M2 fun b M3 => if b = true then te γ2 M3 (Q2 true) else Q2 false .non M3) (q : Q (.lst ((items.filter c).map f)) M) : dLcI g tt te vs γ items M Q := by
  refine ⟨fun i acc M' => M' = M ∧ acc = ((items.take i).filter c).map f, ⟨rfl, by simp⟩, ?_, ?_⟩
  · rintro i d acc M' hd ⟨rfl, rfl⟩
    have hlt := (List.getElem?_eq_some_iff.mp hd).1
    have := h i d hd (fun b y M4 => if b = true then M4 = M' ∧ ((items.take i).filter c).map f ++ [y] = ((items.take (i + 1)).filter c).map f else M4 = M' ∧ ((items.take i).filter c).map f = ((items.take (i + 1)).filter c).map f) (fun e => ?_) (fun e => ?_)
    · simpa using this
    · rw [if_neg (by simp), List.take_add_one, hd]
      simp [e]
    · rw [if_pos rfl, List.take_add_one, hd]
      simp [e]
  · rintro acc M' ⟨rfl, rfl⟩
    rw [List.take_length]
    exact q
end DL

set_option maxRecDepth 100000
set_option maxHeartbeats 2000000
namespace DL
open PySem PySem.Spec PyProof.Rows L2

theorem fin_self {Q : DK} {d : D} {M : Mp} (q : Q d M) : fin Q d M := ⟨M, fun _ _ h => h, q⟩
theorem fin_less {Q : DK} {d : D} {M M2 : Mp} (l : MLe M2 M) (q : Q d M2) : fin Q d M := ⟨M2, l, q⟩

/-! ### the type of a thing -/
def D.isInt : D → Bool
  | .int _ => true
  | _ => false
def D.isBl : D → Bool
  | .bl _ => true
  | _ => false
theorem isiT_tab : ∀ T ∈ (["NoneType", "str", "list", "tuple", "dict"] : List String), isiT T "int" = false ∧ isiT T "bool" = false := by decide +kernel
theorem ty_int {M : Mp} {d : D} {T : String} (h : tyN M d = some T) : isiT T "int" = (d.isInt || d.isBl) ∧ isiT T "bool" = d.isBl := by
  have key : T ∈ (["NoneType", "str", "list", "tuple", "dict"] : List String) → isiT T "int" = false ∧ isiT T "bool" = false := isiT_tab T
  cases d with
  | int i => cases h; exact (by decide +kernel : isiT "int" "int" = true ∧ isiT "int" "bool" = false)
  | bl i => cases h; exact (by decide +kernel : isiT "bool" "int" = true ∧ isiT "bool" "bool" = true)
  | ref p =>
    simp only [D.isInt, D.isBl, Bool.or_self]
    apply key
    simp only [tyN] at h
    split at h <;> first
      | (cases h; done)
      | (cases h; decide +kernel)
  | ty n => cases h
  | ls n => cases h
  | dt a b => cases h
  | _ => cases h; exact key (by decide +kernel)
def D.within : D → Int → Int → Bool
  | .int i, a, b => decide (a ≤ i) && decide (i ≤ b)
  | _, _, _ => false

/-! ### ints in order -/
def srt (l : List Int) : List Int := l.mergeSort fun a b => decide (a ≤ b)
theorem srt_perm (l : List Int) : (srt l).Perm l := List.mergeSort_perm _ _
theorem srt_pw (l : List Int) : (srt l).Pairwise (· ≤ ·) := by
  have h := List.pairwise_mergeSort (le := fun a b : Int => decide (a ≤ b)) (fun a b c h1 h2 => by simp only [decide_eq_true_eq] at *; omega) (fun a b => by simp only [Bool.or_eq_true, decide_eq_true_eq]; omega) l
  exact h.imp fun h => by simpa using h
theorem pw_uniq : ∀ {l m : List Int}, l.Perm m → l.Pairwise (· ≤ ·) → m.Pairwise (· ≤ ·) → l = m
  | [], m, h, _, _ => (List.Perm.eq_nil h.symm).symm
  | x :: l, [], h, _, _ => absurd (List.Perm.eq_nil h) (by simp)
  | x :: l, y :: m, h, h1, h2 => by
    rw [List.pairwise_cons] at h1 h2
    have a : x ≤ y := by
      have : y ∈ x :: l := h.mem_iff.mpr List.mem_cons_self
      rcases List.mem_cons.mp this with e | e
      · omega
      · exact h1.1 y e
    have b : y ≤ x := by
      have : x ∈ y :: m := h.mem_iff.mp List.mem_cons_self
      rcases List.mem_cons.mp this with e | e
      · omega
      · exact h2.1 x e
    have e : x = y := by omega
    subst e
    rw [pw_uniq (List.Perm.cons_inv h) h1.2 h2.2]
theorem srt_uniq {l m : List Int} (h : l.Perm m) (hp : l.Pairwise (· ≤ ·)) : l = srt m := pw_uniq (h.trans (srt_perm m).symm) hp (srt_pw m)
theorem srt_length (l : List Int) : (srt l).length = l.length := (srt_perm l).length_eq
theorem srt_mem {l : List Int} {x : Int} : x ∈ srt l ↔ x ∈ l := (srt_perm l).mem_iff
theorem dSortI_srt {d : D} {M : Mp} {Q : DK} (ns : List Int) (hd : d = .lst (ns.map .int) ∨ ∃ p, d = .ref p ∧ M p = some (.lst (ns.map .int))) (q : Q (.lst ((srt ns).map .int)) M) : dSortI [d] M Q :=
  ⟨ns, hd, fun ns' h1 h2 => by rw [srt_uniq h1 h2]; exact q⟩

/-! ### plain data -/
theorem ok_int (i : Int) (n : Nat) : D.ok (.int i) n = true := by cases n <;> rfl
theorem okL_int (ns : List Int) (n : Nat) : D.okL (ns.map .int) n = true := okL_iff.mpr fun d h => by
  obtain ⟨i, _, rfl⟩ := List.mem_map.mp h
  exact ok_int i n
theorem ok_pr (p : Int × Int) (n : Nat) : D.ok (prD p) (n + 1) = true := by
  show D.okL [.int p.1, .int p.2] n = true
  exact okL_int [p.1, p.2] n
theorem okL_pr (ps : List (Int × Int)) (n : Nat) : D.okL (ps.map prD) (n + 1) = true := okL_iff.mpr fun d h => by
  obtain ⟨i, _, rfl⟩ := List.mem_map.mp h
  exact ok_pr i n
theorem eq_pr (p q : Int × Int) : D.eq (prD p) (prD q) = decide (p = q) := by
  obtain ⟨a, b⟩ := p
  obtain ⟨c, d⟩ := q
  simp only [prD, D.eq_tup, D.eqL_cons, D.eqL_nil, D.eq_int, Bool.and_true, Prod.mk.injEq]
  by_cases e : a = c <;> by_cases f : b = d <;> simp [e, f]
theorem any_int (l : List Int) (i : Int) : ((l.map D.int).any fun z => D.eq z (.int i)) = decide (i ∈ l) := by
  induction l with
  | nil => rfl
  | cons x l ih =>
    rw [List.map_cons, List.any_cons, ih, D.eq_int]
    by_cases e : x = i
    · subst e; simp
    · have e2 : ¬ i = x := fun z => e z.symm
      simp [e, e2]

/-! ### >= of tuples of ints -/
def intsOf : List D → Option (List Int)
  | [] => some []
  | .int i :: r => (intsOf r).map fun l => i :: l
  | _ => none
theorem ints_rp {K : PySem.W.Frag} {F : FZ} : ∀ {l : List D} {xs : List V} {ns : List Int}, RpL K F l xs → intsOf l = some ns → xs = ns.map V.int
  | _, _, ns, .nil, h => by simp [intsOf] at h; subst h; rfl
  | _, _, ns, .cons r t, h => by
    cases r with
    | int i =>
      simp only [intsOf] at h
      obtain ⟨m, h1, h2⟩ := Option.map_eq_some_iff.mp h
      subst h2
      rw [ints_rp t h1]; rfl
    | _ => simp [intsOf] at h
def geL (ns ms : List Int) : Bool := Ob.lexAt (fun j => decide (ns.getD j 0 = ms.getD j 0)) (fun j => decide (ms.getD j 0 ≤ ns.getD j 0)) (decide (ns.length ≥ ms.length)) 0 (min ns.length ms.length)
theorem geL_two (a b c d : Int) : geL [a, b] [c, d] = decide (c < a ∨ (a = c ∧ d ≤ b)) := by
  have e : geL [a, b] [c, d] = if decide (a = c) = true then (if decide (b = d) = true then true else decide (d ≤ b)) else decide (c ≤ a) := rfl
  rw [e]
  by_cases h1 : a = c
  · by_cases h2 : b = d
    · simp [h1, h2]
    · simp [h1, h2]
  · simp [h1]; omega
def rGeT (K : PySem.W.Frag) : R2 := fun x y H Q => ∃ (a b : Addr) (ns ms : List Int), x = .ref a ∧ y = .ref b ∧ SqT K H a (ns.map V.int) ∧ SqT K H b (ms.map V.int) ∧ Q (.bl (geL ns ms)) H
theorem op_geT {X : Cx} (hu : X.A.units < cLine) : OpR X (compareOp .GtE) (rGeT X.K) := by
  rintro pins s σ H x y v u Q I rx ry ⟨a, b, ns, ms, rfl, rfl, ha, hb, q⟩
  cases rx; cases ry
  obtain ⟨its, r1, p1, _⟩ := I.tuple ha; obtain ⟨its2, r2, p2, _⟩ := I.tuple hb
  have i1 := Vals.ints r1; have i2 := Vals.ints r2
  have e1 := i1.length; have e2 := i2.length
  have at1 : ∀ j (h : j < its.toArray.size), ∃ t, its.toArray[j] = .int (ns.getD j 0) t := fun j h => i1.int_at _ _ (by simp at h; simp [h])
  have at2 : ∀ j (h : j < its2.toArray.size), ∃ t, its2.toArray[j] = .int (ms.getD j 0) t := fun j h => i2.int_at _ _ (by simp at h; simp [h])
  have R := Ob.RcOp.tuples_ge (A := X.A) (s := s) (e := fun j => decide (ns.getD j 0 = ms.getD j 0)) (r := fun j => decide (ms.getD j 0 ≤ ns.getD j 0)) p1 p2 hu (fun j h1 h2 => by
      obtain ⟨t, z1⟩ := at1 j h1; obtain ⟨t', z2⟩ := at2 j h2
      have z : (ns.getD j 0 == ms.getD j 0) = decide (ns.getD j 0 = ms.getD j 0) := Bool.beq_eq_decide_eq _ _
      rw [z1, z2, ← z]; exact SeqAt.EqAt.int_int _ _ _ _)
    (fun j h1 h2 _ => by
      obtain ⟨t, z1⟩ := at1 j h1; obtain ⟨t', z2⟩ := at2 j h2
      rw [z1, z2]; exact Ob.RcOp.ge_int _ _ _ _)
  simp only [List.size_toArray, e1, e2] at R
  exact (R X.prog X.w X.xe (EP X pins σ Q) ⟨.bl _, H, I, rfl, q⟩ : wpAny (model X.prog X.w) X.A (compareOp .GtE (.ref a) (.ref b)) (EP X pins σ Q) X.xe s)
def dGeT : DR2 := fun x y M Q => match x, y with
  | .tup l, .tup m => ∃ ns ms, intsOf l = some ns ∧ intsOf m = some ms ∧ Q (.bl (geL ns ms)) M
  | _, _ => False
section
variable {X : Cx} {K : PySem.W.Frag} {F0 : FZ} {a b : Expr} {ta tb : TE} {ta' tb' : DTE} {pos : Pos}
theorem l2_geT : L2r K F0 dGeT (rGeT K) := by
  intro F M H d e x y Q' Q e0 s r1 r2 q k
  unfold dGeT at q
  split at q
  · obtain ⟨ns, ms, h1, h2, q⟩ := q
    cases r1 with
    | tup a1 b1 =>
      cases r2 with
      | tup a2 b2 =>
        have z1 := ints_rp b1 h1
        have z2 := ints_rp b2 h2
        subst z1 z2
        exact ⟨_, _, ns, ms, rfl, rfl, s.sqT a1, s.sqT a2, k F _ _ M H (FLe.refl F) s (.bl _) q⟩
  · exact q.elim
theorem de_geT {n : Nat} (hr : Room n X.A) (ha : DE X F0 a ta ta') (hb : DE X F0 b tb tb') : DE X F0 (.Compare a [.GtE] [b] pos) (tOp (rGeT X.K) ta tb) (dOp dGeT ta' tb') := de_cmp (op_geT (Nat.lt_of_le_of_lt (Nat.le_add_right _ _) hr.units)) l2_geT ha hb (nomark _)
end

/-! ### rows: a frozen list of lists to be changed -/
structure RowsAt (M : Mp) (as : List Addr) (rows : List (List D)) : Prop where
  nd : as.Nodup
  len : as.length = rows.length
  at' : ∀ (k : Nat) (a : Addr), as[k]? = some a → ∃ r, rows[k]? = some r ∧ M a = some (.lst r)
theorem RowsAt.get {M : Mp} {as : List Addr} {rows : List (List D)} (h : RowsAt M as rows) {k : Nat} {r : List D} (hr : rows[k]? = some r) : ∃ a, as[k]? = some a ∧ M a = some (.lst r) := by
  have hk : k < as.length := by rw [h.len]; exact (List.getElem?_eq_some_iff.mp hr).1
  have e : as[k]? = some as[k] := List.getElem?_eq_getElem hk
  obtain ⟨r', h1, h2⟩ := h.at' k _ e
  rw [hr] at h1; cases h1
  exact ⟨_, e, h2⟩
theorem RowsAt.set {M : Mp} {as : List Addr} {rows : List (List D)} (h : RowsAt M as rows) {k : Nat} {a : Addr} (ha : as[k]? = some a) (r' : List D) : RowsAt (mset M a (.lst r')) as (rows.set k r') := by
  refine ⟨h.nd, by rw [List.length_set]; exact h.len, fun j b hb => ?_⟩
  have hk := (List.getElem?_eq_some_iff.mp ha).1
  by_cases e : k = j
  · subst e
    rw [ha] at hb; cases hb
    exact ⟨r', List.getElem?_set_self (by rw [← h.len]; exact hk), mset_same⟩
  · have ne : b ≠ a := fun z => by
      subst z
      exact e ((List.getElem?_inj hk h.nd).mp (ha.trans hb.symm))
    obtain ⟨r, h1, h2⟩ := h.at' j b hb
    exact ⟨r, by rw [List.getElem?_set_ne e]; exact h1, by rw [mset_ne ne]; exact h2⟩
theorem RowsAt.other {M : Mp} {as : List Addr} {rows : List (List D)} (h : RowsAt M as rows) {p : Addr} {o : MO} (hp : p ∉ as) : RowsAt (mset M p o) as rows :=
  ⟨h.nd, h.len, fun k a ha => by
    obtain ⟨r, h1, h2⟩ := h.at' k a ha
    refine ⟨r, h1, ?_⟩
    have ne : a ≠ p := fun z => by subst z; exact hp (List.mem_of_getElem? ha)
    rw [mset_ne ne]
    exact h2⟩
/-- [[] for ..] -/
theorem lcI_fresh {g : DTG} {vs : List Nat} {γ : G} {items : List D} {M0 : Mp} {Q : DK} (hg : ∀ d M (Q : G → Mp → Prop), (∀ γ', Q γ' M) → ∀ γ, g d γ M Q)
    (q : ∀ as M, RowsAt M as (List.replicate items.length []) → (∀ p, p ∉ as → M p = M0 p) → (∀ a ∈ as, M0 a = none) → Q (.lst (as.map .ref)) M) : dLcI g dYes (dLstM dNil) vs γ items M0 Q := by
  refine ⟨fun i acc M => ∃ as : List Addr, acc = as.map .ref ∧ RowsAt M as (List.replicate i []) ∧ (∀ p, p ∉ as → M p = M0 p) ∧ ∀ a ∈ as, M0 a = none, ⟨[], rfl, ⟨List.nodup_nil, rfl, fun k a h => by simp at h⟩, fun _ _ => rfl, fun _ h => by cases h⟩, ?_, ?_⟩
  · rintro i d acc M hd ⟨as, rfl, h, ho, hn⟩
    refine hg d M _ (fun γ' => ?_) _
    refine ⟨by decide, fun p hp => ?_⟩
    have hpa : p ∉ as := fun z => by
      obtain ⟨k, hk⟩ := List.mem_iff_getElem?.mp z
      obtain ⟨r, _, h2⟩ := h.at' k p hk
      rw [hp] at h2; cases h2
    have h' := h.other (p := p) (o := .lst []) hpa
    refine ⟨as ++ [p], by rw [List.map_append]; rfl, ⟨?_, ?_, fun k a hk => ?_⟩, fun x hx => ?_, fun a ha => ?_⟩
    · rw [List.nodup_append]
      exact ⟨h.nd, by simp, fun a ha b hb => by
        rw [List.mem_singleton.mp hb]
        exact fun z => hpa (z ▸ ha)⟩
    · rw [List.length_append, h.len]; simp
    · by_cases hl : k < as.length
      · rw [List.getElem?_append_left hl] at hk
        obtain ⟨r, h1, h2⟩ := h'.at' k a hk
        refine ⟨r, ?_, h2⟩
        rw [List.replicate_succ', List.getElem?_append_left (by rw [← h.len]; exact hl)]
        exact h1
      · have e : k = as.length := by
          have := (List.getElem?_eq_some_iff.mp hk).1
          simp at this
          omega
        subst e
        simp at hk
        subst hk
        have hl2 := h.len
        simp at hl2
        exact ⟨[], by simp [hl2], mset_same⟩
    · have h1 : x ∉ as := fun z => hx (List.mem_append_left _ z)
      have h2 : x ≠ p := fun z => hx (by rw [z]; simp)
      rw [mset_ne h2]; exact ho x h1
    · rcases List.mem_append.mp ha with z | z
      · exact hn a z
      · rw [List.mem_singleton.mp z, ← ho p hpa]; exact hp
  · rintro acc M ⟨as, rfl, h, ho, hn⟩
    exact q as M h ho hn

/-! ### dicts as told -/
section
variable {κ : Type} [DecidableEq κ]
theorem dval_cons {k k1 : κ} {d : D} {l : List (κ × D)} : dval ((k1, d) :: l) k = if k1 = k then some d else dval l k := by
  by_cases h : k1 = k <;> simp [dval, List.find?, h]
theorem dput_len {k : κ} {d : D} {l : List (κ × D)} : (dput l k d).length ≤ l.length + 1 := by
  unfold dput
  split
  · rw [List.length_map]; omega
  · rw [List.length_append]; simp
end
end DL

set_option maxRecDepth 100000
set_option maxHeartbeats 2000000
namespace DL
open PySem PySem.Spec PyProof.Rows L2

/-! ### derivations whose kit reading is hidden: within a comprehension's own block -/
def DEx (X : Cx) (F0 : FZ) (e : Expr) (te' : DTE) : Prop := ∃ te, DE X F0 e te te'
def DTx (X : Cx) (F0 : FZ) (ifs : List Expr) (tt' : DTT) : Prop := ∃ tt, DTs X F0 ifs tt tt'
def DGx (X : Cx) (F0 : FZ) (vs : List Nat) (tg : Expr) (g' : DTG) : Prop := ∃ g, DG X F0 tg g g' ∧ GW vs g
def lfE (K : PySem.W.Frag) (F0 : FZ) (t' : DTE) : TE := fun σ H Q => ∃ F γ M Q', Bs F0 F ∧ SR K F M H ∧ GR K F γ σ ∧ t' γ M Q' ∧ ∀ F1 d v M1 H1, FLe F F1 → SR K F1 M1 H1 → Rp K F1 d v → Q' d M1 → Q v H1
def lfT (K : PySem.W.Frag) (F0 : FZ) (t' : DTT) : TT := fun σ H Q => ∃ F γ M Q', Bs F0 F ∧ SR K F M H ∧ GR K F γ σ ∧ t' γ M Q' ∧ ∀ F1 b M1 H1, FLe F F1 → SR K F1 M1 H1 → Q' b M1 → Q b H1
def lfG (K : PySem.W.Frag) (F0 : FZ) (vs : List Nat) (t' : DTG) : TG := fun v σ H Q => ∃ F γ M d Q', Bs F0 F ∧ SR K F M H ∧ GR K F γ σ ∧ Rp K F d v ∧ t' d γ M Q' ∧ ∀ F1 γ1 M1 σ1 H1, FLe F F1 → SR K F1 M1 H1 → GR K F1 γ1 σ1 → wipe σ1 vs = wipe σ vs → Q' γ1 M1 → Q σ1 H1
section
variable {X : Cx} {K : PySem.W.Frag} {F0 : FZ} {e tg : Expr} {ifs : List Expr} {vs : List Nat}
theorem DEx.pe {te' : DTE} (h : DEx X F0 e te') : PE X e (lfE X.K F0 te') := by
  obtain ⟨te, h⟩ := h
  refine ⟨fun pins s σ H Q I q => ?_⟩
  obtain ⟨F, γ, M, Q', e0, s1, g, q, k⟩ := q
  exact h.pe.run pins s σ H Q I (h.le F γ M σ H Q' Q e0 s1 g q k)
theorem le_lfE (te' : DTE) : LE K F0 te' (lfE K F0 te') := fun F γ M σ H Q' Q e0 s g q k => ⟨F, γ, M, Q', e0, s, g, q, k⟩
theorem DTx.pt {tt' : DTT} (h : DTx X F0 ifs tt') : PTs X ifs (lfT X.K F0 tt') := by
  obtain ⟨tt, h⟩ := h
  refine ⟨fun pins s σ H Q I q => ?_⟩
  obtain ⟨F, γ, M, Q', e0, s1, g, q, k⟩ := q
  exact h.pt.run pins s σ H Q I (h.le F γ M σ H Q' Q e0 s1 g q k)
theorem le_lfT (tt' : DTT) : LT K F0 tt' (lfT K F0 tt') := fun F γ M σ H Q' Q e0 s g q k => ⟨F, γ, M, Q', e0, s, g, q, k⟩
theorem DGx.pg {g' : DTG} (h : DGx X F0 vs tg g') : PG X tg (lfG X.K F0 vs g') := by
  obtain ⟨g, h, hw⟩ := h
  refine ⟨fun pins s σ H v u Q I r q => ?_⟩
  obtain ⟨F, γ, M, d, Q', e0, s1, gr, rd, q, k⟩ := q
  have a := h.le F γ M σ H d v Q' (fun σ1 H1 => wipe σ1 vs = wipe σ vs → Q σ1 H1) e0 s1 gr rd q fun F1 γ1 M1 σ1 H1 e1 s1 g1 q1 z => k F1 γ1 M1 σ1 H1 e1 s1 g1 z q1
  have b := hw v σ H _ a
  exact thn (h.pg.run pins s σ H v u _ I r b) fun _ s2 ⟨σ2, H2, I2, z1, z2⟩ => ⟨σ2, H2, I2, z2 z1⟩
theorem gw_lfG {vs : List Nat} {g' : DTG} : GW vs (lfG K F0 vs g') := fun v σ H Q ⟨F, γ, M, d, Q', e0, s, g, r, q, k⟩ => ⟨F, γ, M, d, Q', e0, s, g, r, q, fun F1 γ1 M1 σ1 H1 e1 s1 g1 z q1 => ⟨z, k F1 γ1 M1 σ1 H1 e1 s1 g1 z q1⟩⟩
theorem lg_lfG {vs : List Nat} {g' : DTG} : LG K F0 g' (lfG K F0 vs g') := fun F γ M σ H d v Q' Q e0 s g r q k => ⟨F, γ, M, d, Q', e0, s, g, r, q, fun F1 γ1 M1 σ1 H1 e1 s1 g1 _ q1 => k F1 γ1 M1 σ1 H1 e1 s1 g1 q1⟩
abbrev Blk (X : Cx) (scope : Scope) (p : Cx → Prop) : Prop := ∀ (s : Shared) (H : Hp) (C : Addr) (cl : List (Str × Addr)) (fp : List Addr), p (X.blk s H scope (compEnvC scope cl C X.env) fp)
variable {elt iter : Expr} {scope : Scope} {own : List (Str × Nat)} {pos spos py : Pos} {wi : TI} {wi' : DTI} {g' : DTG} {tt' : DTT} {te' : DTE}
theorem dx_lc (hc : X.calm = true) (hN : X.N.Nodup) (hi : DI X F0 tg iter wi wi') (ok : BlkOk X.N X.env.scope scope own) (hg : Blk X scope fun Y => DGx Y F0 (own.map (·.2)) tg g') (ht : Blk X scope fun Y => DTx Y F0 ifs tt') (he : Blk X scope fun Y => DEx Y F0 elt te') (hs : ∀ x, foldedSetIterable iter X.env x = pure x := by intro _; rfl) :
    DE X F0 (.ListComp elt [⟨tg, iter, ifs, 0⟩] scope pos) (tLc wi (lfG X.K F0 (own.map (·.2)) g') (lfT X.K F0 tt') (lfE X.K F0 te') (own.map (·.2))) (dLc wi' g' tt' te' (own.map (·.2))) :=
  ⟨pe_lc hc hN hi.pi ok (fun s H C cl fp => (hg s H C cl fp).pg) (fun s H C cl fp => (ht s H C cl fp).pt) (fun s H C cl fp => (he s H C cl fp).pe) hs, le_lc hi.le lg_lfG gw_lfG (le_lfT _) (le_lfE _)⟩
theorem dx_lcM (hc : X.calm = true) (hN : X.N.Nodup) (hi : DI X F0 tg iter wi wi') (ok : BlkOk X.N X.env.scope scope own) (hg : Blk X scope fun Y => DGx Y F0 (own.map (·.2)) tg g') (ht : Blk X scope fun Y => DTx Y F0 ifs tt') (he : Blk X scope fun Y => DEx Y F0 elt te') (hs : ∀ x, foldedSetIterable iter X.env x = pure x := by intro _; rfl) :
    DE X F0 (.ListComp elt [⟨tg, iter, ifs, 0⟩] scope pos) (tLc wi (lfG X.K F0 (own.map (·.2)) g') (lfT X.K F0 tt') (lfE X.K F0 te') (own.map (·.2))) (dLcM wi' g' tt' te' (own.map (·.2))) :=
  ⟨pe_lc hc hN hi.pi ok (fun s H C cl fp => (hg s H C cl fp).pg) (fun s H C cl fp => (ht s H C cl fp).pt) (fun s H C cl fp => (he s H C cl fp).pe) hs, le_lcM hi.le lg_lfG gw_lfG (le_lfT _) (le_lfE _)⟩
theorem ps_lcX (i : Nat) {y : Str} (hc : X.calm = true) (hN : X.N.Nodup) (hsw : swapsWith (.ListComp elt [⟨tg, iter, ifs, 0⟩] scope pos) (some (.Name y py)) spos.line X.env = pure true) (hi : DI X F0 tg iter wi wi') (ok : BlkOk X.N X.env.scope scope own) (hg : Blk X scope fun Y => DGx Y F0 (own.map (·.2)) tg g') (ht : Blk X scope fun Y => DTx Y F0 ifs tt') (he : Blk X scope fun Y => DEx Y F0 elt te')
    (hs : ∀ x, foldedSetIterable iter X.env x = pure x) (hy : X.N[i]? = some y) (hyl : X.env.scope.names.lookup y = some .local) : PS X (.Assign [.Name y py] (.ListComp elt [⟨tg, iter, ifs, 0⟩] scope pos) spos) (tAsg (tLc wi (lfG X.K F0 (own.map (·.2)) g') (lfT X.K F0 tt') (lfE X.K F0 te') (own.map (·.2))) (gName i)) :=
  ps_setLc hc hN hy hyl hsw hi.pi ok (fun s H C cl fp => (hg s H C cl fp).pg) (fun s H C cl fp => (ht s H C cl fp).pt) (fun s H C cl fp => (he s H C cl fp).pe) hs
theorem dx_setLc (i : Nat) {y : Str} (hc : X.calm = true) (hN : X.N.Nodup) (hsw : swapsWith (.ListComp elt [⟨tg, iter, ifs, 0⟩] scope pos) (some (.Name y py)) spos.line X.env = pure true) (hi : DI X F0 tg iter wi wi') (ok : BlkOk X.N X.env.scope scope own) (hg : Blk X scope fun Y => DGx Y F0 (own.map (·.2)) tg g') (ht : Blk X scope fun Y => DTx Y F0 ifs tt') (he : Blk X scope fun Y => DEx Y F0 elt te')
    (hs : ∀ x, foldedSetIterable iter X.env x = pure x := by intro _; rfl) (hy : X.N[i]? = some y := by rfl) (hyl : X.env.scope.names.lookup y = some .local := by rfl) : DS X F0 (.Assign [.Name y py] (.ListComp elt [⟨tg, iter, ifs, 0⟩] scope pos) spos) (tAsg (tLc wi (lfG X.K F0 (own.map (·.2)) g') (lfT X.K F0 tt') (lfE X.K F0 te') (own.map (·.2))) (gName i)) (dAsg (dLc wi' g' tt' te' (own.map (·.2))) (hName i)) :=
  ⟨ps_lcX i hc hN hsw hi ok hg ht he hs hy hyl, ls_asg (le_lc hi.le lg_lfG gw_lfG (le_lfT _) (le_lfE _)) (dg_name (X := X) (F0 := F0) (pos := pos) i hN hy (Or.inl hyl) (.inr hyl)).le⟩
end
end DL

set_option maxRecDepth 100000
set_option maxHeartbeats 2000000
namespace DL
open PySem PySem.Spec PyProof.Rows L2

section
variable {P : Program} {w : World} {K : PySem.W.Frag} {mg : Str → Option Value} {base : Heap}
/-- a def of the text, by what the top has written -/
theorem dfun_mk {h : Heap} {x : Str} {st : Stmt} {f : Addr} {ps : List Str} {od an : Option Addr} {sl : Array (Option Value)} {oc kV dc pm cd ct : Value} (X : K.In h) (G : h.Ns mainGlobals mg) (a : PySem.W.nsIn K mainGlobals x = some (some (.ref f)))
    (l : K.lookup f = some ⟨oc, od, .func (PySem.W.fnOf x x (defArgs st) (defBody st) (defScope st) .none kV dc pm an cd ct), sl⟩) (c : PySem.W.codeIn K cd x = true) (k : PySem.W.keepIn K (.ref f) = true)
    (b : ∀ (kV doc pm : Value) (an : Option Addr) (cdv ct : Value) (us : List Value), us.length = ps.length → bindArgs (PySem.W.fnOf x x (defArgs st) (defBody st) (defScope st) .none kV doc pm an cdv ct) ⟨us, []⟩ = pure (ps.zip us)) : DFun K mg x st ps :=
  ⟨f, _, fun_mk l c k, PySem.W.mg_of X G a, (fun_mk (st := st) l c k).binds b⟩
theorem dmet_mk {x q : Str} {st : Stmt} {f : Addr} {ps : List Str} {od an : Option Addr} {sl : Array (Option Value)} {oc kV dc pm cd ct : Value} (l : K.lookup f = some ⟨oc, od, .func (PySem.W.fnOf x q (defArgs st) (defBody st) (defScope st) .none kV dc pm an cd ct), sl⟩) (c : PySem.W.codeIn K cd q = true) (k : PySem.W.keepIn K (.ref f) = true)
    (b : ∀ (kV doc pm : Value) (an : Option Addr) (cdv ct : Value) (us : List Value), us.length = ps.length → bindArgs (PySem.W.fnOf x q (defArgs st) (defBody st) (defScope st) .none kV doc pm an cdv ct) ⟨us, []⟩ = pure (ps.zip us)) : DMet K x q st f ps :=
  ⟨_, fun_mk l c k, (fun_mk (st := st) l c k).binds b⟩
theorem dmk_mk {CX : CXT} {h : Heap} {x : Str} {C f : Addr} {k : Nat} {ps : List Str} {sp : DSp} (X : K.In h) (G : h.Ns mainGlobals mg) (a : PySem.W.nsIn K mainGlobals x = some (some (.ref C))) (M : Mk K C f) (H : ∃ fd, FnOk P w K mg base CX k f fd ps (liftSp K sp) ∧ Binds K fd ps []) : DMk P w K mg base CX k x C sp := by
  obtain ⟨fd, h1, h2⟩ := H
  exact ⟨f, fd, ps, h1, PySem.W.mg_of X G a, M, h2⟩
theorem dpr_mk {C p g : Addr} {f : Str} {k : Nat} {ps : List Str} {sp : DSp} (pr : PropOf K C f p g) (H : ∃ fd, FnOk P w K mg base CX0 k g fd ps (liftSp K sp) ∧ Binds K fd ps []) : DPr P w K mg base k C f sp := by
  obtain ⟨fd, h1, h2⟩ := H
  exact ⟨p, g, fd, ps, h1, pr, h2⟩
end
end DL

set_option maxRecDepth 100000
set_option maxHeartbeats 2000000
namespace DL
open PySem PySem.Spec PyProof.Rows L2

/-! ### {k: v for ..} -/
section
variable {X : Cx} {K : PySem.W.Frag} {F0 : FZ}
def dDcI (g : DTG) (tt : DTT) (tk te : DTE) (vs : List Nat) (γ : G) (items : List D) (M1 : Mp) (Q : DK) : Prop := ∃ I : Nat → List (Key × D) → Mp → Prop, I 0 [] M1 ∧
  (∀ i d acc M, items[i]? = some d → I i acc M → g d (dwipe γ vs) M fun γ2 M2 => tt γ2 M2 fun b M3 => if b = true then tk γ2 M3 fun x M4 => ∃ kk, keyOf x = some kk ∧ te γ2 M4 fun y M5 => I (i + 1) (dput acc kk y) M5 else I (i + 1) acc M3) ∧
  ∀ acc M, I items.length acc M → ∀ p, M p = none → Q (.ref p) (mset M p (.dK acc))
def dDc (wi : DTI) (g : DTG) (tt : DTT) (tk te : DTE) (vs : List Nat) : DTE := fun γ M Q => wi γ M fun items M1 => items.length ≤ sizeLine ∧ dDcI g tt tk te vs γ items M1 Q
def DcW (K : PySem.W.Frag) (F1 : FZ) (L : Addr) (I : Nat → List (Key × D) → Mp → Prop) (i : Nat) (H : Hp) : Prop := ∃ F2 M2 acc ps, FLe F1 F2 ∧ SR K F2 M2 H ∧ (F2.f L = none ∧ F2.d L = none) ∧ M2 L = none ∧ H L = some (.dK ps) ∧ KVR K F2 acc ps ∧ acc.length ≤ i ∧ I i acc M2
theorem le_dc {wi : TI} {wi' : DTI} {g : TG} {g' : DTG} {tt : TT} {tt' : DTT} {tk te : TE} {tk' te' : DTE} {vs : List Nat} (hi : LI K F0 wi' wi) (hg : LG K F0 g' g) (hw : GW vs g) (ht : LT K F0 tt' tt) (hkey : LE K F0 tk' tk) (he : LE K F0 te' te) :
    LE K F0 (dDc wi' g' tt' tk' te' vs) (tDc wi g tt tk te vs) := by
  intro F γ M σ H Q' Q e0 s gr q k
  refine hi F γ M σ H _ _ e0 s gr q fun F1 items J M1 H1 e1 s1 j1 q1 => ?_
  obtain ⟨hlen, I, h0, step, done⟩ := q1
  intro D hD
  have hDF := s1.freeF hD
  have hDM := s1.freeM hD
  have hDP := s1.freeP hD
  refine ⟨fun i m H => m = items.length - i ∧ i ≤ items.length ∧ DcW K F1 D I i H, ⟨items.length, by simp, Nat.zero_le _, ?_⟩, ?_⟩
  · refine ⟨F1, M1, [], [], FLe.refl _, s1.other hD, ⟨hDF, s1.freeD hD⟩, hDM, upd_same, .nil, Nat.le_refl _, h0⟩
  · rintro i m H2 ⟨rfl, hi2, F2, M2, acc, xs, e2, s2, dF, dM, hl, rl, al, i2⟩
    have dP : F2.p D = none := by rw [e2.e]; exact hDP
    by_cases hlt : i < items.length
    · have hd : items[i]? = some items[i] := List.getElem?_eq_getElem hlt
      have sh := s2.hide dF.1 dM hl (fun _ z => by cases z) (fun u e => by rw [dF.2] at e; cases e)
      obtain ⟨go, y⟩ := (j1 i (F2.hide D (.dK xs)) M2 H2 (bj_hide e2 hDP) sh).2 _ hd
      refine .inr ⟨go, DcW K F1 D I (i + 1), fun H' h => ⟨items.length - (i + 1), by omega, rfl, hlt, h⟩, fun x H3 yy => ?_⟩
      obtain ⟨F3, e3, s3, r3⟩ := y x H3 yy
      have b3 : Sm F2 F3 := e3.s
      have a3 : Bs F0 F3 := ⟨((e0.tr e1).tr e2).f.trans' b3, ((e0.tr e1).tr e2).p.trans (fun b o h => by rw [e3.e]; exact (upd_ne (ne_of_none h dP)).trans h)⟩
      have back : ∀ {F5 : FZ} {M5 : Mp} {H5 : Hp} (o : HO), FLe F3 F5 → SR K F5 M5 H5 → SR K ⟨F5.f, F2.p, F5.d⟩ M5 (upd H5 D o) ∧ H5 D = some (.dK xs) ∧ (F5.f D = none ∧ F5.d D = none) ∧ M5 D = none := fun {F5 M5 H5} o e5 s5 => by
        obtain ⟨w1, w2, w3, w4⟩ := s5.unhide (u := o) (o := .dK xs) (q := F2.p) (p := D) (by rw [e5.e, e3.e]; rfl) dP
        exact ⟨w1, w2, ⟨w3, s5.hidD (o := .dK xs) (by rw [e5.e, e3.e]; exact upd_same) (fun _ _ z => nomatch z)⟩, w4⟩
      have step' := step i _ acc M2 hd i2
      have r0 : KVR K F3 acc xs := rl.monoS b3
      have lt1 : xs.length < sizeLine := by rw [← kvr_len r0]; omega
      have main := hw x (wipe σ vs) H3 _ (hg F3 (dwipe γ vs) M2 (wipe σ vs) H3 _ x _ (fun σ2 H2 => tt σ2 H2 fun b H3 => if b = true then tk σ2 H3 fun y H4 => te σ2 H4 fun z H5 => ∃ kvs kk, y = kV kk ∧ H5 D = some (.dK kvs) ∧ kvs.length < sizeLine ∧ DcW K F1 D I (i + 1) (upd H5 D (.dK (putK kvs kk z))) else DcW K F1 D I (i + 1) H3)
        a3 s3 (gr_wipe (gr.monoS ((e1.s.trans' e2.s).trans' b3)) vs) r3 step' fun F4 γ4 M4 σ4 H4 e4 s4 g4 q4 =>
        ht F4 γ4 M4 σ4 H4 _ _ (a3.tr e4) s4 g4 q4 fun F5 b M5 H5 e5 s5 q5 => by
          cases b with
          | false =>
            obtain ⟨z1, z2, z3, z4⟩ := back (.dK xs) (e4.trans e5) s5
            have eq : upd H5 D (.dK xs) = H5 := by
              funext b
              by_cases hb : b = D
              · subst hb; rw [upd_same, z2]
              · rw [upd_ne hb]
            rw [eq] at z1
            exact ⟨⟨F5.f, F2.p, F5.d⟩, M5, acc, xs, ⟨(e2.s.trans' b3).trans' (e4.trans e5).s, e2.e⟩, z1, z3, z4, z2, KVR.monoS (F := F3) (F' := ⟨F5.f, F2.p, F5.d⟩) (e4.trans e5).s r0, Nat.le_succ_of_le al, q5⟩
          | true =>
            refine hkey F5 γ4 M5 σ4 H5 _ _ ((a3.tr e4).tr e5) s5 (g4.mono e5) q5 fun F7 d7 v7 M7 H7 e7 s7 r7 q7 => ?_
            obtain ⟨kk, hkk, q7⟩ := q7
            have hx := keyOf_rp r7 hkk
            subst hx
            refine he F7 γ4 M7 σ4 H7 _ _ (((a3.tr e4).tr e5).tr e7) s7 (g4.mono (e5.trans e7)) q7 fun F6 d v M6 H6 e6 s6 r6 q6 => ?_
            obtain ⟨z1, z2, z3, z4⟩ := back (.dK (putK xs kk v)) (((e4.trans e5).trans e7).trans e6) s6
            have l2 : (dput acc kk d).length ≤ acc.length + 1 := dput_len
            refine ⟨xs, kk, rfl, z2, lt1, ⟨F6.f, F2.p, F6.d⟩, M6, dput acc kk d, putK xs kk v, ⟨(e2.s.trans' b3).trans' (((e4.trans e5).trans e7).trans e6).s, e2.e⟩, z1, z3, z4, upd_same, kvr_put (Rp.monoS (F := F6) (F' := ⟨F6.f, F2.p, F6.d⟩) Sm.rfl' r6) (KVR.monoS (F := F3) (F' := ⟨F6.f, F2.p, F6.d⟩) (((e4.trans e5).trans e7).trans e6).s r0), by omega, q6⟩)
      rw [wipe_wipe] at main
      exact main
    · have e : i = items.length := by omega
      subst e
      refine .inl ⟨((j1 items.length F2 M2 H2 e2.bj s2).1 (Nat.le_refl _)), ?_⟩
      have hz : xs.length ≤ sizeLine := by rw [← kvr_len rl]; omega
      have s3 := s2.own (o := .dK acc) dF.1 (by rw [e2.e]; exact hDP) dF.2 hl (.dK rl hz)
      exact k F2 (.ref D) (.ref D) _ H2 (e1.trans e2) s3 (.ref D) (done acc M2 i2 D dM)
variable {kx vx tg iter : Expr} {ifs : List Expr} {scope : Scope} {own : List (Str × Nat)} {pos : Pos} {wi : TI} {wi' : DTI} {g' : DTG} {tt' : DTT} {tk' te' : DTE}
end
/-- over unlike items, each of a key of its own -/
theorem dDcI_map {g : DTG} {tk te : DTE} {vs : List Nat} {γ : G} {items : List D} {M : Mp} {Q : DK} (kf : D → Key) (f : D → D) (h : ∀ (i : Nat) (d : D), items[i]? = some d → ∀ Q2 : Key → DK, Q2 (kf d) (f d) M → g d (dwipe γ vs) M fun γ2 M2 => tk γ2 M2 fun x M4 => ∃ kk, keyOf x = some kk ∧ te γ2 M4 (Q2 kk))
    (q : ∀ p, M p = none → Q (.ref p) (mset M p (.dK (items.foldl (fun acc d => dput acc (kf d) (f d)) [])))) : dDcI g dYes tk te vs γ items M Q := by
  refine ⟨fun i acc M' => M' = M ∧ acc = (items.take i).foldl (fun acc d => dput acc (kf d) (f d)) [], ⟨rfl, by simp⟩, ?_, ?_⟩
  · rintro i d acc M' hd ⟨rfl, rfl⟩
    refine h i d hd (fun kk y M5 => M5 = M' ∧ dput _ kk y = _) ⟨rfl, ?_⟩
    have hlt := (List.getElem?_eq_some_iff.mp hd).1
    rw [List.take_add_one, hd, List.foldl_append]
    rfl
  · rintro acc M' ⟨rfl, rfl⟩
    rw [List.take_length]
    exact q

/-! ### len(set(..)) of unlike ints, [::-1], is True -/
section
variable {X : Cx} {K : PySem.W.Frag} {F0 : FZ} {a b e : Expr} {ta tb te : TE} {ta' tb' te' : DTE} {pos : Pos}
end
end DL

set_option maxRecDepth 100000
set_option maxHeartbeats 2000000
namespace DL
open PySem PySem.Spec PyProof.Rows L2

/-! ### name = {k: v for ..} on one row -/
section
variable {X : Cx} {K : PySem.W.Frag} {F0 : FZ} {kx vx tg iter : Expr} {ifs : List Expr} {scope : Scope} {own : List (Str × Nat)} {pos spos py : Pos} {wi : TI} {wi' : DTI} {g' : DTG} {tt' : DTT} {tk' te' : DTE}
theorem sw_trueD {gs : List Comprehension} {y : Str} {l : Nat} {env : Env} (hk : env.scope.kind = .function) (hy : env.scope.names.lookup y = some .local) (hl : (py.line == pos.line) = true) (ha : (scope.names.any fun (n, k) => n == y && (k == .local || k == .cell)) = false) :
    swapsWith (.DictComp kx vx gs scope pos) (some (.Name y py)) l env = pure true := by
  have ky : env.kindOf y = some .local := hy
  have hb : env.blockKind = .function := by (unfold Env.blockKind; rw [hk]; rfl)
  unfold swapsWith
  simp only [hb, ky, ha, Expr.pos, hl]; rfl
theorem ps_setDc {i : Nat} {y : Str} {g : TG} {tt : TT} {tk tv : TE} (hc : X.calm = true) (hN : X.N.Nodup) (hy : X.N[i]? = some y) (hyl : X.env.scope.names.lookup y = some .local) (hsw : swapsWith (.DictComp kx vx [⟨tg, iter, ifs, 0⟩] scope pos) (some (.Name y py)) spos.line X.env = pure true) (hi : PI X tg iter wi) (ok : BlkOk X.N X.env.scope scope own)
    (hg : Blk X scope fun Y => PG Y tg g) (ht : Blk X scope fun Y => PTs Y ifs tt) (hk : Blk X scope fun Y => PE Y kx tk) (he : Blk X scope fun Y => PE Y vx tv) (hs : ∀ x, foldedSetIterable iter X.env x = pure x) : PS X (.Assign [.Name y py] (.DictComp kx vx [⟨tg, iter, ifs, 0⟩] scope pos) spos) (tAsg (tDc wi g tt tk tv (own.map (·.2))) (gName i)) := by
  refine ⟨fun pins s σ H D I h => ?_⟩
  rw [exec_Assign_Name_used _ _ _ _ hsw]
  refine wpAny_bind (wpAny_standAt (wpAny_bind (?_ : wpAny _ X.A (do let _ ← comprehension (.DictComp kx vx [⟨tg, iter, ifs, 0⟩] scope pos) scope X.env (firstIterPos [⟨tg, iter, ifs, 0⟩] pos) newDict false (eval iter X.env) (some (assign (.Name y py) X.env))) _ _ s)))
  have h : tDc wi g tt tk tv (own.map (·.2)) σ H (fun x H1 => gName i x σ H1 D.nx) := h
  refine wpAny_bind (thn (dc_core (Qf := fun _ s' => SP X pins D .next s') hc hN I hi ok hg ht hk he hs h fun L C s' m H' I' q hn f => ?_) fun _ s' hq => wpAny_pure (wpAny_pure hq))
  refine (?_ : wpAny _ _ (assign (.Name y py) X.env (.ref L)) _ _ _)
  refine wpAny_assign_Name (store_ok2 (v := V.ref L) I' hN hy (.inl hyl) rfl (fun s2 I2 ⟨a, sb, ha⟩ => ?_) (.inr hyl))
  obtain ⟨f0, f1, f2, f3, f4, f5⟩ := f
  have haC : C ≠ a := ha.elim (fun z => z ▸ f1) fun z e => f4 y a z e.symm
  exact ⟨m, hn.sameBut sb haC, fun h3 sb3 => ⟨_, H', I2.turned (t' := s2.toks) (fun b o hb e => (sb3.2 b hb).trans e) f0 f1 f3 f4 f5, q⟩⟩
theorem dx_setDc (i : Nat) {y : Str} (hc : X.calm = true) (hN : X.N.Nodup) (hsw : swapsWith (.DictComp kx vx [⟨tg, iter, ifs, 0⟩] scope pos) (some (.Name y py)) spos.line X.env = pure true) (hi : DI X F0 tg iter wi wi') (ok : BlkOk X.N X.env.scope scope own) (hg : Blk X scope fun Y => DGx Y F0 (own.map (·.2)) tg g') (ht : Blk X scope fun Y => DTx Y F0 ifs tt') (hk : Blk X scope fun Y => DEx Y F0 kx tk') (he : Blk X scope fun Y => DEx Y F0 vx te')
    (hs : ∀ x, foldedSetIterable iter X.env x = pure x := by intro _; rfl) (hy : X.N[i]? = some y := by rfl) (hyl : X.env.scope.names.lookup y = some .local := by rfl) : DS X F0 (.Assign [.Name y py] (.DictComp kx vx [⟨tg, iter, ifs, 0⟩] scope pos) spos) (tAsg (tDc wi (lfG X.K F0 (own.map (·.2)) g') (lfT X.K F0 tt') (lfE X.K F0 tk') (lfE X.K F0 te') (own.map (·.2))) (gName i)) (dAsg (dDc wi' g' tt' tk' te' (own.map (·.2))) (hName i)) :=
  ⟨ps_setDc hc hN hy hyl hsw hi.pi ok (fun s H C cl fp => (hg s H C cl fp).pg) (fun s H C cl fp => (ht s H C cl fp).pt) (fun s H C cl fp => (hk s H C cl fp).pe) (fun s H C cl fp => (he s H C cl fp).pe) hs,
    ls_asg (le_dc hi.le lg_lfG gw_lfG (le_lfT _) (le_lfE _) (le_lfE _)) (dg_name (X := X) (F0 := F0) (pos := pos) i hN hy (Or.inl hyl) (.inr hyl)).le⟩
end
section
variable {X : Cx} {F0 : FZ} {a b c : Expr} {ta tb tc : TE} {ta' tb' tc' : DTE} {pos : Pos}
end
end DL

set_option maxRecDepth 100000
set_option maxHeartbeats 2000000
namespace DL
open PySem PySem.Spec PyProof.Rows L2

/-! ### calls that may raise, within a try or a def that raises -/
abbrev DXG := G → DXK
theorem SR.lessP {K : PySem.W.Frag} {F : FZ} {M : Mp} {H q : Hp} (s : SR K F M H) (h : Same q F.p) : SR K ⟨F.f, q, F.d⟩ M H :=
  ⟨s.fz, s.ok, s.dj, fun b o e => s.pz b o (h b o e), fun b o e => s.pf b o (h b o e), fun b o e => let ⟨u, h1, h2⟩ := s.mu b o e; ⟨u, h1, MR.monoS (F := F) (F' := ⟨F.f, q, F.d⟩) Sm.rfl' h2⟩, s.dz, s.df⟩
theorem XR.mono {K : PySem.W.Frag} {F F' : FZ} {fs : Option (List (Str × D))} {d : Option Addr} {H : Hp} (e : Sm F F') (h : XR K F fs d H) : XR K F' fs d H := by
  cases fs with
  | none => cases d <;> exact h
  | some l =>
    cases d with
    | none => exact h
    | some a => obtain ⟨gs, h1, h2⟩ := h; exact ⟨gs, h1, h2.monoS e⟩
def lXg (K : PySem.W.Frag) (F0 : FZ) (E : DXG) : L2.St → XK := fun σ c d H => ∃ F γ M fs, FLe F0 F ∧ GR K F γ σ ∧ SR K F M H ∧ XR K F fs d H ∧ E γ c fs M
def lXW (K : PySem.W.Frag) (F0 : FZ) (E : DXG) : WX := fun c d σ H => lXg K F0 E σ c d H
def dCallS (sp : DSp) (E : DXG) (t : DTA) : DTE := fun γ M Q => t γ M fun ds M1 => sp ds M1 Q (E γ)
section
variable {X : Cx} {K : PySem.W.Frag} {F0 : FZ} {e : Expr} {es : List Expr} {t : TA} {t' : DTA} {p pos : Pos}
theorem le_callS {sp : DSp} {E : DXG} (ha : LA K F0 t' t) : LE K F0 (dCallS sp E t') (tCallS (liftSp K sp) (lXg K F0 E) t) := by
  intro F γ M σ H Q' Q e0 s g q k
  refine ha F γ M σ H _ _ e0 s g q fun F1 ds vs M1 H1 e1 s1 r1 q1 => ?_
  refine ⟨F1, ds, M1, Q', E γ, s1, r1, q1, fun F2 d v M2 H2 e2 s2 r2 q2 => k F2 d v M2 H2 (e1.trans e2) s2 r2 q2, fun c d H1 ⟨F2, M2, fs, e2, s2, x2, h⟩ => ?_⟩
  have b2 := (e0.tr e1).tr e2
  exact ⟨⟨F2.f, F0.p, F2.d⟩, γ, M2, fs, ⟨b2.f, rfl⟩, GR.monoS (F := F2) (F' := ⟨F2.f, F0.p, F2.d⟩) Sm.rfl' (g.mono (e1.trans e2)), s2.lessP b2.p, XR.mono (F := F2) (F' := ⟨F2.f, F0.p, F2.d⟩) Sm.rfl' x2, h⟩
theorem de_callS {k j : Nat} {x : Str} {sp : DSp} {E : DXG} (c : DCal X.prog X.w X.K X.mg X.base (L2N.CX X.prog X.w) k x sp) (hr : Room j X.A) (tk : L2N.Takes X (lXW X.K F0 E)) (ha : DA X F0 (e :: es) t t') (hk : k ≤ j := by decide) (hg : Gl X x := by rfl)
    (hdb : (x == ("__debug__" : Str)) = false := by decide) (he : starEach (e :: es) X.env = (false, eval e X.env) :: starEach es X.env := by rfl) (hpl : (backTo pos (starEach es X.env)).any (·.1) = false := by rfl) : DE X F0 (.Call (.Name x p) (e :: es) [] pos) (tCallS (liftSp X.K sp) (lXg X.K F0 E) t) (dCallS sp E t') := by
  obtain ⟨f, fd, ps, G, hm, hkp, hb⟩ := c.ex
  exact ⟨pe_callS G (hr.mono hk) hg hm hkp hb (fun σ => L2N.passAt tk σ) ha.pa hdb he hpl, le_callS ha.le⟩
end

/-! ### raise C() -/
/-- an error's class without fields of its own -/
structure ExCls (K : PySem.W.Frag) (mg : Str → Option Value) (x : Str) (C : Addr) : Prop where
  gC : mg x = some (.ref C)
  kC : PySem.W.keepIn K (.ref C) = true
  q : PySem.W.excIn K C [.type "ValueError", .type "Exception", .type "BaseException", .type "object"] "ValueError.__new__" = true
  sub : PySem.W.subIn K (.ref C) (.type "BaseException") = some true
  ty : PySem.W.typeIn K (.ref C) = some (.type "type")
section
variable {X : Cx} {F0 : FZ} {C : Addr} {x : Str} {p pos pos2 : Pos}
theorem pmk_own0 (T : ExCls X.K X.mg x C) (hg : Gl X x) (hdb : (x == ("__debug__" : Str)) = false) : L2N.PMk X (.Call (.Name x p) [] [] pos) (fun _ H Q => Q (.ref C) none H) := by
  intro pins s σ H Q I h
  refine wpAny_Call_Name_kw (ld_glob I hg T.gC (PySem.W.callWith_K0 I.kIn T.kC ?_) hdb)
  obtain ⟨bm, N, nm, qn, bs, hdct, sn, sub, ab, col, dd, k0, k1, k2, k3, k5, mN, hC, hN, hni, Tl⟩ := exc_obj I.kIn T.q
  refine (?_ : wpAny _ _ (call (.ref C) []) _ _ _)
  exact wpAny_call_exc_subT PySem.F.excBase_ValueError Tl hC hN hni (fun h' e hm => L2N.mk_of I hm (raises_own T.sub T.ty) h (I.hok.gone hm.new)) (Nat.zero_le _)
def dRaise (C : Addr) (E : DXG) : DTS := fun _ γ M => E γ (.ref C) none M
theorem ds_raise {E : DXG} (T : ExCls X.K X.mg x C) (hc : X.calm = true) (tk : L2N.Takes X (lXW X.K F0 E)) (hg : Gl X x := by rfl) (hdb : (x == ("__debug__" : Str)) = false := by decide) : DS X F0 (.Raise (some (.Call (.Name x p) [] [] pos)) none pos2) (fun _ σ H => lXW X.K F0 E (.ref C) none σ H) (dRaise C E) :=
  ⟨L2N.ps_raise hc tk (pmk_own0 T hg hdb), fun F γ M σ H D' D e0 s g q er => ⟨⟨F.f, F0.p, F.d⟩, γ, M, none, ⟨e0.f, rfl⟩, GR.monoS (F := F) (F' := ⟨F.f, F0.p, F.d⟩) Sm.rfl' g, s.lessP e0.p, trivial, q⟩⟩
end

/-! ### try: .. except C as e: .. -/
def lfS (K : PySem.W.Frag) (F0 : FZ) (t' : DTS) : TS := fun D σ H => ∃ F γ M D', Bs F0 F ∧ SR K F M H ∧ GR K F γ σ ∧ t' D' γ M ∧ ER K F D' D
theorem lfS_pss {X : Cx} {F0 : FZ} {st : List Stmt} {t : TS} {t' : DTS} (h : DB X F0 st t t') : PSs X st (lfS X.K F0 t') := by
  refine ⟨fun pins s σ H D I q => ?_⟩
  obtain ⟨F, γ, M, D', e0, s1, g, q, er⟩ := q
  exact h.ps.run pins s σ H D I (h.le F γ M σ H D' D e0 s1 g q er)
/-- what the handler wishes of an error of the body -/
def dWAs (K : PySem.W.Frag) (c : Value) (i : Nat) (u' : Addr → Addr → DTS) (Eout : DXG) (D : DEnds) : DXG := fun γ cls fs M => ∃ Dc b, cls = .ref Dc ∧ fs = none ∧ ExcC K Dc ∧ PySem.W.exmOne K cls c = some b ∧
  (b = true → ∀ a, M a = none → u' a Dc { nx := fun γ' M' => D.nx (γ'.set i none) M', rt := D.rt, bk := fun γ' M' => D.bk (γ'.set i none) M', ct := fun γ' M' => D.ct (γ'.set i none) M' } (γ.set i (some (.ref a))) M) ∧ (b = false → Eout γ cls fs M)
def dTry (K : PySem.W.Frag) (c : Value) (i : Nat) (t' : DXG → DTS) (u' : Addr → Addr → DTS) (Eout : DXG) : DTS := fun D γ M => t' (dWAs K c i u' Eout D) D γ M
theorem GR.setN {K : PySem.W.Frag} {F : FZ} {γ : G} {σ : L2.St} (h : GR K F γ σ) (i : Nat) : GR K F (γ.set i none) (σ.set i none) := gr_wipe h [i]
section
variable {X : Cx} {F0 : FZ} {x n : Str} {c : Value} {body suite : List Stmt} {b₀ : Stmt} {np pos pos' : Pos} {t' : DXG → DTS} {u' : Addr → Addr → DTS} {Eout : DXG}
theorem ds_tryAs (i : Nat) (hN : X.N.Nodup) (hc : Names X x c) (tk : L2N.Takes X (lXW X.K F0 Eout))
    (hb : ∀ (F1 : FZ) (E : DXG) (pn : List (Addr × Obj)) (xe : Value → Shared → Prop), L2N.Takes (X.tr pn xe) (lXW X.K F1 E) → ∃ t, DB (X.tr pn xe) F1 body t (t' E))
    (hsu : ∀ (a Dc : Addr) (oe : Obj) (pn : List (Addr × Obj)), ExcC X.K Dc → L2N.Zn (.ref Dc) none oe → (∃ vs, oe.data = .fields vs) → ∃ t, DB (X.suite a ((a, oe) :: pn)) F0 (b₀ :: suite) t (u' a Dc))
    (hs : X.stack = X.env :: X.outer := by rfl) (hf : X.env.frame = some X.env.locals := by rfl) (hi : X.N[i]? = some n := by rfl) (hln : X.env.kindOf n = some .local := by rfl) :
    DS X F0 (.Try body [.ExceptHandler (some (.Name x np)) (some n) (b₀ :: suite) pos'] [] [] pos) (fun D σ H => (fun W D σ H => ∃ (F1 : FZ) (E : DXG), (∀ c d σ H, lXW X.K F1 E c d σ H → W c d σ H) ∧ lfS X.K F1 (t' E) D σ H) (wAs X.K c i (fun a cls d D σ H => ∃ Dc, cls = .ref Dc ∧ d = none ∧ ExcC X.K Dc ∧ lfS X.K F0 (u' a Dc) D σ H) (lXW X.K F0 Eout) D) D σ H) (dTry X.K c i t' u' Eout) := by
  refine ⟨L2N.ps_try_as (tb := fun W D σ H => ∃ (F1 : FZ) (E : DXG), (∀ c d σ H, lXW X.K F1 E c d σ H → W c d σ H) ∧ lfS X.K F1 (t' E) D σ H) (ts := fun a cls d D σ H => ∃ Dc, cls = .ref Dc ∧ d = none ∧ ExcC X.K Dc ∧ lfS X.K F0 (u' a Dc) D σ H) hs hf hN hi hln hc tk (fun W pn xe tkW _ => ⟨fun pins s σ H D I q => ?_⟩) (fun a oe cls d pn hz hfl => ⟨fun pins s σ H D I q => ?_⟩), fun F γ M σ H D' D e0 s g q er => ?_⟩
  · obtain ⟨F1, E, hE, q⟩ := q
    obtain ⟨t, d⟩ := hb F1 E pn xe (tkW.imp hE)
    exact (lfS_pss d).run pins s σ H D I q
  · obtain ⟨Dc, rfl, rfl, hx, q⟩ := q
    obtain ⟨t, d⟩ := hsu a Dc oe pn hx hz hfl
    exact (lfS_pss d).run pins s σ H D I q
  · refine ⟨F, dWAs X.K c i u' Eout D', fun cls d σ1 H1 w => ?_, F, γ, M, D', Bs.refl F, s, g, q, er⟩
    obtain ⟨F1, γ1, M1, fs, e1, g1, s1, x1, Dc, b, rfl, rfl, hx, hb1, hyes, hno⟩ := w
    have b1 := e0.tr e1
    refine ⟨b, hb1, fun hbt a ha => ?_, fun hbf => ⟨⟨F1.f, F0.p, F1.d⟩, γ1, M1, none, ⟨b1.f, rfl⟩, GR.monoS (F := F1) (F' := ⟨F1.f, F0.p, F1.d⟩) Sm.rfl' g1, s1.lessP b1.p, XR.mono (F := F1) (F' := ⟨F1.f, F0.p, F1.d⟩) Sm.rfl' x1, hno hbf⟩⟩
    cases d with
    | some dd => exact x1.elim
    | none =>
      refine ⟨Dc, rfl, rfl, hx, F1, γ1.set i (some (.ref a)), M1, _, b1, s1, g1.set (.ref a) i, hyes hbt a (s1.freeM ha), ⟨fun F2 γ2 M2 σ2 H2 e2 s2 g2 q2 => ?_, fun F2 d2 v2 M2 H2 e2 => er.rt F2 d2 v2 M2 H2 (e1.trans e2), fun F2 γ2 M2 σ2 H2 e2 s2 g2 q2 => ?_, fun F2 γ2 M2 σ2 H2 e2 s2 g2 q2 => ?_⟩⟩
      · exact er.nx F2 _ M2 _ H2 (e1.trans e2) s2 (g2.setN i) q2
      · exact er.bk F2 _ M2 _ H2 (e1.trans e2) s2 (g2.setN i) q2
      · exact er.ct F2 _ M2 _ H2 (e1.trans e2) s2 (g2.setN i) q2
end
end DL

set_option maxRecDepth 100000
set_option maxHeartbeats 2000000
namespace DL
open PySem PySem.Spec PyProof.Rows L2

/-! ### classes as values, isinstance(e, C) in an except clause -/
section
variable {X : Cx} {K : PySem.W.Frag} {F0 : FZ}
theorem de_cls {x : Str} {C : Addr} {pos : Pos} (hm : X.mg x = some (.ref C)) (hg : Gl X x := by rfl) (hd : (x == ("__debug__" : Str)) = false := by decide) : DE X F0 (.Name x pos) (tC (.ref C)) (dC (.ref C)) :=
  ⟨pe_glob hg hm rfl hd, le_c fun _ => .ref C⟩
def clsV : D → Option Value
  | .ref C => some (.ref C)
  | .ty n => some (.type n)
  | _ => none
def dIsE (K : PySem.W.Frag) (Dc a : Addr) : DRC := fun ds M Q => match ds with
  | [.ref a', c] => a' = a ∧ ∃ cv b, clsV c = some cv ∧ PySem.W.kitOne K (.ref Dc) cv = some b ∧ Q (.bl b) M
  | _ => False
theorem lc_isE {Dc a : Addr} : LC K F0 (dIsE K Dc a) (rIsE K Dc a) := by
  intro F M H ds vs Q' Q e0 s r q k
  unfold dIsE at q
  split at q
  · obtain ⟨rfl, cv, b, hc, hk, q⟩ := q
    cases r with
    | cons r1 r2 =>
      cases r2 with
      | cons r2 r3 =>
        cases r3
        cases r1
        have kk := k F (.bl b) (.bl b) M H (FLe.refl F) s (.bl _) q
        cases r2 with
        | ref C => cases hc; exact ⟨.ref C, .ref C, b, rfl, fun u hu => hu, hk, kk⟩
        | ty n => cases hc; exact ⟨.ty n, .type n, b, rfl, fun u hu => hu, hk, kk⟩
        | _ => cases hc
  · exact q.elim
theorem de_isE {a Dc : Addr} {oe : Obj} {pn : List (Addr × Obj)} {e e2 : Expr} {ta : TA} {ta' : DTA} {p pos : Pos} (C : ExcC X.K Dc) (hz : L2N.Zn (.ref Dc) none oe) (hf : ∃ vs, oe.data = .fields vs) (hm : X.mg "isinstance" = none) (ha : DA (X.suite a ((a, oe) :: pn)) F0 [e, e2] ta ta') (hg : Gl X "isinstance" := by rfl)
    (he : starEach [e, e2] X.env = (false, eval e X.env) :: starEach [e2] X.env := by rfl) (hpl : (backTo pos (starEach [e2] X.env)).any (·.1) = false := by rfl) : DE (X.suite a ((a, oe) :: pn)) F0 (.Call (.Name "isinstance" p) [e, e2] [] pos) (tCB (rIsE X.K Dc a) ta) (dCB (dIsE X.K Dc a) ta') :=
  de_blt (X := X.suite a ((a, oe) :: pn)) (call_isE C hz.zc hf) lc_isE hm ha (by decide +kernel) hg (by decide) (by decide) he hpl
end
/-- what a def's wish takes, what takes nothing -/
theorem takesX {X : Cx} {E : XK} {F0 : FZ} {E' : DXK} (tk : L2N.Takes X (fun cls d _ H => E cls d H)) (hE : ∀ c d H1, lX X.K F0 E' c d H1 → E c d H1) : L2N.Takes X (lXW X.K F0 fun _ => E') :=
  tk.imp fun c d σ H ⟨F, γ, M, fs, e, g, s, x, h⟩ => hE c d H ⟨F, M, fs, e, s, x, h⟩
theorem takes0N {X : Cx} : L2N.Takes X (fun _ _ _ _ => False) := fun u s' h => by
  obtain ⟨_, _, _, _, _, _, _, _, _, _, _, _, _, _, _, _, z⟩ := h
  cases z
theorem takesN {X : Cx} {F0 : FZ} : L2N.Takes X (lXW X.K F0 fun _ => DXK.no) := takes0N.imp fun c d σ H ⟨F, γ, M, fs, e, g, s, x, h⟩ => h
end DL

set_option maxRecDepth 100000
set_option maxHeartbeats 2000000
namespace DL
open PySem PySem.Spec PyProof.Rows L2

/-! ### len(set(..)) of any ints -/
section
variable {X : Cx} {K : PySem.W.Frag} {F0 : FZ} {a : Expr} {ta : TE} {ta' : DTE} {pos : Pos}
end
end DL

set_option maxRecDepth 100000
set_option maxHeartbeats 2000000
namespace DL
open PySem PySem.Spec PyProof.Rows L2

/-! ### one error's class against another -/
section
variable {K : PySem.W.Frag} {S C : Addr} {b : Bool}
theorem kitCls_ref (h2 : PySem.W.isClsIn K C = true) (h3 : PySem.W.typeIn K (.ref C) = some (.type "type")) (h4 : PySem.W.subIn K (.ref S) (.ref C) = some b) : PySem.W.kitCls K (.ref S) (.ref C) = some b := by
  have e2 : ((PySem.W.clsIn K C).isSome && PySem.W.typeIn K (.ref C) == some (.type "type")) = true := by
    have h2' : (PySem.W.clsIn K C).isSome = true := h2
    rw [h2', h3]; rfl
  unfold PySem.W.kitCls
  simp only
  rw [if_pos e2]
  exact h4
theorem exm_ref (h1 : PySem.W.subIn K (.ref C) (.type "BaseException") = some true) (h2 : PySem.W.isClsIn K C = true) (h3 : PySem.W.typeIn K (.ref C) = some (.type "type")) (h4 : PySem.W.subIn K (.ref S) (.ref C) = some b) : PySem.W.exmOne K (.ref S) (.ref C) = some b := by
  unfold PySem.W.exmOne
  rw [if_pos (by rw [h1]; rfl)]
  exact kitCls_ref h2 h3 h4
theorem kit_ref (h2 : PySem.W.isClsIn K C = true) (h3 : PySem.W.typeIn K (.ref C) = some (.type "type")) (hs : PySem.W.subIn K (.ref S) (.ref S) = some true) (h4 : PySem.W.subIn K (.ref S) (.ref C) = some b) : PySem.W.kitOne K (.ref S) (.ref C) = some b := by
  unfold PySem.W.kitOne
  by_cases e : S = C
  · subst e
    rw [hs] at h4; cases h4
    exact if_pos (by simp)
  · rw [if_neg (by intro z; exact e (by have := beq_iff_eq.mp z; cases this; rfl))]
    exact kitCls_ref h2 h3 h4
theorem kit_typ {T : String} (hm : PySem.W.kitMeta T = true) (h4 : PySem.W.subIn K (.ref S) (.type T) = some b) : PySem.W.kitOne K (.ref S) (.type T) = some b := by
  unfold PySem.W.kitOne
  rw [if_neg (by intro z; have := beq_iff_eq.mp z; cases this)]
  unfold PySem.W.kitCls
  simp only
  rw [if_pos hm]
  exact h4
end
end DL

set_option maxRecDepth 100000
set_option maxHeartbeats 2000000
namespace DL
open PySem PySem.Spec PyProof.Rows L2

/-! ### min, max of one list or tuple of ints -/
section
variable {prog : Program} {w : World} {A : Around} {E : Value → Shared → Prop} {s : Shared} {l : Addr} {its : List Value} {ns : List Int} {Q : Value → Shared → Prop}
end
section
variable {X : Cx} {K : PySem.W.Frag} {F0 : FZ}
end

/-! ### == of an instance by the text's own __eq__ -/
section
variable {X : Cx} {F0 : FZ} {a b : Expr} {ta tb : TE} {ta' tb' : DTE} {pos : Pos}
/-- the text's own __eq__ of the class at C -/
structure DEqM (P : Program) (w : World) (K : PySem.W.Frag) (mg : Str → Option Value) (base : Heap) (k : Nat) (C : Addr) (sp : DSp) : Prop where
  ex : ∃ f fd ps, FnOk P w K mg base CX0 k f fd ps (liftSp K sp) ∧ PySem.W.findIn K (.ref C) "__eq__" = some (some (.ref f)) ∧ PySem.W.isFn K (.ref f) = true ∧ Binds K fd ps []
end
end DL

set_option maxRecDepth 100000
set_option maxHeartbeats 2000000
namespace DL
open PySem PySem.Spec PyProof.Rows L2

/-! ### isinstance against a class of the text -/
/-- a class of which there are instances -/
structure ICl (K : PySem.W.Frag) (C : Addr) : Prop where
  cl : Cls K C
  ha : PySem.W.findIn K (.ref C) "__class__" = some (some (.builtin "object.__class__"))
  hn : PySem.W.specialIn K (.builtin "object.__class__") "__get__" = some (some (.builtin "getset_descriptor.__get__"))
  ht : PySem.W.takesIn K (.builtin "object.__class__") = some true
  hm : PySem.W.mroIn K C (.type "object") = some true
structure IsC (K : PySem.W.Frag) (C : Addr) : Prop where
  is : PySem.W.isClsIn K C = true
  ty : PySem.W.typeIn K (.ref C) = some (.type "type")
section
variable {X : Cx} {K : PySem.W.Frag} {F0 : FZ} {C : Addr}
end
end DL

set_option maxRecDepth 100000
set_option maxHeartbeats 2000000
namespace DL
open PySem PySem.Spec PyProof.Rows L2

/-! ### [e for a in .. for b in ..] -/
section
variable {X : Cx} {K : PySem.W.Frag} {F0 : FZ}
def DIx (X : Cx) (F0 : FZ) (tg iter : Expr) (wi' : DTI) : Prop := ∃ wi, DI X F0 tg iter wi wi'
def lfI (K : PySem.W.Frag) (F0 : FZ) (t' : DTI) : TI := fun σ H Q => ∃ F γ M Q', Bs F0 F ∧ SR K F M H ∧ GR K F γ σ ∧ t' γ M Q' ∧ ∀ F1 items J M1 H1, FLe F F1 → SR K F1 M1 H1 → JR K F1 items J → Q' items M1 → Q J H1
theorem DIx.pi {tg iter : Expr} {wi' : DTI} (h : DIx X F0 tg iter wi') : PI X tg iter (lfI X.K F0 wi') := by
  obtain ⟨wi, h⟩ := h
  refine ⟨fun pins s σ H Q I q => ?_⟩
  obtain ⟨F, γ, M, Q', e0, s1, g, q, k⟩ := q
  exact h.pi.run pins s σ H Q I (h.le F γ M σ H Q' Q e0 s1 g q k)
variable {e tg tg1 elt iter iter1 : Expr} {ifs ifs1 : List Expr} {scope : Scope} {own : List (Str × Nat)} {vs1 : List Nat} {pos : Pos} {wi : TI} {wi' wi1' : DTI} {g' g1' : DTG} {tt' tt1' : DTT} {te' : DTE}
end
end DL

set_option maxRecDepth 100000
set_option maxHeartbeats 2000000
namespace DL
open PySem PySem.Spec PyProof.Rows L2

/-! ### dicts are frozen -/
section
variable {K : PySem.W.Frag} {F : FZ} {M : Mp} {H : Hp}
def FZ.putD (F : FZ) (a : Addr) (o : HO) : FZ := ⟨F.f, F.p, upd F.d a o⟩
theorem putD_le {p : Addr} {o : HO} (h : F.d p = none) : FLe F (F.putD p o) := ⟨⟨Same.refl _, fun b u e => by show upd F.d p o b = _; rw [upd_ne (ne_of_none e h)]; exact e⟩, rfl⟩
theorem SR.frzD (s : SR K F M H) {p : Addr} {o : MO} {u : HO} (h : M p = some o) (hu : H p = some u) (dc : DcO u) : SR K (F.putD p u) (mdel M p) H := by
  have hF := s.dj p _ h
  have hP := s.notP h
  have hD := s.notD h
  have le := putD_le (F := F) (o := u) hD
  refine ⟨s.fz, s.ok, fun b x q => ?_, s.pz, fun b x q => ?_, fun b x q => ?_, fun b x q => ?_, fun b x q => ?_⟩
  · by_cases w : b = p
    · subst w; rw [mdel_same] at q; cases q
    · rw [mdel_ne w] at q; exact s.dj _ _ q
  · have q' : F.p b = some x := q
    have w : b ≠ p := ne_of_none q' hP
    obtain ⟨a1, a2, a3, a4⟩ := s.pf b x q'
    exact ⟨a1, by rw [mdel_ne w]; exact a2, a3, fun v hv => a4 v (by
      have hv' : upd F.d p u b = some v := hv
      rw [upd_ne w] at hv'; exact hv')⟩
  · by_cases w : b = p
    · subst w; rw [mdel_same] at q; cases q
    · rw [mdel_ne w] at q
      obtain ⟨v, a1, a2⟩ := s.mu b x q
      exact ⟨v, a1, a2.mono le⟩
  · have q' : upd F.d p u b = some x := q
    by_cases w : b = p
    · subst w; rw [upd_same] at q'; cases q'; exact .inl hu
    · rw [upd_ne w] at q'; exact s.dz _ _ q'
  · have q' : upd F.d p u b = some x := q
    by_cases w : b = p
    · subst w; rw [upd_same] at q'; cases q'; exact ⟨hF, mdel_same, dc⟩
    · rw [upd_ne w] at q'
      obtain ⟨a1, a2, a3⟩ := s.df b x q'
      exact ⟨a1, by rw [mdel_ne w]; exact a2, a3⟩
theorem kvr_parts {κ : Type} : ∀ {l : List (κ × D)} {m : List (κ × V)}, KVR K F l m → l.map (·.1) = m.map (·.1) ∧ RpL K F (l.map (·.2)) (m.map (·.2))
  | _, _, .nil => ⟨rfl, .nil⟩
  | (k, d) :: l, (k2, v) :: m, .cons r t => by
    obtain ⟨e, r⟩ := r
    simp only at e r
    subst e
    obtain ⟨h1, h2⟩ := kvr_parts t
    exact ⟨by rw [List.map_cons, List.map_cons, h1], .cons r h2⟩
theorem SR.freezeK (s : SR K F M H) {p : Addr} {kvs : List (Key × D)} (h : M p = some (.dK kvs)) : ∃ F1, FLe F F1 ∧ SR K F1 (mdel M p) H ∧ Rp K F1 (.dk (kvs.map (·.1)) (kvs.map (·.2))) (.ref p) := by
  obtain ⟨u, h1, h2⟩ := s.mu p _ h
  cases h2 with
  | dK r z =>
    rename_i ps
    have le := putD_le (F := F) (o := .dK ps) (s.notD h)
    obtain ⟨e1, e2⟩ := kvr_parts r
    refine ⟨_, le, s.frzD h h1 z, ?_⟩
    rw [e1]
    exact .dk upd_same (e2.mono le)
theorem SR.freezeT (s : SR K F M H) {p : Addr} {kvs : List (List Key × D)} (h : M p = some (.dT kvs)) : ∃ F1, FLe F F1 ∧ SR K F1 (mdel M p) H ∧ Rp K F1 (.dt (kvs.map (·.1)) (kvs.map (·.2))) (.ref p) := by
  obtain ⟨u, h1, h2⟩ := s.mu p _ h
  cases h2 with
  | dT r z zz =>
    rename_i ps
    have le := putD_le (F := F) (o := .dT ps) (s.notD h)
    obtain ⟨e1, e2⟩ := kvr_parts r
    refine ⟨_, le, s.frzD h h1 ⟨z, zz⟩, ?_⟩
    rw [e1]
    exact .dt upd_same (e2.mono le)
end
/-- ghost: what a name holds is frozen: a list, a dict -/
def frzV (M : Mp) : D → Option (D × Mp)
  | .ref p => (match M p with
    | some (.lst l) => some (.lst l, mdel M p)
    | some (.dK kvs) => some (.dk (kvs.map (·.1)) (kvs.map (·.2)), mdel M p)
    | some (.dT kvs) => some (.dt (kvs.map (·.1)) (kvs.map (·.2)), mdel M p)
    | _ => none)
  | _ => none
theorem frzV_rp {K : PySem.W.Frag} {F : FZ} {M M' : Mp} {H : Hp} {d d' : D} {v : V} (s : SR K F M H) (r : Rp K F d v) (h : frzV M d = some (d', M')) : ∃ F1, FLe F F1 ∧ SR K F1 M' H ∧ Rp K F1 d' v := by
  cases r with
  | ref p =>
    simp only [frzV] at h
    split at h
    · rename_i hm
      cases h
      obtain ⟨xs, s1, e1, r1⟩ := s.freeze hm
      exact ⟨_, e1, s1, r1⟩
    · rename_i hm
      cases h
      exact s.freezeK hm
    · rename_i hm
      cases h
      exact s.freezeT hm
    · cases h
  | _ => simp [frzV] at h
section
variable {X : Cx} {K : PySem.W.Frag} {F0 : FZ} {t : TS} {t' : DTS} {e : Expr} {te : TE} {te' : DTE}
def dFrzE (te : DTE) : DTE := fun γ M Q => te γ M fun d M1 => ∃ d' M', frzV M1 d = some (d', M') ∧ Q d' M'
theorem de_frzA (h : DE X F0 e te te') : DE X F0 e te (dFrzE te') := ⟨h.pe, fun F γ M σ H Q' Q e0 s g q k => by
  refine h.le F γ M σ H _ _ e0 s g q fun F1 d v M1 H1 e1 s1 r1 q1 => ?_
  obtain ⟨d', M', hf, q1⟩ := q1
  obtain ⟨F2, e2, s2, r2⟩ := frzV_rp s1 r1 hf
  exact k _ _ _ _ H1 (e1.trans e2) s2 r2 q1⟩
end

/-! ### locks -/
section
variable {K : PySem.W.Frag} {F : FZ} {M : Mp} {H : Hp}
theorem dco_no {u : HO} (dc : DcO u) : (∀ od v, u ≠ .frz od v) ∧ (∀ xs, u ≠ .tup xs) ∧ Mut (some u) := by
  cases u with
  | dK _ => exact ⟨fun _ _ z => (nomatch z), fun _ z => (nomatch z), trivial⟩
  | dT _ => exact ⟨fun _ _ z => (nomatch z), fun _ z => (nomatch z), trivial⟩
  | _ => exact False.elim dc
theorem SR.over (s : SR K F M H) {a : Addr} {o : HO} (hf : F.f a = none) (hp : F.p a = none) (hm : M a = none) (hd : ∀ u, F.d a = some u → Rd (upd H a o) a u) : SR K F M (upd H a o) := by
  refine ⟨fun b x e => by rw [upd_ne (ne_of_none e hf)]; exact s.fz _ _ e, s.ok, s.dj, fun b x e => by rw [upd_ne (ne_of_none e hp)]; exact s.pz _ _ e, s.pf, fun b x e => ?_, fun b x e => ?_, s.df⟩
  · obtain ⟨v, h1, h2⟩ := s.mu b x e
    exact ⟨v, by rw [upd_ne (mne_of_none e hm)]; exact h1, h2⟩
  · by_cases w : b = a
    · subst w; exact hd x e
    · exact rd_upd (s.dz b x e) w
/-- a frozen dict under a lock: told as somebody else's -/
theorem SR.lockIn (s : SR K F M H) {d : Addr} {u : HO} {od : Obj} (hd : F.d d = some u) (h : H d = some (.frz od u)) : SR K (F.hide d (.frz od u)) M H ∧ Same F.p (F.hide d (.frz od u)).p := by
  obtain ⟨h1, h2, dc⟩ := s.df d u hd
  refine ⟨s.hide h1 h2 h (fun _ z => nomatch z) (fun v hv => by rw [hd] at hv; cases hv; exact ⟨od, rfl⟩), fun b o e => ?_⟩
  show upd F.p d _ b = some o
  by_cases w : b = d
  · subst w
    have := s.pz _ _ e
    rw [h] at this
    rw [upd_same]; exact this
  · rw [upd_ne w]; exact e
theorem SR.lockOn (s : SR K F M H) {d : Addr} {u : HO} (hd : F.d d = some u) (h : H d = some u) (od : Obj) : SR K F M (upd H d (.frz od u)) ∧ F.p d = none := by
  obtain ⟨h1, h2, dc⟩ := s.df d u hd
  have hp : F.p d = none := by
    cases e : F.p d with
    | none => rfl
    | some o =>
      have a := s.pz _ _ e
      rw [h] at a; cases a
      obtain ⟨od', z⟩ := (s.pf d _ e).2.2.2 u hd
      exact absurd z ((dco_no dc).1 _ _)
  exact ⟨s.over h1 hp h2 fun v hv => by rw [hd] at hv; cases hv; exact .inr ⟨od, upd_same⟩, hp⟩
theorem SR.lockOff (s : SR K F M H) {d : Addr} {u : HO} (hd : F.d d = some u) (hp : F.p d = none) : SR K F M (upd H d u) := by
  obtain ⟨h1, h2, dc⟩ := s.df d u hd
  exact s.over h1 hp h2 fun v hv => by rw [hd] at hv; cases hv; exact .inl upd_same
end
def tOrLockS (t : TS) : TS := fun D σ H => t D σ H ∨ tLock t D σ H
theorem ps_orLock {X : Cx} {st : Stmt} {t : TS} (h : PS X st t) : PS X st (tOrLockS t) := ⟨fun pins s σ H D I q => q.elim (fun q => h.run pins s σ H D I q) fun q => (ps_lock h).run pins s σ H D I q⟩
section
variable {K : PySem.W.Frag} {F0 : FZ}
/-- a statement that runs under a lock of the dict at d -/
theorem ls_lockS {t : TS} {F : FZ} {γ : G} {M : Mp} {σ : L2.St} {H : Hp} {D' : DEnds} {D0 : Ends} {d : Addr} {u : HO} (e0 : Bs F0 F) (s : SR K F M H) (g : GR K F γ σ) (hd : F.d d = some u)
    (h : ∀ (od : Obj) (F1 : FZ) (H1 : Hp) (D1 : Ends), Bs F0 F1 → SR K F1 M H1 → GR K F1 γ σ → F1.f = F.f → F1.d = F.d → F1.p d = some (.frz od u) → H1 d = some (.frz od u) → ER K F1 D' D1 → t D1 σ H1)
    (er : ER K F D' D0) : tOrLockS t D0 σ H := by
  have gg : ∀ od, GR K (F.hide d (.frz od u)) γ σ := fun od => GR.monoS (F := F) (F' := F.hide d (.frz od u)) (Sm.rfl' (F := F)) g
  have fin : ∀ {F2 : FZ} {M1 : Mp} {H2 : Hp} {od : Obj}, FLe (F.hide d (.frz od u)) F2 → Same F.p (F.hide d (.frz od u)).p → SR K F2 M1 H2 → SR K ⟨F2.f, F.p, F2.d⟩ M1 H2 ∧ FLe F ⟨F2.f, F.p, F2.d⟩ ∧ H2 d = some (.frz od u) := fun {F2 M1 H2 od} e2 sp s2 =>
    ⟨s2.lessP (by rw [e2.e]; exact sp), ⟨e2.s, rfl⟩, s2.pz _ _ (by rw [e2.e]; exact upd_same)⟩
  have g2 : ∀ {F2 : FZ} {γ2 : G} {σ2 : L2.St}, GR K F2 γ2 σ2 → GR K ⟨F2.f, F.p, F2.d⟩ γ2 σ2 := fun {F2 γ2 σ2} x => GR.monoS (F := F2) (F' := ⟨F2.f, F.p, F2.d⟩) Sm.rfl' x
  have r2' : ∀ {F2 : FZ} {dd : D} {v : V}, Rp K F2 dd v → Rp K ⟨F2.f, F.p, F2.d⟩ dd v := fun {F2 dd v} x => Rp.monoS (F := F2) (F' := ⟨F2.f, F.p, F2.d⟩) Sm.rfl' x
  rcases s.dz d u hd with hz | ⟨od, hz⟩
  · refine .inr ⟨d, u, hz, (dco_no (s.df d u hd).2.2).2.2, fun od => ?_⟩
    obtain ⟨s1, hp⟩ := s.lockOn hd hz od
    obtain ⟨s2, sp⟩ := s1.lockIn hd upd_same
    refine h od (F.hide d (.frz od u)) _ _ ⟨e0.f, e0.p.trans sp⟩ s2 (gg od) rfl rfl upd_same upd_same ⟨fun F2 γ2 M1 σ2 H2 e2 s2 x2 q2 => ?_, fun F2 dd v M1 H2 e2 s2 r2 q2 => ?_, fun F2 γ2 M1 σ2 H2 e2 s2 x2 q2 => ?_, fun F2 γ2 M1 σ2 H2 e2 s2 x2 q2 => ?_⟩
    · obtain ⟨z1, z2, z3⟩ := fin e2 sp s2
      exact ⟨z3, er.nx _ γ2 M1 σ2 _ z2 (z1.lockOff (z2.s.2 _ _ hd) hp) (g2 x2) q2⟩
    · obtain ⟨z1, z2, z3⟩ := fin e2 sp s2
      exact ⟨z3, er.rt _ dd v M1 _ z2 (z1.lockOff (z2.s.2 _ _ hd) hp) (r2' r2) q2⟩
    · obtain ⟨z1, z2, z3⟩ := fin e2 sp s2
      exact ⟨z3, er.bk _ γ2 M1 σ2 _ z2 (z1.lockOff (z2.s.2 _ _ hd) hp) (g2 x2) q2⟩
    · obtain ⟨z1, z2, z3⟩ := fin e2 sp s2
      exact ⟨z3, er.ct _ γ2 M1 σ2 _ z2 (z1.lockOff (z2.s.2 _ _ hd) hp) (g2 x2) q2⟩
  · obtain ⟨s2, sp⟩ := s.lockIn hd hz
    refine .inl (h od (F.hide d (.frz od u)) H D0 ⟨e0.f, e0.p.trans sp⟩ s2 (gg od) rfl rfl upd_same hz ⟨fun F2 γ2 M1 σ2 H2 e2 s2 x2 q2 => ?_, fun F2 dd v M1 H2 e2 s2 r2 q2 => ?_, fun F2 γ2 M1 σ2 H2 e2 s2 x2 q2 => ?_, fun F2 γ2 M1 σ2 H2 e2 s2 x2 q2 => ?_⟩)
    · obtain ⟨z1, z2, z3⟩ := fin e2 sp s2
      exact er.nx _ γ2 M1 σ2 _ z2 z1 (g2 x2) q2
    · obtain ⟨z1, z2, z3⟩ := fin e2 sp s2
      exact er.rt _ dd v M1 _ z2 z1 (r2' r2) q2
    · obtain ⟨z1, z2, z3⟩ := fin e2 sp s2
      exact er.bk _ γ2 M1 σ2 _ z2 z1 (g2 x2) q2
    · obtain ⟨z1, z2, z3⟩ := fin e2 sp s2
      exact er.ct _ γ2 M1 σ2 _ z2 z1 (g2 x2) q2
/-- a walk over the keys of a locked dict -/
theorem jr_keys {F : FZ} {d : Addr} {od : Obj} {ps : List (Key × V)} (h : F.p d = some (.frz od (.dK ps))) : JR K F ((ps.map (·.1)).map keyD) (Itk d od ps) := by
  have hl : ((ps.map (·.1)).map keyD).length = ps.length := by simp
  refine jr_of (G := fun H => H d = some (.frz od (.dK ps))) (by rw [hl]; exact walk_keys) (fun F1 M1 H1 e s => s.pz _ _ (e.p _ _ _ h)) (fun i H hi q => ⟨q, by rw [hl] at hi; exact hi⟩) fun i x F1 M1 H1 v H2 e s hx y => ?_
  obtain ⟨rfl, k, w, hk, rfl⟩ := y
  rw [List.getElem?_map, List.getElem?_map, hk] at hx
  cases hx
  exact ⟨F1, FLe.refl _, s, keyD_rp k⟩
theorem jr_keysT {F : FZ} {d : Addr} {od : Obj} {ps : List (List Key × V)} (hz : ∀ p ∈ ps, p.1.length ≤ sizeLine) (h : F.p d = some (.frz od (.dT ps))) : JR K F ((ps.map (·.1)).map fun k => .tup (k.map keyD)) (Itkt d od ps) := by
  have hl : ((ps.map (·.1)).map fun k => D.tup (k.map keyD)).length = ps.length := by simp
  refine jr_of (G := fun H => H d = some (.frz od (.dT ps))) (by rw [hl]; exact walk_keysT) (fun F1 M1 H1 e s => s.pz _ _ (e.p _ _ _ h)) (fun i H hi q => ⟨q, by rw [hl] at hi; exact hi⟩) fun i x F1 M1 H1 v H2 e s hx y => ?_
  obtain ⟨rfl, k, w, q, hk, rfl, hq⟩ := y
  rw [List.getElem?_map, List.getElem?_map, hk] at hx
  cases hx
  obtain ⟨F2, e2, s2, r2⟩ := s.adoptT hq (by rw [List.length_map]; exact hz _ (List.mem_of_getElem? hk))
  exact ⟨F2, e2, s2, .tup r2 (keysD_rp _)⟩
end
end DL

set_option maxRecDepth 100000
set_option maxHeartbeats 2000000
namespace DL
open PySem PySem.Spec PyProof.Rows L2

/-! ### walks over a frozen dict -/
/-- a walk that wants the dict locked -/
def LIL (K : PySem.W.Frag) (F0 : FZ) (wi' : DTI) (wi : TI) : Prop := ∀ (F : FZ) (γ : G) (M : Mp) (σ : L2.St) (H : Hp) (R' : List D → Mp → Prop), Bs F0 F → SR K F M H → GR K F γ σ → wi' γ M R' →
  ∃ (d : Addr) (u : HO) (items : List D), F.d d = some u ∧ R' items M ∧ ∀ (od : Obj) (F1 : FZ) (H1 : Hp) (R : It → Hp → Prop), F1.p d = some (.frz od u) → H1 d = some (.frz od u) → Sm F F1 → (∀ J, (∀ F2, Bs F1 F2 → JR K F2 items J) → R J H1) → wi σ H1 R
def jKeys (i : Nat) : DTI := fun γ M R => match γ[i]? with
  | some (some (.dk ks _)) => R (ks.map keyD) M
  | some (some (.dt ks _)) => R (ks.map fun k => .tup (k.map keyD)) M
  | _ => False
section
variable {K : PySem.W.Frag} {F0 : FZ} {X : Cx}
theorem lil_keys (i : Nat) : LIL K F0 (jKeys i) (iKeys (tVar i)) := by
  intro F γ M σ H R' e0 s g q
  unfold jKeys at q
  split at q
  · rename_i ks l hi
    obtain ⟨v, hv, rv⟩ := g.at' i _ hi
    cases rv with
    | dk a b => exact ⟨_, _, _, a, q, fun od F1 H1 R hp hz sm k => ⟨_, hv, _, od, rfl, .inl ⟨_, hz, k _ fun F2 b2 => jr_keys (b2.p _ _ hp)⟩⟩⟩
  · rename_i ks l hi
    obtain ⟨v, hv, rv⟩ := g.at' i _ hi
    cases rv with
    | dt a b =>
      have dc : DcO (.dT _) := (s.df _ _ a).2.2
      exact ⟨_, _, _, a, q, fun od F1 H1 R hp hz sm k => ⟨_, hv, _, od, rfl, .inr ⟨_, hz, k _ fun F2 b2 => jr_keysT dc.2 (b2.p _ _ hp)⟩⟩⟩
  · exact q.elim
theorem Bs.trans {F F1 F2 : FZ} (a : Bs F F1) (b : Bs F1 F2) : Bs F F2 := ⟨a.f.trans' b.f, a.p.trans b.p⟩
theorem LG.base {F1 : FZ} {g' : DTG} {g : TG} (h : LG K F0 g' g) (b : Bs F0 F1) : LG K F1 g' g := fun F γ M σ H d v Q' Q e0 => h F γ M σ H d v Q' Q (b.trans e0)
theorem LT.base {F1 : FZ} {t' : DTT} {t : TT} (h : LT K F0 t' t) (b : Bs F0 F1) : LT K F1 t' t := fun F γ M σ H Q' Q e0 => h F γ M σ H Q' Q (b.trans e0)
theorem LE.base {F1 : FZ} {t' : DTE} {t : TE} (h : LE K F0 t' t) (b : Bs F0 F1) : LE K F1 t' t := fun F γ M σ H Q' Q e0 => h F γ M σ H Q' Q (b.trans e0)
theorem LS.base {F1 : FZ} {t' : DTS} {t : TS} (h : LS K F0 t' t) (b : Bs F0 F1) : LS K F1 t' t := fun F γ M σ H D' D e0 => h F γ M σ H D' D (b.trans e0)
/-- known items -/
theorem li_const {items : List D} {J : It} (h : ∀ F, Bs F0 F → JR K F items J) : LI K F0 (fun _ M R => R items M) (fun _ H R => R J H) := fun F γ M σ H R' R e0 s g q k => k F items J M H (FLe.refl F) s (h F e0) q
theorem ls_for {wi : TI} {wi' : DTI} {g : TG} {g' : DTG} {tb : TS} {tb' : DTS} (hi : LI K F0 wi' wi) (hg : LG K F0 g' g) (hb : LS K F0 tb' tb) : LS K F0 (dFor wi' g' tb') (tFor wi g tb) := by
  intro F γ M σ H D' D0 e0 s gr q er
  refine hi F γ M σ H _ _ e0 s gr q fun F1 items J M1 H1 e1 s1 j1 q1 => ?_
  obtain ⟨I, h0, step, fin⟩ := q1
  refine ⟨fun i m σ H => m = items.length - i ∧ i ≤ items.length ∧ ∃ F2 γ2 M2, FLe F1 F2 ∧ SR K F2 M2 H ∧ GR K F2 γ2 σ ∧ I i γ2 M2, ⟨items.length, by simp, Nat.zero_le _, F1, γ, M1, FLe.refl F1, s1, gr.mono e1, h0⟩, ?_⟩
  rintro i m σ2 H2 ⟨rfl, hi', F2, γ2, M2, e2, s2, g2, q2⟩
  have j2 := j1 i F2 M2 H2 e2.bj s2
  by_cases hlt : i < items.length
  · have hd : items[i]? = some items[i] := List.getElem?_eq_getElem hlt
    obtain ⟨go, y⟩ := j2.2 _ hd
    refine .inr ⟨go, fun σ' H' => ∃ F2 γ2 M2, FLe F1 F2 ∧ SR K F2 M2 H' ∧ GR K F2 γ2 σ' ∧ I (i + 1) γ2 M2, fun σ' H' h => ⟨items.length - (i + 1), by omega, rfl, hlt, h⟩, fun x H3 yy => ?_⟩
    obtain ⟨F3, e3, s3, r3⟩ := y x H3 yy
    refine hg F3 γ2 M2 σ2 H3 _ x _ _ ((e0.tr e1).tr (e2.trans e3)) s3 (g2.mono e3) r3 (step i _ γ2 M2 hd q2) fun F4 γ4 M4 σ4 H4 e4 s4 g4 q4 => ?_
    refine hb F4 γ4 M4 σ4 H4 _ _ (((e0.tr e1).tr (e2.trans e3)).tr e4) s4 g4 q4 ⟨?_, fun F5 d v M5 H5 e5 => er.rt F5 d v M5 H5 ((e1.trans ((e2.trans e3).trans e4)).trans e5), fun F5 γ5 M5 σ5 H5 e5 => er.nx F5 γ5 M5 σ5 H5 ((e1.trans ((e2.trans e3).trans e4)).trans e5), ?_⟩
    · intro F5 γ5 M5 σ5 H5 e5 s5 g5 q5
      exact ⟨F5, γ5, M5, (((e2.trans e3).trans e4).trans e5), s5, g5, q5⟩
    · intro F5 γ5 M5 σ5 H5 e5 s5 g5 q5
      exact ⟨F5, γ5, M5, (((e2.trans e3).trans e4).trans e5), s5, g5, q5⟩
  · have e : i = items.length := by omega
    subst e
    exact .inl ⟨j2.1 (Nat.le_refl _), er.nx F2 γ2 M2 σ2 H2 (e1.trans e2) s2 g2 (fin γ2 M2 q2)⟩
/-- a loop over a frozen dict -/
theorem ls_forL {wi : TI} {wi' : DTI} {g : TG} {g' : DTG} {tb : TS} {tb' : DTS} (hi : LIL K F0 wi' wi) (hg : LG K F0 g' g) (hb : LS K F0 tb' tb) : LS K F0 (dFor wi' g' tb') (tOrLockS (tFor wi g tb)) := by
  intro F γ M σ H D' D0 e0 s gr q er
  obtain ⟨d, u, items, hd, q, walk⟩ := hi F γ M σ H _ e0 s gr q
  refine ls_lockS e0 s gr hd (fun od F1 H1 D1 b1 s1 g1 ef ed hp hz er1 => ?_) er
  refine walk od F1 H1 _ hp hz ⟨by rw [ef]; exact Same.refl _, by rw [ed]; exact Same.refl _⟩ fun J hJ => ?_
  have b2 := b1
  exact ls_for (F0 := F1) (wi' := fun _ M R => R items M) (wi := fun _ H R => R J H) (li_const hJ) (hg.base b1) (hb.base b1) F1 γ M σ H1 D' D1 (Bs.refl _) s1 g1 q er1
end
/-- a walked dict: how the kit walks it -/
structure DIL (X : Cx) (F0 : FZ) (tg iter : Expr) (wi : TI) (wi' : DTI) : Prop where
  pi : PI X tg iter wi
  le : LIL X.K F0 wi' wi
section
variable {X : Cx} {F0 : FZ} {tg e : Expr} {i : Nat} {pos apos cpos : Pos}
theorem dil_keys (h : DE X F0 e (tVar i) (dVar i)) : DIL X F0 tg e (iKeys (tVar i)) (jKeys i) := ⟨pi_keys h.pe, lil_keys i⟩
variable {iter elt : Expr} {body : List Stmt} {ifs : List Expr} {scope : Scope} {own : List (Str × Nat)} {spos py : Pos} {wi : TI} {wi' : DTI} {g : TG} {g' : DTG} {tb : TS} {tb' : DTS} {tt' : DTT} {te' : DTE}
theorem ds_forL (hp : PassesOwn (model X.prog X.w) X.A X.env X.xe) (hc : X.calm = true) (hi : DIL X F0 tg iter wi wi') (hg : DG X F0 tg g g') (hb : DB X F0 body tb tb') (hs : ∀ x, foldedSetIterable iter X.env x = pure x := by intro _; rfl) : DS X F0 (.For tg iter body [] pos) (tOrLockS (tFor wi g tb)) (dFor wi' g' tb') :=
  ⟨ps_orLock (ps_for hp hc hi.pi hg.pg hb.ps hs), ls_forL hi.le hg.le hb.le⟩
end
end DL

set_option maxRecDepth 100000
set_option maxHeartbeats 2000000
namespace DL
open PySem PySem.Spec PyProof.Rows L2

/-! ### walks over a changeable list: it is out of reach meanwhile -/
section
variable {K : PySem.W.Frag} {F0 : FZ} {X : Cx}
end
section
variable {X : Cx} {F0 : FZ} {tg iter elt : Expr} {body : List Stmt} {ifs : List Expr} {scope : Scope} {own : List (Str × Nat)} {pos : Pos} {g : TG} {g' : DTG} {tb : TS} {tb' : DTS} {tt' : DTT} {te' : DTE} {i : Nat}
end
end DL

set_option maxRecDepth 100000
set_option maxHeartbeats 2000000
namespace DL
open PySem PySem.Spec PyProof.Rows L2

/-! ### == of lists that may change -/
section
variable {X : Cx} {K : PySem.W.Frag} {F0 : FZ} {a b : Expr} {ta tb : TE} {ta' tb' : DTE} {pos : Pos}
end
end DL

set_option maxRecDepth 100000
set_option maxHeartbeats 2000000
namespace DL
open PySem PySem.Spec PyProof.Rows L2

/-! ### != of instances whose class has an own __eq__ and no own __ne__ -/
/-- the class at C leaves != to object -/
structure NeOf (K : PySem.W.Frag) (C : Addr) : Prop where
  ne : PySem.W.findIn K (.ref C) "__ne__" = some (some (.builtin "object.__ne__"))
  hm : PySem.W.mroIn K C (.type "object") = some true
section
variable {prog : Program} {w : World} {A : Around} {E : Value → Shared → Prop} {s : Shared} {K : PySem.W.Frag} {x C f : Addr} {ox : Obj} {od : Option Obj} {b : Value}
end
section
variable {X : Cx} {F0 : FZ} {a b : Expr} {ta tb : TE} {ta' tb' : DTE} {pos : Pos}
end
end DL

set_option maxRecDepth 100000
set_option maxHeartbeats 2000000
namespace DL
open PySem PySem.Spec PyProof.Rows L2

/-! ### the place of an int in a list of ints -/
section
variable {X : Cx} {K : PySem.W.Frag} {F0 : FZ} {o e : Expr} {to : TE} {to' : DTE} {apos cpos : Pos}
end
end DL

set_option maxRecDepth 100000
set_option maxHeartbeats 2000000
namespace DL
open PySem PySem.Spec PyProof.Rows L2

/-! ### tuples of the written part, by a global name -/
section
variable {X : Cx} {K : PySem.W.Frag} {F0 : FZ}
theorem ktup_of {a : Addr} {its : Array Value} {n : Nat} {sl : Array (Option Value)} {xs : List V} (h : K.lookup a = some ⟨.type "tuple", none, .seq its n, sl⟩) (hz : its.size ≤ sizeLine) (r : Vals xs its.toList) : KTup K a xs := ⟨_, its, n, h, rfl, rfl, hz, r, rfl⟩
/-- the tuple behind a global name -/
structure GT (K : PySem.W.Frag) (mg : Str → Option Value) (x : Str) (ds : List D) : Prop where
  ex : ∃ (a : Addr) (xs : List V), mg x = some (.ref a) ∧ KTup K a xs ∧ ∀ F : FZ, RpL K F ds xs
theorem de_globK {x : Str} {a : Addr} {xs : List V} {ds : List D} {pos : Pos} (hm : X.mg x = some (.ref a)) (hk : KTup X.K a xs) (hr : ∀ F : FZ, RpL X.K F ds xs) (hg : Gl X x := by rfl) (hd : (x == ("__debug__" : Str)) = false := by decide) : DE X F0 (.Name x pos) (tC (.ref a)) (dC (.kt ds)) :=
  ⟨pe_glob hg hm rfl hd, fun F γ M σ H Q' Q e0 s g q k => k F (.kt ds) (.ref a) M H (FLe.refl F) s (.kt (.inl hk) (hr F)) q⟩
end

/-! ### sorted, of a dict of few ints -/
section
variable {X : Cx} {K : PySem.W.Frag} {F0 : FZ} {e : Expr} {pos : Pos}
def dSortD : DRC := fun ds M Q => match ds with
  | [.ref p] => ∃ (kvs : List (Key × D)) (ks : List Int), M p = some (.dK kvs) ∧ kvs.map (·.1) = ks.map .inl ∧ ks.length < 64 ∧ ∀ ns' : List Int, ns'.Perm ks → ns'.Pairwise (· ≤ ·) → Q (.lst (ns'.map .int)) M
  | [.dk k0 _] => ∃ ks : List Int, k0 = ks.map .inl ∧ ks.length < 64 ∧ ∀ ns' : List Int, ns'.Perm ks → ns'.Pairwise (· ≤ ·) → Q (.lst (ns'.map .int)) M
  | _ => False
def rSortDI : List V → Hp → VK → Prop := fun xs H Q => ∃ (a : Addr) (kvs : List (Key × V)) (ks : List Int), xs = [.ref a] ∧ Rd H a (.dK kvs) ∧ kvs.map (·.1) = ks.map Sum.inl ∧ ks.length < 64 ∧
    ∀ (ys : List Int) (p : Addr), ys.Perm ks → ys.Pairwise (· ≤ ·) → H p = none → Q (.ref p) (upd H p (.lst (ys.map V.int)))
theorem kvr_keysD {κ : Type} {F : FZ} : ∀ {l : List (κ × D)} {m : List (κ × V)}, KVR K F l m → l.map (·.1) = m.map (·.1) := fun h => (kvr_parts h).1
theorem lc_sortD : LC K F0 dSortD rSortDI := by
  intro F M H ds vs Q' Q e0 s r q k
  unfold dSortD at q
  split at q
  · rename_i p
    obtain ⟨kvs, ks, hm, hk, h64, q⟩ := q
    cases r with
    | cons r1 r2 =>
      cases r2
      cases r1
      obtain ⟨u, h1, h2⟩ := s.mu p _ hm
      cases h2 with
      | dK b z =>
        refine ⟨p, _, ks, rfl, .inl h1, by rw [← kvr_keysD b]; exact hk, h64, fun ns' a' p1 p2 hp => ?_⟩
        have e2 := same_upd (o := .lst (ns'.map V.int)) (s.freeF hp)
        have hsl := sizeLine_eq
        exact k _ _ _ _ _ e2 (s.newF hp (by show (ns'.map V.int).length ≤ sizeLine; rw [List.length_map, p1.length_eq]; omega)) (.lst upd_same (RpL.ofInt ns')) (q ns' p1 p2)
  · obtain ⟨ks, hk, h64, q⟩ := q
    cases r with
    | cons r1 r2 =>
      cases r2
      cases r1 with
      | dk a b =>
        refine ⟨_, _, ks, rfl, s.dz _ _ a, hk, h64, fun ns' a' p1 p2 hp => ?_⟩
        have e2 := same_upd (o := .lst (ns'.map V.int)) (s.freeF hp)
        have hsl := sizeLine_eq
        exact k _ _ _ _ _ e2 (s.newF hp (by show (ns'.map V.int).length ≤ sizeLine; rw [List.length_map, p1.length_eq]; omega)) (.lst upd_same (RpL.ofInt ns')) (q ns' p1 p2)
  · exact q.elim
theorem de_sortD {t : TA} {t' : DTA} {p : Pos} (hm : X.mg "sorted" = none) (ha : DA X F0 [e] t t') (hc : X.calm = true := by rfl) (hg : Gl X "sorted" := by rfl) (he : starEach [e] X.env = (false, eval e X.env) :: starEach [] X.env := by rfl) : DE X F0 (.Call (.Name "sorted" p) [e] [] pos) (tCB rSortDI t) (dCB dSortD t') :=
  de_blt (call_sortedDI hc) lc_sortD hm ha (by decide +kernel) hg (by decide) (by decide) he rfl
end
end DL

set_option maxRecDepth 100000
set_option maxHeartbeats 2000000
namespace DL
open PySem PySem.Spec PyProof.Rows L2

/-! ### data in order: sorted, <, <=, >, >= -/
abbrev leD (a b : D) : Bool := !PySem.W.dataLt b.py a.py
section
variable {X : Cx}
end
section
variable {X : Cx} {K : PySem.W.Frag} {F0 : FZ} {a b e : Expr} {ta tb : TE} {ta' tb' : DTE} {pos : Pos}
end
/-! ### rows of ints -/
end DL

set_option maxRecDepth 100000
set_option maxHeartbeats 4000000
namespace DL
open PySem PySem.Spec PyProof.Rows L2

/-! ### set(xs) of a list of ints, as SetR; sorted(set(..)) -/
section
variable {P : Program} {w : World} {A : Around} {E : Value → Shared → Prop} {s : Shared}
abbrev eS (w : World) : Obj := { cls := .type "set", dict := none, data := .set #[] 0 (.fresh 0 0 (!w.params.followText "set-order")) }
end
section
variable {X : Cx} {K : PySem.W.Frag} {F0 : FZ} {a : Expr} {ta : TE} {ta' : DTE} {pos : Pos}
end
/-! ### sorted(d), a new list to be changed -/
section
variable {X : Cx} {K : PySem.W.Frag} {F0 : FZ} {e : Expr} {pos : Pos}
end
end DL

set_option maxRecDepth 100000
set_option maxHeartbeats 2000000
namespace DL
open PySem PySem.Spec PyProof.Rows L2

/-! ### ==, != of an instance with an own __eq__ and a thing of another kind -/
section
open PySem.SeqAt PySem.MeetsSeq PySem.AutoSeq1
abbrev NotI (s : Shared) (p : Addr) (T : String) : Prop := ∀ M : Model, PySem.W.Looks M s.heap (isInstance (.ref p) (.type T)) false
end
section
variable {prog : Program} {w : World} {A : Around} {E : Value → Shared → Prop} {s : Shared} {K : PySem.W.Frag} {x C f : Addr} {ox : Obj} {od : Option Obj} {a : Value} {Ta id : String}
end
/-- the class at C is none of the built-in ones -/
structure NoB (K : PySem.W.Frag) (C : Addr) : Prop where
  n : PySem.W.subIn K (.ref C) (.type "NoneType") = some false
  b : PySem.W.subIn K (.ref C) (.type "bool") = some false
  i : PySem.W.subIn K (.ref C) (.type "int") = some false
  s : PySem.W.subIn K (.ref C) (.type "str") = some false
  t : PySem.W.subIn K (.ref C) (.type "tuple") = some false
  l : PySem.W.subIn K (.ref C) (.type "list") = some false
  d : PySem.W.subIn K (.ref C) (.type "dict") = some false
/-- a thing of a built-in kind -/
inductive Oth (K : PySem.W.Frag) (H : Hp) : V → String → Prop
  | non : Oth K H .non "NoneType"
  | bl (b : Bool) : Oth K H (.bl b) "bool"
  | int (i : Int) : Oth K H (.int i) "int"
  | str (z : Str) : Oth K H (.str z) "str"
  | tup {a : Addr} {xs : List V} (h : SqT K H a xs) : Oth K H (.ref a) "tuple"
  | lst {a : Addr} {xs : List V} (h : SqL K H a xs) : Oth K H (.ref a) "list"
  | dct {a : Addr} {kvs : List (Key × V)} (h : H a = some (.dK kvs)) : Oth K H (.ref a) "dict"
section
variable {X : Cx} {pins : List (Addr × Obj)} {σ : L2.St} {H : Hp} {s : Shared} {y : V} {u : Value} {T : String}
end
section
variable {prog : Program} {w : World} {A : Around} {E : Value → Shared → Prop} {s : Shared} {K : PySem.W.Frag} {x C f : Addr} {ox : Obj} {od : Option Obj} {b tb : Value}
end
section
variable {X : Cx} {F0 : FZ} {a b : Expr} {ta tb : TE} {ta' tb' : DTE} {pos : Pos}
/-- the other one, as data -/
def othD (M : Mp) : D → Bool
  | .non => true
  | .bl _ => true
  | .int _ => true
  | .str _ => true
  | .tup _ => true
  | .kt _ => true
  | .lst _ => true
  | .ref p => (match M p with
    | some (.lst _) => true
    | some (.dK _) => true
    | _ => false)
  | _ => false
def dOthA (K : PySem.W.Frag) (C : Addr) (M : Mp) (y : D) : Prop := othD M y = true ∨ ∃ q C2 gs, y = .ref q ∧ M q = some (.ins C2 gs) ∧ PySem.W.notFirst K C (.ref C2) = true
def dEqAny (K : PySem.W.Frag) (C : Addr) (sp : DSp) : DR2 := fun x y M Q => ∃ p fs, x = .ref p ∧ M p = some (.ins C fs) ∧ dOthA K C M y ∧ sp [.ref p, y] M (fun d M1 => ∃ b, d = .bl b ∧ Q (.bl b) M1) DXK.no
def dNeAny (K : PySem.W.Frag) (C : Addr) (sp : DSp) : DR2 := fun x y M Q => ∃ p fs, x = .ref p ∧ M p = some (.ins C fs) ∧ dOthA K C M y ∧ sp [.ref p, y] M (fun d M1 => ∃ b, d = .bl b ∧ Q (.bl (!b)) M1) DXK.no
def dEqRef (C : Addr) (sp : DSp) : DR2 := fun x y M Q => ∃ q gs, y = .ref q ∧ M q = some (.ins C gs) ∧ othD M x = true ∧ sp [.ref q, x] M (fun d M1 => ∃ b, d = .bl b ∧ Q (.bl b) M1) DXK.no
/-- either of two rules -/
def dOr2 (r r' : DR2) : DR2 := fun x y M Q => r x y M Q ∨ r' x y M Q
end
end DL

set_option maxRecDepth 100000
set_option maxHeartbeats 2000000
namespace DL
open PySem PySem.Spec PyProof.Rows L2

/-! ### the things of two own classes, held against anything -/
structure Apart (K : PySem.W.Frag) (C D : Addr) : Prop where
  nc : NoB K C
  nd : NoB K D
  cc : PySem.W.subIn K (.ref C) (.ref C) = some true
  dd : PySem.W.subIn K (.ref D) (.ref D) = some true
  cd : PySem.W.subIn K (.ref C) (.ref D) = some false
  dc : PySem.W.subIn K (.ref D) (.ref C) = some false
section
variable {X : Cx} {F0 : FZ} {a b : Expr} {ta tb : TE} {ta' tb' : DTE} {pos : Pos} {k1 k2 j : Nat} {C D : Addr} {sp1 sp2 : DSp}
abbrev dEqA2 (K : PySem.W.Frag) (C : Addr) (sp1 : DSp) (D : Addr) (sp2 : DSp) : DR2 := dOr2 (dEqAny K C sp1) (dEqAny K D sp2)
abbrev dNeA2 (K : PySem.W.Frag) (C : Addr) (sp1 : DSp) (D : Addr) (sp2 : DSp) : DR2 := dOr2 (dNeAny K C sp1) (dNeAny K D sp2)
abbrev dEqR2 (C : Addr) (sp1 : DSp) (D : Addr) (sp2 : DSp) : DR2 := dOr2 (dEqRef C sp1) (dEqRef D sp2)
end
end DL

set_option maxRecDepth 100000
set_option maxHeartbeats 2000000
namespace DL
open PySem PySem.Spec PyProof.Rows L2

/-! ### an error's __init__: super().__init__("..") and one field -/
/-- what an error's class and its __init__ must be -/
structure EiC (P : Program) (K : PySem.W.Frag) (mg : Str → Option Value) (f C cda cc : Addr) (qual : Str) (fd : FuncData) (fld pn : Str) : Prop where
  ex : ∃ (z : Str) (params : Arguments) (body : List Stmt) (scope : Scope) (dV kV doc pm ct oc ccl cl : Value) (an od cdd cld : Option Addr) (osl ccs csl : Array (Option Value)) (vs : Array Value) (file : Str) (tf : Tok) (ar : Arg) (nk : Nat) (p0 p1 p2 p3 p4 p5 p6 p7 p8 p9 : Pos),
    fd = PySem.W.ksFn "__init__" qual params body scope dV kV doc pm an (.ref cda) ct cc ∧ K.lookup f = some ⟨oc, od, .func fd, osl⟩ ∧ K.lookup cda = some ⟨ccl, cdd, .fields vs, ccs⟩ ∧ vs[2]? = some (.str file tf) ∧ ((P.main.file : Str) == file) = true ∧
    K.lookup cc = some ⟨cl, cld, .cell (some (.ref C)), csl⟩ ∧
    body = [.Expr (.Call (.Attribute (.Call (.Name "super" p0) [] [] p1) "__init__" p2) [.Constant (.str z) nk p3] [] p4) p5, .Assign [.Attribute (.Name "self" p6) fld p7] (.Name pn p8) p9] ∧ z.length ≤ 1000 ∧
    (params.posonlyargs ++ params.args).head? = some ar ∧ ar.arg = ("self" : Str) ∧ scope.kind = .function ∧ scope.isCoroutine = false ∧ scope.isGenerator = false ∧ (∀ x ∈ scope.names, x.2 ≠ .cell) ∧ (∀ x ∈ scope.names, x.2 = .free → x.1 = ("__class__" : Str)) ∧
    scope.names.lookup ("self" : Str) = some .local ∧ scope.names.lookup pn = some .local ∧ scope.names.lookup ("super" : Str) = some .globalImplicit ∧ scope.names.lookup ("__class__" : Str) = some .free ∧
    (∀ L, ∃ pl : Sem Bool, eval (.Call (.Attribute (.Call (.Name "super" p0) [] [] p1) "__init__" p2) [.Constant (.str z) nk p3] [] p4) (PySem.W.ksEnv qual scope L f (.ref cda) cc) = (do
      let ov ← attributeBase (.Call (.Name "super" p0) [] [] p1) "__init__" (PySem.W.ksEnv qual scope L f (.ref cda) cc) (eval (.Call (.Name "super" p0) [] [] p1) (PySem.W.ksEnv qual scope L f (.ref cda) cc))
      standAt p2.atName
      let (fx, first) ← holding [ov] (getMethod ov "__init__" pl)
      callWith p4 fx first (backTo p4 (starEach [.Constant (.str z) nk p3] (PySem.W.ksEnv qual scope L f (.ref cda) cc))) [])) ∧
    (∀ L, interactive (PySem.W.ksEnv qual scope L f (.ref cda) cc) = false) ∧
    (∀ L, swapsWith (.Call (.Attribute (.Call (.Name "super" p0) [] [] p1) "__init__" p2) [.Constant (.str z) nk p3] [] p4) none p5.line (PySem.W.ksEnv qual scope L f (.ref cda) cc) = pure false) ∧
    (∀ L, swapsWith (.Name pn p8) (some (.Attribute (.Name "self" p6) fld p7)) p9.line (PySem.W.ksEnv qual scope L f (.ref cda) cc) = pure false) ∧ (pn == ("__debug__" : Str)) = false ∧ (pn == ("__classdict__" : Str)) = false
  cd : PySem.W.codeIn K (.ref cda) qual = true
  sup : PySem.W.ks_superIn K C C "__init__" = some (some (.builtin "ValueError.__init__"))
  ve : PySem.W.subIn K (.ref C) (.type "ValueError") = some true
  mro : PySem.W.mroIn K C (.ref C) = some true
  any : PySem.W.nsIn K cStatics "thirdparty.any" = some none
  mgs : mg "super" = none
  top : (P.main.scope.names.lookup ("super" : Str)).isSome = false
  T : OexC K C
  no : PySem.W.findIn K (.ref C) fld = some none
  ne : pn ≠ ("self" : Str)
section
open PySem.W
variable {prog : Program} {w : World} {A : Around} {E : Value → Shared → Prop} {h : Heap} {g : Array GenState} {d : Drawn} {t : Nat} {os : OsState}
variable {nm q : Str} {C N : Addr} {bs bm : List Value} {hdct : Bool} {sn : List Str} {sub : List Value} {ab : Bool} {col : Option Bool} {dd : Option Addr} {k0 k1 k2 k3 k5 : Option Value}
end
section
variable {P : Program} {w : World} {K : PySem.W.Frag} {mg : Str → Option Value} {base : Heap} {CX : CXT} {f C cda cc : Addr} {qual fld pn : Str} {fd : FuncData} {k : Nat}
end
end DL

set_option maxRecDepth 100000
set_option maxHeartbeats 2000000
namespace DL
open PySem PySem.Spec PyProof.Rows L2

/-! ### raise C(e), C with an __init__ of its own and one field -/
structure EiCls (P : Program) (K : PySem.W.Frag) (mg : Str → Option Value) (x : Str) (C : Addr) (fld : Str) : Prop where
  ex : ∃ f cda cc qual fd pn, EiC P K mg f C cda cc qual fd fld pn ∧ PySem.W.findIn K (.ref C) "__init__" = some (some (.ref f)) ∧ PySem.W.typeIn K (.ref f) = some (.type "function") ∧ Binds K fd ["self", pn] []
  gC : mg x = some (.ref C)
section
variable {X : Cx} {F0 : FZ} {C : Addr} {x fld : Str} {p pos pos2 : Pos} {e : Expr} {te : TE} {te' : DTE} {j : Nat} {E : DXG}
end
/-! ### C(..), the __init__ raising: within a try, or in a def that raises -/
section
variable {X : Cx} {CX : CXT} {k j : Nat} {f C : Addr} {fd : FuncData} {ps : List Str} {sp : Sp} {E : XK} {x : Str} {p pos : Pos} {e : Expr} {es : List Expr} {t : TA} {F0 : FZ}
end

/-! ### several except clauses, named or not -/
abbrev HSpec := Value × Option Nat × (Addr → Value → Option Addr → TS)
def NmOk (X : Cx) : Option Str → Option Nat → Prop
  | none, none => True
  | some n, some i => X.N[i]? = some n ∧ X.env.kindOf n = some .local
  | _, _ => False
inductive HsOk (X : Cx) : List ExceptHandler → List HSpec → Prop
  | nil : HsOk X [] []
  | cons {x : Str} {c : Value} {ts : Addr → Value → Option Addr → TS} {b₀ : Stmt} {suite : List Stmt} {np pos' : Pos} {hds : List ExceptHandler} {l : List HSpec} {nm : Option Str} {oi : Option Nat} (hn : NmOk X nm oi) (hc : Names X x c)
      (hsu : ∀ (a : Addr) (oe : Obj) (cls : Value) (d : Option Addr) (pn : List (Addr × Obj)), L2N.Zn cls d oe → (∃ vs, oe.data = .fields vs) → PSs (X.suite a ((a, oe) :: pn)) (b₀ :: suite) (ts a cls d)) (r : HsOk X hds l) :
      HsOk X (.ExceptHandler (some (.Name x np)) nm (b₀ :: suite) pos' :: hds) ((c, oi, ts) :: l)
section
variable {X : Cx} {body : List Stmt} {h₀ : ExceptHandler} {hds : List ExceptHandler} {l : List HSpec} {pos : Pos} {tb : WX → TS} {Wout : WX}
end
end DL

set_option maxRecDepth 100000
set_option maxHeartbeats 2000000
namespace DL
open PySem PySem.Spec PyProof.Rows L2

/-! ### several except clauses, as data -/
abbrev DHSpec := Value × Option Nat × Bool × (Addr → Addr → Option (List (Str × D)) → DTS)
def FldAt (K : PySem.W.Frag) (F : FZ) : Option (List (Str × D)) → Option Addr → Prop
  | none, none => True
  | some l, some dd => ∃ gs, F.p dd = some (.xd gs) ∧ KVR K F l gs
  | _, _ => False
def tsOf (K : PySem.W.Frag) (nf : Bool) (u : Addr → Addr → Option (List (Str × D)) → DTS) : Addr → Value → Option Addr → TS := fun a cls d D σ H => ∃ Dc F1 fs, cls = .ref Dc ∧ ExcC K Dc ∧ (nf = true → fs = none) ∧ FldAt K F1 fs d ∧ lfS K F1 (u a Dc fs) D σ H
def hsOf (K : PySem.W.Frag) (l : List DHSpec) : List HSpec := l.map fun z => (z.1, z.2.1, tsOf K z.2.2.1 z.2.2.2)
inductive DHs (X : Cx) : List ExceptHandler → List DHSpec → Prop
  | nil : DHs X [] []
  | cons {x : Str} {c : Value} {u : Addr → Addr → Option (List (Str × D)) → DTS} {b₀ : Stmt} {suite : List Stmt} {np pos' : Pos} {hds : List ExceptHandler} {l : List DHSpec} {nm : Option Str} {oi : Option Nat} {nf : Bool} (hn : NmOk X nm oi) (hc : Names X x c)
      (hsu : ∀ (F1 : FZ) (a Dc : Addr) (fs : Option (List (Str × D))) (d : Option Addr) (oe : Obj) (pn : List (Addr × Obj)), ExcC X.K Dc → L2N.Zn (.ref Dc) d oe → (∃ vs, oe.data = .fields vs) → (nf = true → fs = none) → FldAt X.K F1 fs d → ∃ t, DB (X.suite a ((a, oe) :: pn)) F1 (b₀ :: suite) t (u a Dc fs))
      (r : DHs X hds l) : DHs X (.ExceptHandler (some (.Name x np)) nm (b₀ :: suite) pos' :: hds) ((c, oi, nf, u) :: l)
theorem DHs.ok {X : Cx} : ∀ {hds : List ExceptHandler} {l : List DHSpec}, DHs X hds l → HsOk X hds (hsOf X.K l)
  | _, _, .nil => .nil
  | _, _, .cons (u := u) (nf := nf) hn hc hsu r => .cons hn hc (fun a oe cls d pn hz hfl => ⟨fun pins s σ H D I q => by
      obtain ⟨Dc, F1, fs, rfl, hx, hnf, hfa, q⟩ := q
      obtain ⟨t, h⟩ := hsu F1 a Dc fs d oe pn hx hz hfl hnf hfa
      exact (lfS_pss h).run pins s σ H D I q⟩) r.ok
section
variable {X : Cx} {F0 : FZ} {body : List Stmt} {h₀ : ExceptHandler} {hds : List ExceptHandler} {l : List DHSpec} {pos : Pos} {t' : DXG → DTS} {Eout : DXG}
end
end DL

set_option maxRecDepth 100000
set_option maxHeartbeats 2000000
namespace DL
open PySem PySem.Spec PyProof.Rows L2

/-! ### a raising __init__; how an error's class is read off the written part -/
section
variable {P : Program} {w : World} {K : PySem.W.Frag} {mg : Str → Option Value} {base : Heap}
end
end DL

set_option maxRecDepth 100000
set_option maxHeartbeats 2000000
namespace DL
open PySem PySem.Spec PyProof.Rows L2

/-! ### a op b op c op d -/
section
variable {X : Cx} {K : PySem.W.Frag} {F0 : FZ} {a b c d : Expr} {ta tb tc td : TE} {ta' tb' tc' td' : DTE} {pos : Pos} {op op' op2 : CmpOp} {r r' r2 : R2} {e e' e2 : DR2}
end
end DL

set_option maxRecDepth 100000
set_option maxHeartbeats 2000000
namespace DL
open PySem PySem.Spec PyProof.Rows L2

/-! ### a dict looked for in a tuple of tuples -/
section
open PySem.SeqAt PySem.MeetsSeq PySem.AutoSeq1
variable {A : Around} {s : Shared}
end
section
variable {X : Cx} {F0 : FZ} {a b : Expr} {ta tb : TE} {ta' tb' : DTE} {pos : Pos} {K : PySem.W.Frag}
end
end DL

set_option maxRecDepth 100000
set_option maxHeartbeats 2000000

/-! ### t[::-1] of a tuple -/
namespace HT
open PySem PySem.Spec PyProof.Rows
section
variable {prog : Program} {w : World} {A : Around} {E : Value → Shared → Prop} {s : Shared}
end
end HT

namespace DL
open PySem PySem.Spec PyProof.Rows L2
section
variable {X : Cx} {F0 : FZ} {e : Expr} {te : TE} {te' : DTE} {k : Nat} {p1 p2 p3 pos : Pos}
end
end DL

set_option maxRecDepth 100000
set_option maxHeartbeats 2000000
namespace DL
open PySem PySem.Spec PyProof.Rows L2

/-! ### {k: v for ..} of any keys: o0 the new dict -/
section
variable {X : Cx}
end
section
variable {X : Cx} {K : PySem.W.Frag} {F0 : FZ} {kx vx tg iter : Expr} {ifs : List Expr} {scope : Scope} {own : List (Str × Nat)} {pos spos py : Pos} {wi : TI} {wi' : DTI} {g' : DTG} {tt' : DTT} {tk' te' : DTE}
end
end DL

set_option maxRecDepth 100000
set_option maxHeartbeats 2000000
namespace DL
open PySem PySem.Spec PyProof.Rows L2

/-! ### {t: v for ..}, keys tuples -/
section
variable {X : Cx} {K : PySem.W.Frag} {F0 : FZ}
variable {kx vx tg iter : Expr} {ifs : List Expr} {scope : Scope} {own : List (Str × Nat)} {pos spos py : Pos} {wi : TI} {wi' : DTI} {g' : DTG} {tt' : DTT} {tk' te' : DTE}
end
end DL

set_option maxRecDepth 100000
set_option maxHeartbeats 2000000
namespace DL
open PySem PySem.Spec PyProof.Rows L2

/-! ### a dict of the written part with text keys, by its global name -/
def tblGet (tbl : List (Str × D)) (z : Str) : Option D := (tbl.find? fun p => decide (p.1 = z)).map (·.2)
structure KDa (K : PySem.W.Frag) (w : World) (mg : Str → Option Value) (x : Str) (tbl : List (Str × D)) (A : Addr) (es : Array DictEntry) (n : Nat) : Prop where
  hm : mg x = some (.ref A)
  dc : KDict K w A es n
  no : ∀ z, tblGet tbl z = none → PySem.W.nsIn K A z = some none
  go : ∀ z d, tblGet tbl z = some d → ∃ (u : Value) (v : V), PySem.W.nsIn K A z = some (some u) ∧ RelV v u ∧ ∀ F : FZ, Rp K F d v
section
variable {X : Cx} {K : PySem.W.Frag} {F0 : FZ} {a : Expr} {ta : TE} {ta' : DTE} {pos p1 : Pos} {x : Str} {tbl : List (Str × D)}
end
end DL

set_option maxRecDepth 100000
set_option maxHeartbeats 2000000
namespace DL
open PySem PySem.Spec PyProof.Rows L2

/-! ### the place of a datum in a list -/
theorem pyL_get : ∀ (l : List D) (i : Nat), (D.pyL l)[i]? = (l[i]?).map D.py
  | [], i => by simp [D.pyL]
  | d :: l, 0 => by simp [D.pyL]
  | d :: l, i + 1 => by simp [D.pyL, pyL_get l i]
section
variable {X : Cx} {K : PySem.W.Frag} {F0 : FZ} {o e : Expr} {to : TE} {to' : DTE} {apos cpos : Pos}
def dIndexD : DRM := fun x ds M Q => match ds with
  | [y] => ∃ (l : List D) (j : Nat) (z : D), lstOf M x = some l ∧ D.ok (.lst l) 60 = true ∧ y.ok 60 = true ∧ l[j]? = some z ∧ D.eq z y = true ∧ (∀ m z', m < j → l[m]? = some z' → D.eq z' y = false) ∧ Q (.int (j : Int)) M
  | _ => False
theorem index_py {l : List D} {y z : D} {j : Nat} (h1 : l[j]? = some z) (h2 : ∀ m z', m < j → l[m]? = some z' → D.eq z' y = false) : (D.pyL l)[j]? = some z.py ∧ ∀ (m : Nat) (z' : PyData), m < j → (D.pyL l)[m]? = some z' → PyData.eqv z' y.py = false := by
  refine ⟨by rw [pyL_get, h1]; rfl, fun m z' hm hz => ?_⟩
  rw [pyL_get] at hz
  obtain ⟨d, hd, e⟩ := Option.map_eq_some_iff.mp hz
  rw [← e]
  exact h2 m d hm hd
theorem lm_indexD : LM K F0 dIndexD (rIndexD K) := by
  intro F M H o x ds vs Q' Q e0 s r rs q k
  unfold dIndexD at q
  split at q
  · rename_i y
    obtain ⟨l, j, z, hl, ok, oky, hj, hz, hno, q⟩ := q
    obtain ⟨p, xs, rfl, h1, h2, h3⟩ := lst_of s r hl
    cases rs with
    | cons r1 r2 =>
      cases r2
      have okl : D.okL l 59 = true := by simpa [D.ok] using ok
      obtain ⟨i1, i2⟩ := index_py hj hno
      have sh := D.ok_shaped ok
      simp only [D.py] at sh
      exact ⟨p, _, y.py, D.pyL l, j, z.py, rfl, rfl, .lst (SqL.of h1) (RpL.dp s.fz h2 okl), r1.dp s.fz oky, sh, D.ok_shaped oky, i1, hz, i2, k F _ _ M H (FLe.refl F) s (.int _) q⟩
  · exact q.elim
end
end DL

set_option maxRecDepth 100000
set_option maxHeartbeats 2000000
namespace DL
open PySem PySem.Spec PyProof.Rows L2

section
variable {X : Cx} {K : PySem.W.Frag} {F0 : FZ} {a b e : Expr} {ta tb te : TE} {ta' tb' te' : DTE} {pos p2 : Pos}
/-! ### slices of texts -/
/-! ### a short text * a small number -/
end

/-! ### texts in order -/
end DL

set_option maxRecDepth 100000
set_option maxHeartbeats 2000000
namespace DL
open PySem PySem.Spec PyProof.Rows L2

/-! ### y = [e for a in .. for b in ..] -/
section
variable {X : Cx} {K : PySem.W.Frag} {F0 : FZ} {elt tg tg1 iter iter1 : Expr} {ifs ifs1 : List Expr} {scope : Scope} {own : List (Str × Nat)} {vs1 : List Nat} {pos spos py : Pos} {wi : TI} {wi' wi1' : DTI} {g' g1' : DTG} {tt' tt1' : DTT} {te' : DTE}
end
end DL

set_option maxRecDepth 100000
set_option maxHeartbeats 2000000
namespace DL
open PySem PySem.Spec PyProof.Rows L2

/-! ### enumerate(a frozen list) -/
section
variable {X : Cx} {K : PySem.W.Frag} {F0 : FZ} {e : Expr} {p pos : Pos}
end
end DL

set_option maxRecDepth 100000
set_option maxHeartbeats 2000000
namespace DL
open PySem PySem.Spec PyProof.Rows L2

/-! ### y = [e for a in .. for b in ..], a new list to be changed -/
section
variable {X : Cx} {K : PySem.W.Frag} {F0 : FZ}
end
section
variable {X : Cx} {K : PySem.W.Frag} {F0 : FZ} {elt tg tg1 iter iter1 : Expr} {ifs ifs1 : List Expr} {scope : Scope} {own : List (Str × Nat)} {vs1 : List Nat} {pos spos py : Pos} {wi : TI} {wi' wi1' : DTI} {g' g1' : DTG} {tt' tt1' : DTT} {te' : DTE}
end
end DL

set_option maxRecDepth 100000
set_option maxHeartbeats 2000000
namespace DL
open PySem PySem.Spec PyProof.Rows L2

/-! ### tuple * int -/
section
variable {X : Cx} {K : PySem.W.Frag} {F0 : FZ}
end
end DL

set_option maxRecDepth 100000
set_option maxHeartbeats 4000000
namespace DL
open PySem PySem.Spec PyProof.Rows L2

/-! ### sorted(set(rows)), rows of ints, of any lengths but none empty -/
section
variable {P : Program} {w : World} {A : Around} {E : Value → Shared → Prop} {s : Shared}
end
section
variable {X : Cx} {K : PySem.W.Frag} {F0 : FZ} {a : Expr} {ta : TE} {ta' : DTE} {pos : Pos}
end
end DL

set_option maxRecDepth 100000
set_option maxHeartbeats 2000000
namespace DL
open PySem PySem.Spec PyProof.Rows L2

/-! ### d.update(other) -/
section
variable {X : Cx} {K : PySem.W.Frag} {F0 : FZ} {o e : Expr} {to : TE} {to' : DTE} {pos apos cpos : Pos}
end

/-! ### == of tuples with lists in them that may change -/
section
variable {X : Cx} {K : PySem.W.Frag} {F0 : FZ} {a b : Expr} {ta tb : TE} {ta' tb' : DTE} {pos : Pos}
end
end DL

set_option maxRecDepth 100000
set_option maxHeartbeats 2000000
namespace DL
open PySem PySem.Spec PyProof.Rows L2
/-! ### a datum is equal to itself -/
end DL

set_option maxRecDepth 100000
set_option maxHeartbeats 2000000
namespace DL
open PySem PySem.Spec PyProof.Rows L2

/-! ### a dict of the written part with keys that are tuples, by its global name: X.get(k, None) -/
def tblT (tbl : List (List Key × D)) (k : List Key) : Option D := (tbl.find? fun p => decide (p.1 = k)).map (·.2)
structure KTa (P : Program) (w : World) (K : PySem.W.Frag) (mg : Str → Option Value) (x : Str) (tbl : List (List Key × D)) (A : Addr) (xs : List (List Key × Addr × Value)) : Prop where
  hm : mg x = some (.ref A)
  low : (A == sysModules) = false
  dc : ∀ h : Heap, K.In h → h.DictOfH (tupleKind (mixKind P w)) A xs
  no : ∀ k, tblT tbl k = none → atKey xs k = none
  go : ∀ k d, tblT tbl k = some d → ∃ p v, atKey xs k = some p ∧ RelV v p.2 ∧ ∀ F : FZ, Rp K F d v
section
variable {X : Cx} {e f : Expr} {apos cpos p1 : Pos} {ty tx : TE} {x : Str} {tbl : List (List Key × D)} {A : Addr} {xs : List (List Key × Addr × Value)}
end
section
variable {X : Cx} {K : PySem.W.Frag} {F0 : FZ} {e : Expr} {apos cpos p1 p2 : Pos} {j2 : Nat} {ty : TE} {ty' : DTE} {x : Str} {tbl : List (List Key × D)} {A : Addr} {xs : List (List Key × Addr × Value)} {n : Nat}
end
/-- one written key: its tuple and its value -/
structure KEnt (P : Program) (w : World) (K : PySem.W.Frag) (k : List Key) (d : D) (e : DictEntry) (a : Addr) : Prop where
  hk : e.key = .ref a
  hh : e.hash = tupleKeyHash (mixKind P w) k
  is : ∀ h : Heap, K.In h → (tupleKind (mixKind P w)).is h k a
  val : ∃ v, RelV v e.val ∧ ∀ F : FZ, Rp K F d v
end DL

set_option maxRecDepth 100000
set_option maxHeartbeats 2000000
namespace DL
open PySem PySem.Spec PyProof.Rows L2
/-! ### a def called by another global name (g = x) -/
section
variable {P : Program} {w : World} {K : PySem.W.Frag} {mg : Str → Option Value} {base : Heap}
structure DFunA (K : PySem.W.Frag) (mg : Str → Option Value) (g x : Str) (st : Stmt) (ps : List Str) : Prop where
  ex : ∃ f fd, Fun K x x st f fd ∧ mg g = some (.ref f) ∧ Binds K fd ps []
end
end DL

set_option maxRecDepth 100000
set_option maxHeartbeats 2000000
namespace DL
open PySem PySem.Spec PyProof.Rows L2
/-! ### sorted(ints), a new list to be changed -/
section
variable {X : Cx} {K : PySem.W.Frag} {F0 : FZ} {e : Expr} {pos : Pos}
end
end DL

set_option maxRecDepth 100000
set_option maxHeartbeats 2000000
/-! ### enumerate of a tuple -/
namespace PySem
open Sem (wp)
namespace DL57
end DL57
end PySem
namespace DL
open PySem PySem.Spec PyProof.Rows L2
section
variable {X : Cx} {K : PySem.W.Frag} {F0 : FZ} {e : Expr} {p pos : Pos}
end
end DL

set_option maxRecDepth 100000
set_option maxHeartbeats 2000000
namespace DL
open PySem PySem.Spec PyProof.Rows L2
/-! ### sum(ints) -/
section
variable {K : PySem.W.Frag} {F0 : FZ}
end
end DL

set_option maxRecDepth 100000
set_option maxHeartbeats 2000000
/-! ### xs.extend(a tuple) -/
namespace PySem
open Sem (wp)
namespace DL59
end DL59
end PySem
namespace DL
open PySem PySem.Spec PyProof.Rows L2
section
variable {X : Cx} {K : PySem.W.Frag} {F0 : FZ} {o e : Expr} {to : TE} {to' : DTE} {pos apos cpos : Pos}
end
end DL

set_option maxRecDepth 100000
set_option maxHeartbeats 2000000
namespace DL
open PySem PySem.Spec PyProof.Rows L2
/-! ### comprehensions over the image of a list; what holds of the memory stays -/
theorem take_snoc {α : Type} {l : List α} {i : Nat} {a : α} (h : l[i]? = some a) : l.take (i + 1) = l.take i ++ [a] := by
  rw [List.take_add_one, h]; rfl
theorem dLcI_filterS {α : Type} {g : DTG} {tt : DTT} {te : DTE} {vs : List Nat} {γ : G} {M : Mp} {Q : DK} (S : Mp → Prop) (L : List α) (w : α → D) (c : α → Bool) (f : α → D) (s0 : S M)
    (h : ∀ (i : Nat) (a : α) (M1 : Mp), L[i]? = some a → S M1 → ∀ Q2 : Bool → DK, (∀ M2, S M2 → c a = false → Q2 false .non M2) → (∀ M2, S M2 → c a = true → Q2 true (f a) M2) → g (w a) (dwipe γ vs) M1 fun γ2 M2 => tt γ2 M2 fun b M3 => if b = true then te γ2 M3 (Q2 true) else Q2 false .non M3)
    (q : ∀ M2, S M2 → Q (.lst ((L.filter c).map f)) M2) : dLcI g tt te vs γ (L.map w) M Q := by
  refine ⟨fun i acc M' => S M' ∧ acc = ((L.take i).filter c).map f, ⟨s0, by simp⟩, ?_, ?_⟩
  · rintro i d acc M' hd ⟨hs, rfl⟩
    rw [List.getElem?_map] at hd
    obtain ⟨a, ha, rfl⟩ := Option.map_eq_some_iff.mp hd
    have := h i a M' ha hs (fun b y M4 => if b = true then S M4 ∧ ((L.take i).filter c).map f ++ [y] = ((L.take (i + 1)).filter c).map f else S M4 ∧ ((L.take i).filter c).map f = ((L.take (i + 1)).filter c).map f) (fun M2 h2 e => ?_) (fun M2 h2 e => ?_)
    · simpa using this
    · rw [if_neg (by simp), take_snoc ha]
      exact ⟨h2, by simp [e]⟩
    · rw [if_pos rfl, take_snoc ha]
      exact ⟨h2, by simp [e]⟩
  · rintro acc M' ⟨hs, rfl⟩
    rw [List.length_map, List.take_length]
    exact q M' hs
end DL

set_option maxRecDepth 100000
set_option maxHeartbeats 2000000
/-! ### sum(lists, []) -/
namespace PySem
open Sem (wp)
namespace DL61
section
variable {prog : Program} {w : World} {A : Around} {R : Result → Shared → Prop}
/-- the list at b, with these items -/
def LL (h : Heap) (b : Addr) (xs : List Value) : Prop := ∃ n, h.get? b = some { cls := .type "list", dict := none, data := .seq xs.toArray n, slots := #[] }
theorem loop (hh : A.handled = none) (I L S : Addr) (items : Array Value) (parts : List (List Value)) (hIS : I ≠ S) (hLI : L ≠ I) (hLS : L ≠ S) (hlen : items.size = parts.length) (hz : parts.flatten.length ≤ sizeLine) :
    ∀ (k i : Nat) (s : Shared) (T : Addr) (acc : List Value) (c : Nat), parts.length - i = k → i ≤ parts.length → s.heap.IsListIter I L i → s.heap.IsList L items →
    (∀ (j : Nat) (xs : List Value), parts[j]? = some xs → ∃ b, items[j]? = some (.ref b) ∧ LL s.heap b xs ∧ b ≠ I ∧ b ≠ S) →
    s.heap.get? S = some { cls := .type "list", dict := none, data := .seq #[.ref T] c, slots := #[] } → LL s.heap T acc → T ≠ I → T ≠ S → acc = (parts.take i).flatten →
    (∀ h2 U, (∀ b o, b ≠ I → b ≠ S → s.heap.get? b = some o → h2.get? b = some o) → LL h2 U parts.flatten → (U = T ∨ s.heap.objs.size ≤ U) → (i < parts.length → s.heap.objs.size ≤ U) → R (.ok (.ret (.ref U))) { s with heap := h2 }) →
    codeAny (model prog w) A (.builtin "sum.loop" ⟨[.ref I, .ref S, rawInt 2, rawInt 0], []⟩) R s := by
  intro k
  induction k with
  | zero =>
    intro i s T acc c hk hi hit hL hp hS hT hTI hTS ha hR
    have hin : i = parts.length := by omega
    subst hin
    refine codeAny_builtin F.entry_sum_loop ?_
    rw [Around.under_plainId F.plain_sum_loop _]
    show wpAny _ A.in1 (seqItems? (.ref S) >>= _) _ _ s
    refine wpAny_bind (wpAny_seqItems hS rfl ?_)
    show wpAny _ A.in1 (tryCatch (pyNext (.ref I)) _ >>= _) _ _ s
    refine wpAny_bind (wpAny_tryCatch (wpAny_pyNext_list_end (show A.in1.handled = none from hh) hit hL (by rw [Array.getElem?_eq_none]; omega) fun h2 hk2 => ?_))
    refine wpAny_pure (hR h2 T (fun b o hbI hbS e => hk2 b o hbI e) ?_ (.inl rfl) fun z => absurd z (Nat.lt_irrefl _))
    rw [List.take_length] at ha
    obtain ⟨n, e⟩ := hT
    exact ⟨n, by rw [← ha]; exact hk2 T _ hTI e⟩
  | succ k ih =>
    intro i s T acc c hk hi hit hL hp hS hT hTI hTS ha hR
    have hlt : i < parts.length := by omega
    obtain ⟨b, hb, ⟨nb, eb⟩, hbI, hbS⟩ := hp i parts[i] (List.getElem?_eq_getElem hlt)
    refine codeAny_builtin F.entry_sum_loop ?_
    rw [Around.under_plainId F.plain_sum_loop _]
    show wpAny _ A.in1 (seqItems? (.ref S) >>= _) _ _ s
    refine wpAny_bind (wpAny_seqItems hS rfl ?_)
    show wpAny _ A.in1 (tryCatch (pyNext (.ref I)) _ >>= _) _ _ s
    refine wpAny_bind (wpAny_tryCatch (wpAny_pyNext_list_item hit hL hb fun h1 hit1 sb => ?_))
    obtain ⟨nT, eT⟩ := hT
    have eT1 : h1.get? T = some { cls := .type "list", dict := none, data := .seq acc.toArray nT, slots := #[] } := (sb.2 T hTI).trans eT
    have eb1 : h1.get? b = some { cls := .type "list", dict := none, data := .seq (parts[i]).toArray nb, slots := #[] } := (sb.2 b hbI).trans eb
    have eS1 : h1.get? S = some { cls := .type "list", dict := none, data := .seq #[.ref T] c, slots := #[] } := (sb.2 S (Ne.symm hIS)).trans hS
    have hfl : ((parts.take (i+1)).flatten) = acc ++ parts[i] := by rw [List.take_succ_eq_append_getElem hlt, List.flatten_append, ha]; simp
    have hsz0 : (acc ++ parts[i]).length ≤ sizeLine := by
      rw [← hfl]
      refine Nat.le_trans ?_ hz
      have e := congrArg (fun z => z.flatten.length) (List.take_append_drop (i+1) parts)
      simp only [List.flatten_append, List.length_append] at e
      omega
    have hsz : acc.toArray.size + (parts[i]).toArray.size ≤ sizeLine := by rw [List.size_toArray, List.size_toArray, ← List.length_append]; exact hsz0
    show wpAny _ A.in1 ((holding [.ref b] (binaryOp .Add (.ref T) (.ref b))).attempt >>= _) _ _ _
    refine wpAny_bind (wpAny_attempt (wpAny_holding (PySem.P.add_list eT1 eb1 ?_ hsz)))
    show wpAny _ A.in1 (updateSeq S (fun _ => #[.ref h1.objs.size]) >>= _) _ _ _
    have eS2 := Heap.get?_push_of_some { cls := .type "list", data := .seq (acc.toArray ++ (parts[i]).toArray) } eS1
    refine wpAny_bind (wpAny_updateSeq eS2 rfl ?_)
    refine wpAny_bind (wpAny_letGo ?_)
    have eS3 := Heap.get?_update_self (Obj.mapSeq fun _ => #[.ref h1.objs.size]) eS2 rfl
    show wpAny _ A.in1 (updateSeq S (fun _ => #[.ref h1.objs.size]) >>= _) _ _ _
    have eS4 := Heap.get?_update_self (Obj.mapSeq fun _ => #[.ref h1.objs.size]) eS3 rfl
    refine wpAny_bind (wpAny_updateSeq eS3 rfl ?_)
    have sz4 : ∀ (h : Heap) (f g : Obj → Obj), ((h.update S f).update S g).objs.size = h.objs.size := fun h f g => by rw [Heap.size_update, Heap.size_update]
    have kp : ∀ b2 o, b2 ≠ S → h1.get? b2 = some o → (((h1.push { cls := .type "list", data := .seq (acc.toArray ++ (parts[i]).toArray) }).update S (Obj.mapSeq fun _ => #[.ref h1.objs.size])).update S (Obj.mapSeq fun _ => #[.ref h1.objs.size])).get? b2 = some o := fun b2 o n e =>
      (Heap.get?_update_other _ _ (Ne.symm n)).trans ((Heap.get?_update_other _ _ (Ne.symm n)).trans (Heap.get?_push_of_some _ e))
    have kp0 : ∀ b2 o, b2 ≠ I → b2 ≠ S → s.heap.get? b2 = some o → h1.get? b2 = some o := fun b2 o n1 _ e => (sb.2 b2 n1).trans e
    have hSlt : S < h1.objs.size := Heap.lt_size eS1
    have hIlt : I < h1.objs.size := let ⟨_, e, _⟩ := hit1; Heap.lt_size e
    refine wpAny_pure ⟨plainId_quiet F.plain_sum_loop _, ih (i + 1) _ h1.objs.size (acc ++ parts[i]) _ (by omega) hlt (hit1.at fun o e => kp _ o hIS e) ?_ ?_ eS4 ⟨0, ?_⟩ (Nat.ne_of_gt hIlt) (Nat.ne_of_gt hSlt) hfl.symm ?_⟩
    · obtain ⟨o, e, r⟩ := hL
      exact ⟨o, kp _ o hLS (kp0 _ o hLI hLS e), r⟩
    · intro j xs hj
      obtain ⟨b2, g1, ⟨n2, g2⟩, g3, g4⟩ := hp j xs hj
      exact ⟨b2, g1, ⟨n2, kp _ _ g4 (kp0 _ _ g3 g4 g2)⟩, g3, g4⟩
    · refine (Heap.get?_update_other _ _ (Nat.ne_of_lt hSlt)).trans ((Heap.get?_update_other _ _ (Nat.ne_of_lt hSlt)).trans ?_)
      rw [Heap.get?_push_size _ rfl]
      simp
    · intro h2 U hk2 hU hor _
      have hge : s.heap.objs.size ≤ U := by
        rcases hor with rfl | h
        · exact Nat.le_of_eq sb.1.symm
        · refine Nat.le_trans ?_ h
          show s.heap.objs.size ≤ (((h1.push _).update S _).update S _).objs.size
          rw [sz4]
          rw [← sb.1]
          exact Nat.le_of_lt (by rw [show (h1.push _).objs.size = h1.objs.size + 1 from Array.size_push _]; exact Nat.lt_succ_self _)
      exact hR h2 U (fun b2 o n1 n2 e => hk2 b2 o n1 n2 (kp _ o n2 (kp0 _ o n1 n2 e))) hU (.inr hge) (fun _ => hge)
end
end DL61
end PySem
namespace DL
open PySem PySem.Spec PyProof.Rows L2
section
variable {X : Cx} {K : PySem.W.Frag} {F0 : FZ}
inductive All2 {α β : Type} (R : α → β → Prop) : List α → List β → Prop
  | nil : All2 R [] []
  | cons {a b xs ys} : R a b → All2 R xs ys → All2 R (a :: xs) (b :: ys)
theorem All2.length_eq {α β : Type} {R : α → β → Prop} : ∀ {xs : List α} {ys : List β}, All2 R xs ys → xs.length = ys.length
  | _, _, .nil => rfl
  | _, _, .cons _ t => by rw [List.length_cons, List.length_cons, t.length_eq]
theorem All2.at {α β : Type} {R : α → β → Prop} : ∀ {xs : List α} {ys : List β}, All2 R xs ys → ∀ (j : Nat) (y : β), ys[j]? = some y → ∃ x, xs[j]? = some x ∧ R x y
  | _, _, .cons r _, 0, y, h => by rw [List.getElem?_cons_zero] at h; cases h; exact ⟨_, rfl, r⟩
  | _, _, .cons _ t, j+1, y, h => by rw [List.getElem?_cons_succ] at h; exact t.at j y h
/-! as data -/
end
end DL

set_option maxRecDepth 100000
set_option maxHeartbeats 2000000
namespace DL
open PySem PySem.Spec PyProof.Rows L2
/-! ### reversed(a frozen list) -/
section
variable {X : Cx} {F0 : FZ} {e tg : Expr} {p pos : Pos}
end
end DL

set_option maxRecDepth 100000
set_option maxHeartbeats 2000000
namespace DL
open PySem PySem.Spec PyProof.Rows L2
/-! ### repr of a datum, where no repr is under way -/
section
variable {X : Cx} {K : PySem.W.Frag} {F0 : FZ} {e : Expr} {p pos : Pos}
def rRepr (K : PySem.W.Frag) : List V → Hp → VK → Prop := fun vs H Q => ∃ (v : V) (x : PyData), vs = [v] ∧ Dp K H v x ∧ x.showable = true ∧ x.hasDict = false ∧ x.depth ≤ 60 ∧ x.shown.length ≤ sizeLine ∧ Q (.str x.shown) H
theorem call_repr (hg : X.A.guards = some []) (hu : X.A.units + 64 < cLine) : CallR X (.builtin "repr") (rRepr X.K) := by
  intro pins s σ H vs us Q I r h
  obtain ⟨v, x, rfl, dp, h1, h2, h3, h4, q⟩ := h
  cases r with
  | cons r1 r2 =>
    cases r2
    have out : ∀ (h' : Heap) (tk : Nat) (t : Nat), (∀ b o, s.heap.get? b = some o → h'.get? b = some o) → EP X pins σ Q (.str x.shown t) { s with heap := h', toks := tk } := fun h' tk t hk => ⟨.str x.shown, H, I.kept hk, ⟨_, rfl⟩, q⟩
    cases dp with
    | non => cases r1; exact P.repr_of_none (out s.heap _ _ fun _ _ e => e)
    | bl b => cases r1; exact P.repr_of_bool (out s.heap _ _ fun _ _ e => e)
    | int i =>
      obtain ⟨t, rfl⟩ := r1
      exact P.repr_of_int (of_decide_eq_true h1) (out s.heap _ _ fun _ _ e => e)
    | str y =>
      obtain ⟨t, rfl⟩ := r1
      have e : (PyData.str y).shown = reprText y := by simp only [PyData.shown]
      rw [e] at h4 out
      exact P.repr_of_str (out s.heap _ _ fun _ _ e => e) h4
    | lst a b =>
      cases r1
      obtain ⟨as, rd⟩ := Dp.reads I _ _ _ (.lst a b) rfl
      exact repr_of_reads' rd h1 (fun h => by rw [h2] at h; cases h) hg (by omega) (fun _ _ e => e) (fun h' u tk hk => out h' tk u hk) h4
    | tup a b =>
      cases r1
      obtain ⟨as, rd⟩ := Dp.reads I _ _ _ (.tup a b) rfl
      exact repr_of_reads' rd h1 (fun h => by rw [h2] at h; cases h) hg (by omega) (fun _ _ e => e) (fun h' u tk hk => out h' tk u hk) h4
end
end DL

set_option maxRecDepth 100000
set_option maxHeartbeats 2000000
namespace DL
open PySem PySem.Spec PyProof.Rows L2
/-! ### a law whose own body asks what stands around it: as the claim calls it -/
/-- what a call from the top answers -/
def TopOk (P : Program) (w : World) (K : PySem.W.Frag) (mg : Str → Option Value) (base : Heap) (f : Addr) (fd : FuncData) (ps : List Str) (sp : Sp) : Prop :=
  ∀ (s : Shared) (H : Hp) (args : Args) (us : List Value) (vs : List V) (Q : VK) (E : XK), Env0 P w K mg base callerA [] s H → BindsTo s fd args (ps.zip us) → Vals vs us → sp vs H Q E →
    codeAny (model P w) callerA (.call (.ref f) args) (CR CX0 [] P w H s Q E) s
section
variable {P : Program} {w : World} {K : PySem.W.Frag} {mg : Str → Option Value} {base : Heap}
theorem top_of {x : Str} {st : Stmt} {f : Addr} {fd : FuncData} {N ps : List Str} {k : Nat} {sp : Sp} (F : Fun K x x st f fd) (S : FnScope N ps (defScope st)) (hr : Room (k + 1) callerA) (len : ∀ vs H Q E, sp vs H Q E → vs.length = ps.length)
    (body : ∀ (cdv : Value) (s : Shared) (H : Hp) (vs : List V) (Q : VK) (E : XK), Room k (callerA.deeper (envOfC x (defScope st) s.heap.objs.size f cdv)) → sp vs H Q E →
      ∃ t, PSs (cxOf CX0 P w K mg base N x (defScope st) f cdv callerA [] s H E) (defBody st) t ∧ t { nx := fun _ H' => Q .non H', rt := Q } (L2.start N vs) H) : TopOk P w K mg base f fd ps sp := by
  obtain ⟨oc, od, kV, doc, pm, an, cdv, ct, osl, rfl, lk, hcd⟩ := F.ex
  intro s H args us vs Q E e0 hb r q
  have kin : K.In s.heap := e0.mod.kin.keeps fun b o e => (e0.bs b o e).1
  refine codeAny_call_function hr.depth (kin _ _ lk) rfl S.co S.gen rfl (PySem.W.codeRec_of kin hcd) (hb _ _ _ _ ?_)
  refine wpAny_newFunctionEnv_cells S.kind (fun y hy => (S.par y.1 (List.of_mem_zip (a := y.1) (b := y.2) hy).1).imp id fun z => ⟨z, PySem.W.cellsFrom_some _ _ _ (.inl z)⟩) fun env he s1 y => ?_
  subst he
  refine ⟨(e0.mod.nolimit.keeps fun b o e => (e0.bs b o e).1).keeps y.toInCall.keep, codeAny_func ?_⟩
  obtain ⟨t, ht, hq⟩ := body cdv s H vs Q E (hr.deeper _) q
  refine wpAny_mono (ht.run [] s1 (L2.start N vs) H _ (inv_start S hr.hd e0 (len _ _ _ _ q) r y) hq) (fun fl s' hs => ?_) fun _ _ hs => hs
  cases fl with
  | ret u =>
    obtain ⟨v, _, H', J, rv, g⟩ := hs
    exact ⟨v, H', J.os, J.bare, J.base, J.hok, rv, g⟩
  | next =>
    obtain ⟨_, H', J, g⟩ := hs
    exact ⟨V.non, H', J.os, J.bare, J.base, J.hok, rfl, g⟩
  | brk => exact (hs.choose_spec.choose_spec.2 : False).elim
  | cont => exact (hs.choose_spec.choose_spec.2 : False).elim
/-- the law by its body's derivation, at the top alone -/
theorem dokTop {x : Str} {st : Stmt} {f : Addr} {fd : FuncData} {N ps : List Str} {k : Nat} {sp : DSp} (F : Fun K x x st f fd) (S : FnScope N ps (defScope st)) (hr : Room (k + 1) callerA) (len : ∀ ds M Q E, sp ds M Q E → ds.length = ps.length)
    (hbody : ∀ (cdv : Value) (s : Shared) (H : Hp) (E : XK) (F0 : FZ), Room k (callerA.deeper (envOfC x (defScope st) s.heap.objs.size f cdv)) →
      ∃ t t', DB (cxOf CX0 P w K mg base N x (defScope st) f cdv callerA [] s H E).nox F0 (defBody st) t t' ∧ ∀ ds M Q' E', sp ds M Q' E' → t' { nx := fun _ M1 => fin Q' .non M1, rt := fin Q' } (dstart N ds) M) : TopOk P w K mg base f fd ps (liftSp K sp) := by
  refine top_of F S hr (fun vs H Q E ⟨_, ds, _, _, _, _, r, q, _⟩ => by rw [← r.length]; exact len _ _ _ _ q) (fun cdv s H vs Q E hr ⟨F, ds, M, Q', E', s1, r, q, kq, _⟩ => ?_)
  obtain ⟨t, t', d, h⟩ := hbody cdv s H E F hr
  exact ⟨t, d.ps.nox, d.le F (dstart N ds) M (L2.start N vs) H { nx := fun _ M1 => fin Q' .non M1, rt := fin Q' } { nx := fun _ H' => Q .non H', rt := Q } (Bs.refl _) s1 (gr_start r) (h ds M Q' E' q)
    ⟨fun F1 γ1 M1 σ1 H1 e1 s1 g1 ⟨M2, l, q⟩ => kq F1 .non .non M2 H1 e1 (s1.less l) .non q, fun F1 d1 v1 M1 H1 e1 s1 r1 ⟨M2, l, q⟩ => kq F1 d1 v1 M2 H1 e1 (s1.less l) r1 q, fun _ _ _ _ _ _ _ _ z => z.elim, fun _ _ _ _ _ _ _ _ z => z.elim⟩⟩
/-- the answer of a call whose promise is: true -/
def Says (s₁ : Shared) : Result → Shared → Prop := fun r s' => r = .ok (.ret (.bool true)) ∧ OldK s₁.heap s'.heap ∧ s'.os = s₁.os ∧ AllBare s'.gens
/-- one abstract heap H that tells at most the script -/
theorem top_one {mb : Str → Option Value} {fa a : Addr} {fd : FuncData} {x : Str} {sp : Sp} {s₁ : Shared} {vs : List Value} {H : Hp}
    (KX : K.In s₁.heap) (hns : s₁.heap.Ns mainGlobals mg) (hb : s₁.heap.Ns builtinsNs mb) (hbb : ∀ x : Str, x ≠ "__name__" → mb x = bootBuiltins x) (hlim : s₁.heap.NoLimit) (hg : s₁.gens = #[])
    (ha : s₁.heap.get? a = some { cls := .type "list", data := .seq vs.toArray })
    (F : ∀ base : Heap, K.In base → base.Ns mainGlobals mg → TopOk P w K mg base fa fd [x] sp) (hbind : ∀ (s : Shared) (u : Value), BindsTo s fd ⟨[u], []⟩ [(x, u)])
    (hO : Only H) (hok : HOk P w H s₁.heap) (hA : ∀ b, H b ≠ none → b = a ∧ K.lookup a = none) (hsp : sp [.ref a] H (fun v _ => v = .bl true) fun _ _ _ => False) :
    codeAny (model P w) callerA (.call (.ref fa) ⟨[.ref a], []⟩) (Says s₁) s₁ := by
  have free : ∀ {b : Addr}, b ≠ a → H b = none := fun {b} n => Classical.byContradiction fun z => n (hA b z).1
  have dct : ∀ {b : Addr} {o : Obj} {es : Array DictEntry} {ep : Nat}, s₁.heap.get? b = some o → o.data = .dict es ep → b ≠ a := fun {b o es ep} e d z => by
    rw [z, ha] at e
    cases e
    exact nomatch (d : Data.seq vs.toArray _ = Data.dict es ep)
  have ns : ∀ {b : Addr} {m : Str → Option Value}, s₁.heap.Ns b m → (hidT s₁.heap H).Ns b m := fun {b m} ⟨o, es, ep, e, d, r⟩ => ⟨o, es, ep, hidT_get e (free (dct e d)), d, r⟩
  have kb : K.In (hidT s₁.heap H) := fun b o e => hidT_get (KX b o e) (Classical.byContradiction fun z => by
    obtain ⟨e1, e2⟩ := hA b z
    rw [e1, e2] at e; cases e)
  obtain ⟨mc, l1, l2⟩ := hlim
  have env : Env0 P w K mg (hidT s₁.heap H) callerA [] s₁ H := ⟨rfl, ⟨kb, ns hns, ⟨mb, ns hb, hbb⟩, ⟨mc, ns l1, l2⟩⟩, fun b o e => of_hidT e, Nat.le_of_eq (hidT_size _ _), trivial, fun b hb => ((List.not_mem_nil (show b ∈ ([] : List Addr) from hb)).elim), hok, .of_eq hg⟩
  refine codeAny_mono (F _ kb (ns hns) s₁ H ⟨[.ref a], []⟩ [.ref a] [.ref a] _ _ env (hbind s₁ (.ref a)) (.cons rfl .nil) hsp) fun r s' h => ?_
  cases r with
  | error e => exact (h : False).elim
  | ok fl =>
    cases fl with
    | ret u =>
      obtain ⟨v, H', os, bare, un, hok', r', q'⟩ := h
      obtain rfl : v = .bl true := q'
      obtain rfl : u = Value.bool true := r'
      refine ⟨rfl, OldK.of_keep fun b o e => ?_, os, bare⟩
      rcases hO b with z | ⟨ob, xs, z⟩
      · exact un.keep b o e z (fun y => List.not_mem_nil (show b ∈ ([] : List Addr) from y)) (by simp)
      · have e1 := (hok b _ z).1
        have e2 := (hok' b _ (un.frzs b ob _ z)).1
        rw [e] at e1
        rw [e2, e1]
    | _ => exact (h : False).elim
/-- the law called by the claim -/
theorem top_call {mb : Str → Option Value} {fa a : Addr} {fd : FuncData} {x : Str} {sp : Sp} {s₁ : Shared} {vs : List Value} {is : List Int}
    (KX : K.In s₁.heap) (hns : s₁.heap.Ns mainGlobals mg) (hb : s₁.heap.Ns builtinsNs mb) (hbb : ∀ x : Str, x ≠ "__name__" → mb x = bootBuiltins x) (hlim : s₁.heap.NoLimit) (hg : s₁.gens = #[])
    (ha : s₁.heap.get? a = some { cls := .type "list", data := .seq vs.toArray }) (hi : IntsAre vs is) (hl : is.length ≤ sizeLine)
    (F : ∀ base : Heap, K.In base → base.Ns mainGlobals mg → TopOk P w K mg base fa fd [x] sp) (hbind : ∀ (s : Shared) (u : Value), BindsTo s fd ⟨[u], []⟩ [(x, u)])
    (hsp : ∀ H : Hp, Only H → SqL K H a (is.map V.int) → sp [.ref a] H (fun v _ => v = .bl true) fun _ _ _ => False) :
    codeAny (model P w) callerA (.call (.ref fa) ⟨[.ref a], []⟩) (Says s₁) s₁ := by
  have rv := vals_ints hi
  have len := hi.length
  cases hk : K.lookup a with
  | some o =>
    -- the module's own list
    have e : s₁.heap.get? a = some o := KX a o hk
    rw [ha] at e
    cases e
    exact top_one KX hns hb hbb hlim hg ha F hbind (H := fun _ => none) (fun _ => .inl rfl) (fun b u z => nomatch (z : (none : Option HO) = some u)) (fun b z => absurd rfl z)
      (hsp _ (fun _ => .inl rfl) (.inr ⟨_, vs.toArray, _, hk, rfl, rfl, rfl, by rw [List.size_toArray, len]; exact hl, by simpa using rv⟩))
  | none =>
    have at_ : ∀ {b : Addr} {z : HO}, (if b = a then some (HO.frz { cls := .type "list", data := .seq vs.toArray } (.lst (is.map V.int))) else none) = some z → b = a ∧ z = HO.frz { cls := .type "list", data := .seq vs.toArray } (.lst (is.map V.int)) := fun {b z} h => by
      by_cases e : b = a
      · rw [if_pos e] at h; exact ⟨e, (Option.some.inj h).symm⟩
      · rw [if_neg e] at h; cases h
    have only : Only (fun b => if b = a then some (HO.frz { cls := .type "list", data := .seq vs.toArray } (.lst (is.map V.int))) else none) := fun b => by
      by_cases e : b = a
      · exact .inr ⟨_, _, if_pos e⟩
      · exact .inl (if_neg e)
    exact top_one KX hns hb hbb hlim hg ha F hbind only (fun b u z => by
        obtain ⟨rfl, rfl⟩ := at_ z
        exact ⟨ha, by rw [List.length_map]; exact hl, vs, _, rv, ha⟩)
      (fun b z => ⟨Classical.byContradiction fun e => z (if_neg e), hk⟩) (hsp _ only (.inl (.inr ⟨_, if_pos rfl⟩)))
/-- the end of a law's proof, where the law's own body leans on the top -/
theorem walk_lawT {l : PySem.W.OpenLaw} {q : Program} {loose : List Str} {XP : (Str → Option Value) → Heap → Prop} {YP : World → Heap → Prop} {d : DefRec} {K : Params → PySem.W.Frag} {x : Str} (hn : l.most = some 63) (hdf : d.params.defaults = []) (hY : ∀ (w : World) (h : Heap), YP w h → (K w.params).In h)
    (F : ∀ (w : World) (mg : Str → Option Value) (fa : Addr) (h : Heap), (K w.params).In h → h.Ns mainGlobals mg → mg d.name = some (.ref fa) →
      ∃ fd : FuncData, (∀ (s : Shared) (u : Value), BindsTo s fd ⟨[u], []⟩ [(x, u)]) ∧ ∀ base : Heap, (K w.params).In base → base.Ns mainGlobals mg → TopOk l.prog w (K w.params) mg base fa fd [x] (liftSp (K w.params) spLaw)) :
    PySem.W.WalkO q loose XP YP l.row.toRowW d [] (fun f vs => PySem.call f vs) := by
  refine Att.attach_call hn hdf fun w s₀ s₁ mg mb fa o pm cd doc a vs is G Y ho hd hcd hmg hobj hints hlen hg => ?_
  have KX := hY w _ Y
  obtain ⟨fd, hb, hF⟩ := F w mg fa _ KX G.T.g hmg
  exact top_call KX G.T.g G.T.b G.T.builtins G.T.nolimit hg hobj hints (Nat.le_trans hlen (by decide)) hF hb fun H _ hS => law_sp hlen hS
end
end DL

set_option maxRecDepth 100000
set_option maxHeartbeats 2000000
namespace DL
open PySem PySem.Spec PyProof.Rows L2
theorem room200 {k : Nat} {A : Around} (hr : Room k A) : A.units + 200 < cLine := by have := hr.un; omega
section
variable {X : Cx} {F0 : FZ} {o e : Expr} {to : TE} {to' : DTE} {apos cpos : Pos}
/-- list.index, in an except suite too -/
theorem de_indexU {ta : TA} {ta' : DTA} (hu : X.A.units + 200 < cLine) (ho : DE X F0 o to to') (ha : DA X F0 [e] ta ta') (hbase : attributeBase o "index" X.env (eval o X.env) = eval o X.env := by rfl)
    (hfew : ((backTo cpos (starEach [e] X.env)).all (fun x => !x.1) && (backToKw cpos (keywordEach [] X.env)).all (fun x => x.1.isSome) && decide ([e].length + ([] : List Keyword).length + (if ([] : List Keyword).isEmpty then 0 else 1) < 30)) = true := by rfl)
    (hline : (apos.endLine == cpos.line) = true := by rfl) (hs : starEach [e] X.env = (false, eval e X.env) :: starEach [] X.env := by rfl) : DE X F0 (.Call (.Attribute o "index" apos) [e] [] cpos) (tBM X.K "list" (rIndexD X.K) to ta) (dBM "list" dIndexD to' ta') :=
  de_bm PySem.F.plainAttrs_list PySem.F.slot_list_index PySem.F.type_list_index (mt_indexD (by omega)) lm_indexD ho ha (by decide) hbase hfew hline hs rfl
/-- x[i], in an except suite too -/
theorem de_ixU {a b : Expr} {ta tb : TE} {ta' tb' : DTE} {pos : Pos} (hu : X.A.units + 200 < cLine) (ha : DE X F0 a ta ta') (hb : DE X F0 b tb tb') (hs : PlainIx b := by exact fun _ _ => rfl) : DE X F0 (.Subscript a b pos) (tOp (rIxAny X.K) ta tb) (dOp dIx ta' tb') :=
  ⟨pe_ix (ix_any (by omega)) ha.pe hb.pe hs, le_op l2_ix ha.le hb.le⟩
end
end DL

set_option maxRecDepth 100000
set_option maxHeartbeats 2000000
namespace DL
open PySem PySem.Spec PyProof.Rows L2
/-! ### a def whose body asks that no repr is under way (a helper that calls repr) -/
/-- what a call answers where no repr is under way -/
def GdOk (P : Program) (w : World) (K : PySem.W.Frag) (mg : Str → Option Value) (base : Heap) (k : Nat) (f : Addr) (fd : FuncData) (ps : List Str) (sp : Sp) : Prop :=
  ∀ (A : Around) (outer : List Env) (s : Shared) (H : Hp) (args : Args) (us : List Value) (vs : List V) (Q : VK) (E : XK), A.guards = some [] → Room k A → Env0 P w K mg base A outer s H → BindsTo s fd args (ps.zip us) → Vals vs us → sp vs H Q E →
    codeAny (model P w) A (.call (.ref f) args) (CR CX0 outer P w H s Q E) s
section
variable {P : Program} {w : World} {K : PySem.W.Frag} {mg : Str → Option Value} {base : Heap}
end
section
variable {X : Cx} {F0 : FZ} {k j : Nat} {f : Addr} {fd : FuncData} {ps : List Str} {x : Str} {p pos : Pos} {e : Expr} {es : List Expr}
/-- a helper as called, where no repr is under way -/
structure DCalG (P : Program) (w : World) (K : PySem.W.Frag) (mg : Str → Option Value) (base : Heap) (k : Nat) (x : Str) (sp : DSp) : Prop where
  ex : ∃ (f : Addr) (fd : FuncData) (ps : List Str), GdOk P w K mg base k f fd ps (liftSp K sp) ∧ (∀ ds M Q E, sp ds M Q E → ds.length = ps.length) ∧ mg x = some (.ref f) ∧ PySem.W.keepIn K (.ref f) = true ∧ L2.Binds K fd ps []
theorem GdOk.mono {P : Program} {w : World} {K : PySem.W.Frag} {mg : Str → Option Value} {base : Heap} {sp : Sp} (h : GdOk P w K mg base k f fd ps sp) (hk : k ≤ j) : GdOk P w K mg base j f fd ps sp := fun A outer s H args us vs Q E hg hr => h A outer s H args us vs Q E hg (hr.mono hk)
end
section
variable {P : Program} {w : World} {K : PySem.W.Frag} {mg : Str → Option Value} {base : Heap}
end
end DL

set_option maxRecDepth 100000
set_option maxHeartbeats 2000000
namespace DL
open PySem PySem.Spec PyProof.Rows L2
/-! ### what repr can show: small leaves, few nodes -/
mutual
def D.nd : D → Nat
  | .tup l => D.ndL l
  | .lst l => D.ndL l
  | .kt l => D.ndL l
  | .str x => x.cps.size
  | _ => 0
def D.ndL : List D → Nat
  | [] => 0
  | d :: r => D.nd d + 131 + D.ndL r
end
mutual
def D.sm : D → Bool
  | .non => true
  | .bl _ => true
  | .int i => decide (i.natAbs < 10 ^ 39)
  | .str x => PyData.strOk x
  | .tup l => D.smL l
  | .lst l => D.smL l
  | .kt l => D.smL l
  | _ => false
def D.smL : List D → Bool
  | [] => true
  | d :: r => D.sm d && D.smL r
end
/-! ### texts compared -/
def dEqS (neg : Bool) : DR2 := fun x y M Q => match x, y with
  | .str a, .str b => Q (.bl (if neg then !(a == b) else a == b)) M
  | _, _ => False
section
variable {X : Cx} {K : PySem.W.Frag} {F0 : FZ} {a b : Expr} {ta tb : TE} {ta' tb' : DTE} {pos : Pos}
theorem txt_dec (x y : Str) : decide (V.str x = V.str y) = (x == y) := by
  rw [Bool.eq_iff_iff, decide_eq_true_iff, beq_iff_eq]
  exact ⟨fun h => by cases h; rfl, fun h => by rw [h]⟩
theorem l2_neS : L2r K F0 (dEqS true) rNe := by
  intro F M H d e x y Q' Q e0 s r1 r2 q k
  unfold dEqS at q
  split at q
  · rename_i u v
    cases r1
    cases r2
    refine ⟨rfl, ?_⟩
    rw [txt_dec]
    exact k F _ _ M H (FLe.refl F) s (.bl _) q
  · exact q.elim
theorem dt_neS (ha : DE X F0 a ta ta') (hb : DE X F0 b tb tb') : DT X F0 (.Compare a [.NotEq] [b] pos) (tTest (tOp rNe ta tb)) (dTest (dOp (dEqS true) ta' tb')) := dt_cmp op_ne l2_neS ha hb (nomark _)
/-! ### repr of a datum, told at once -/
end
end DL

set_option maxRecDepth 100000
set_option maxHeartbeats 4000000
namespace DL
open PySem PySem.Spec PyProof.Rows L2
/-! ### pairs of small ints hash apart -/
/-! ### dict(d), keys that are tuples of small ints -/
section
variable {prog : Program} {w : World} {K : Type} [DecidableEq K] {knd : HeapKind prog w K} {A : Around} {E : Value → Shared → Prop} {s : Shared}
end
section
variable {X : Cx} {K : PySem.W.Frag} {F0 : FZ}
end
/-! ### d.setdefault(key, e) -/
section
variable {X : Cx} {K : PySem.W.Frag} {F0 : FZ} {o e f : Expr} {td ty tx : TE} {td' ty' tx' : DTE} {apos cpos : Pos}
end
end DL

set_option maxRecDepth 100000
set_option maxHeartbeats 4000000
namespace DL
open PySem PySem.Spec PyProof.Rows L2
/-! ### for k, v in d.items(), the keys of d tuples -/
section
variable {X : Cx} {pins : List (Addr × Obj)} {σ : L2.St} {H : Hp} {s : Shared} {d : Addr} {o : Obj}
end
section
variable {P : Program} {w : World} {K : PySem.W.Frag} {d : Addr} {o : Obj} {es : Array DictEntry} {ep : Nat}
end
section
variable {X : Cx} {e : Expr} {td : TE} {apos cpos : Pos}
end
section
variable {K : PySem.W.Frag} {F0 : FZ} {X : Cx}
end
section
variable {X : Cx} {F0 : FZ} {tg e : Expr} {i : Nat} {pos apos cpos : Pos}
end
end DL

set_option maxRecDepth 100000
set_option maxHeartbeats 2000000
namespace DL
open PySem PySem.Spec PyProof.Rows L2
/-! ### isinstance(x, dict), x a told dict with tuple keys -/
section
variable {X : Cx} {K : PySem.W.Frag} {F0 : FZ}
end
end DL

set_option maxRecDepth 100000
set_option maxHeartbeats 2000000
namespace DL
open PySem PySem.Spec PyProof.Rows L2
/-! ### d.pop(key), d a dict with tuple keys, the key there -/
section
variable {X : Cx} {K : PySem.W.Frag} {F0 : FZ}
end
section
variable {X : Cx} {F0 : FZ} {o e : Expr} {to : TE} {to' : DTE} {ta : TA} {ta' : DTA} {apos cpos : Pos}
end
end DL

set_option maxRecDepth 100000
set_option maxHeartbeats 2000000
namespace DL
open PySem PySem.Spec PyProof.Rows L2
/-! ### repr of small things: greater whole numbers, the empty dict in a tuple -/
mutual
def D.pz : D → PyData
  | .non => .none
  | .bl b => .bool b
  | .int i => .int i
  | .str x => .str x
  | .tup l => .tuple (D.pzL l)
  | .lst l => .list (D.pzL l)
  | .kt l => .tuple (D.pzL l)
  | .dk _ _ => .dict []
  | _ => .none
def D.pzL : List D → List PyData
  | [] => []
  | d :: r => D.pz d :: D.pzL r
end
/-- no list, no tuple: an empty dict may be -/
def D.z1 : D → Bool
  | .non => true
  | .bl _ => true
  | .int i => decide (i.natAbs < 10 ^ 59)
  | .str x => PyData.strOk x
  | .dk [] [] => true
  | _ => false
theorem logZ {i : Int} (h : i.natAbs < 10 ^ 59) : i.natAbs.log2 < 200 := by
  by_cases e : i.natAbs = 0
  · rw [e]; decide
  · exact (Nat.log2_lt e).mpr (Nat.lt_of_lt_of_le h (by decide))
theorem logZw {i : Int} (h : i.natAbs < 10 ^ 59) : (PyData.int i).weight ≤ 200 := by
  have := logZ h
  show (if i == 0 then 0 else i.natAbs.log2 + 1) ≤ 200
  split <;> omega
theorem txtZ {i : Int} (h : i.natAbs < 10 ^ 59) : (PyData.int i).shown.length ≤ 60 := by
  have e := int_text_length_le10 (k := 59) (by decide) h
  show (Str.ofString (toString i)).length ≤ 60
  rw [PySem.ofString_length]; exact e
theorem str_lvs {x : Str} (h : PyData.strOk x = true) : (PyData.str x).leavesShort 60 = true := by
  have h0 : x.cps.all (· < 0x110000) = true := h
  show (x.cps.toList.all fun c => decide (c < 16 ^ 8)) = true
  rw [List.all_eq_true]
  intro c hc
  have := (Array.all_eq_true_iff_forall_mem.mp h0) c (Array.mem_toList_iff.mp hc)
  have h2 : c < 0x110000 := by simpa using this
  exact decide_eq_true (Nat.lt_trans h2 (by decide))
/-! ### a tuple of scalars and empty dicts -/
inductive Dz1 (H : Hp) : V → PyData → Prop
  | non : Dz1 H .non .none
  | bl (b : Bool) : Dz1 H (.bl b) (.bool b)
  | int (i : Int) : Dz1 H (.int i) (.int i)
  | str (x : Str) : Dz1 H (.str x) (.str x)
  | dk {a : Addr} : Rd H a (.dK []) → Dz1 H (.ref a) (.dict [])
inductive Dz1L (H : Hp) : List V → List PyData → Prop
  | nil : Dz1L H [] []
  | cons {v : V} {vs : List V} {d : PyData} {ds : List PyData} : Dz1 H v d → Dz1L H vs ds → Dz1L H (v :: vs) (d :: ds)
section
variable {X : Cx} {K : PySem.W.Frag} {F0 : FZ} {e : Expr} {p pos : Pos} {pins : List (Addr × Obj)} {σ : L2.St} {H : Hp} {s : Shared}
theorem rd_dict0 (I : Inv X pins σ H s) {a : Addr} (rd : Rd H a (.dK [])) : ∃ as, Reads s.heap (.ref a) (.dict []) as ∧ sysModules ∉ as := by
  obtain ⟨_, nm, xs, kv, dd⟩ := rd.ok I.hok
  cases kv
  obtain ⟨o, es, ep, ho, hx, hdat, _, hp, _⟩ := dd
  have he : es.toList = [] := by
    generalize es.toList = l at hp
    cases hp
    rfl
  refine ⟨a :: [] ++ [], Reads.dict ho hx.1 hdat (by rw [he]; exact .nil) (by rw [he]; exact .nil), fun hm => ?_⟩
  have : sysModules = a := by simpa using hm
  rw [this] at nm; simp at nm
theorem Dz1L.reads (I : Inv X pins σ H s) : ∀ {vs : List V} {ds : List PyData} {us : List Value}, Dz1L H vs ds → Vals vs us → ∃ as, ReadsAll s.heap us ds as ∧ sysModules ∉ as
  | _, _, _, .nil, r => by
    cases r
    exact ⟨_, ReadsAll.nil, by simp⟩
  | _, _, _, .cons h1 h2, r => by
    cases r with
    | cons r1 r2 =>
      obtain ⟨bs, q1, q2⟩ := Dz1L.reads I h2 r2
      cases h1 with
      | non => cases r1; exact ⟨_, ReadsAll.cons Reads.none q1, by simpa using q2⟩
      | bl b => cases r1; exact ⟨_, ReadsAll.cons (Reads.bool b) q1, by simpa using q2⟩
      | int i => obtain ⟨t, rfl⟩ := r1; exact ⟨_, ReadsAll.cons (Reads.int i t) q1, by simpa using q2⟩
      | str x => obtain ⟨t, rfl⟩ := r1; exact ⟨_, ReadsAll.cons (Reads.str x t) q1, by simpa using q2⟩
      | dk rd =>
        cases r1
        obtain ⟨as, a1, a2⟩ := rd_dict0 I rd
        exact ⟨_, ReadsAll.cons a1 q1, fun z => (List.mem_append.mp z).elim a2 q2⟩
end
end DL
namespace DL
open PySem PySem.Spec PyProof.Rows L2
section
variable {X : Cx} {K : PySem.W.Frag} {F0 : FZ}
/-! ### str of a whole number or None -/
def rStrN : List V → Hp → VK → Prop := fun xs H Q => (∃ i, xs = [.int i] ∧ i.natAbs.log2 < 1920 ∧ Q (.str (toString i)) H) ∨ (xs = [.non] ∧ Q (.str "None") H)
theorem call_strN : CallR X (.type "str") rStrN := by
  intro pins s σ H xs us Q I r h
  rcases h with h | ⟨rfl, q⟩
  · exact call_str_int pins s σ H xs us Q I r h
  · cases r with
    | cons r1 r2 =>
      cases r2
      cases r1
      exact P.str_of_none ⟨.str _, H, I.tok _, ⟨_, rfl⟩, q⟩
def dStrN : DRC := fun ds M Q => match ds with
  | [.int i] => i.natAbs < 10 ^ 59 ∧ Q (.str (toString i)) M
  | [.non] => Q (.str "None") M
  | _ => False
theorem lc_strN : LC K F0 dStrN rStrN := by
  intro F M H ds vs Q' Q e0 s r q k
  unfold dStrN at q
  split at q
  · rename_i i
    cases r with
    | cons r1 r2 =>
      cases r2
      cases r1
      exact .inl ⟨_, rfl, Nat.lt_trans (logZ q.1) (by decide), k F _ _ M H (FLe.refl F) s (.str _) q.2⟩
  · cases r with
    | cons r1 r2 =>
      cases r2
      cases r1
      exact .inr ⟨rfl, k F _ _ M H (FLe.refl F) s (.str _) q⟩
  · exact q.elim
end
end DL

set_option maxRecDepth 100000
set_option maxHeartbeats 2000000
namespace DL
open PySem PySem.Spec PyProof.Rows L2
/-! ### repr of a tuple whose items are small things without a dict, or empty dicts -/
inductive DmZ (K : PySem.W.Frag) (H : Hp) : V → PyData → Prop
  | dp {v : V} {x : PyData} : Dp K H v x → x.hasDict = false → DmZ K H v x
  | dk {a : Addr} : Rd H a (.dK []) → DmZ K H (.ref a) (.dict [])
inductive DmL (K : PySem.W.Frag) (H : Hp) : List V → List PyData → Prop
  | nil : DmL K H [] []
  | cons {v : V} {vs : List V} {d : PyData} {ds : List PyData} : DmZ K H v d → DmL K H vs ds → DmL K H (v :: vs) (d :: ds)
section
variable {X : Cx} {K : PySem.W.Frag} {F0 : FZ} {pins : List (Addr × Obj)} {σ : L2.St} {H : Hp} {s : Shared}
end
end DL

set_option maxRecDepth 100000
set_option maxHeartbeats 2000000
namespace DL
open PySem PySem.Spec PyProof.Rows L2
/-! ### a power, kept as a letter -/
section
variable {X : Cx} {K : PySem.W.Frag} {F0 : FZ} {a b : Expr} {ta tb : TE} {ta' tb' : DTE} {pos : Pos}
end
end DL

set_option maxRecDepth 100000
set_option maxHeartbeats 2000000
namespace DL
open PySem PySem.Spec PyProof.Rows L2
/-! ### d.setdefault(key, z), d a dict with tuple keys -/
section
variable {X : Cx} {K : PySem.W.Frag} {F0 : FZ}
end
section
variable {X : Cx} {F0 : FZ} {o e f : Expr} {to : TE} {to' : DTE} {ta : TA} {ta' : DTA} {apos cpos : Pos}
end
end DL

set_option maxRecDepth 100000
set_option maxHeartbeats 2000000
namespace DL
open PySem PySem.Spec PyProof.Rows L2
/-! ### repr of any small thing: scalars, tuples, lists, dicts with plain keys -/
def keyP : L2.Key → PyData
  | .inl i => .int i
  | .inr x => .str x
mutual
inductive DgZ (K : PySem.W.Frag) (H : Hp) : V → PyData → Prop
  | non : DgZ K H .non .none
  | bl (b : Bool) : DgZ K H (.bl b) (.bool b)
  | int (i : Int) : DgZ K H (.int i) (.int i)
  | str (x : Str) : DgZ K H (.str x) (.str x)
  | lst {a : Addr} {xs : List V} {ds : List PyData} : SqL K H a xs → DgL K H xs ds → DgZ K H (.ref a) (.list ds)
  | tup {a : Addr} {xs : List V} {ds : List PyData} : SqT K H a xs → DgL K H xs ds → DgZ K H (.ref a) (.tuple ds)
  | dk {a : Addr} {ps : List (L2.Key × V)} {kvs : List (PyData × PyData)} : Rd H a (.dK ps) → kvs.map (·.1) = ps.map (fun p => keyP p.1) → DgL K H (ps.map (·.2)) (kvs.map (·.2)) → DgZ K H (.ref a) (.dict kvs)
inductive DgL (K : PySem.W.Frag) (H : Hp) : List V → List PyData → Prop
  | nil : DgL K H [] []
  | cons {v : V} {vs : List V} {d : PyData} {ds : List PyData} : DgZ K H v d → DgL K H vs ds → DgL K H (v :: vs) (d :: ds)
end
section
variable {X : Cx} {K : PySem.W.Frag} {F0 : FZ} {pins : List (Addr × Obj)} {σ : L2.St} {H : Hp} {s : Shared}
def ShO (X : Cx) (s : Shared) (u : Value) (x : PyData) : Prop := ∃ as bs, Reads s.heap u x as ∧ ReadAtMost s.heap x.depth bs ∧ ReprK X.prog X.w bs s.heap x.depth u x.shown
def ShA (X : Cx) (s : Shared) (us : List Value) (ds : List PyData) : Prop := ∃ as bs, ReadsAll s.heap us ds as ∧ ReadAtMost s.heap (PyData.depthAll ds) bs ∧ ReprAllK X.prog X.w bs s.heap (PyData.depthAll ds) us (PyData.shownAll ds)
theorem ShO.flat {u : Value} {x : PyData} {as : List Addr} (rd : Reads s.heap u x as) (nd : x.hasDict = false) (hs : x.showable = true) (hz : x.shown.length ≤ sizeLine) : ShO X s u x := by
  obtain ⟨bs, h1, h2⟩ := ReprK.of_reads (prog := X.prog) (w := X.w) rd hs (fun z => by rw [nd] at z; cases z) hz
  exact ⟨as, bs, rd, h1, h2⟩
theorem ShA.nil : ShA X s [] [] := by
  refine ⟨_, [], ReadsAll.nil, (fun _ h => by cases h), ?_⟩
  rw [PyData.shownAll]
  exact .nil
theorem ShA.cons {u : Value} {x : PyData} {us : List Value} {ds : List PyData} (h : ShO X s u x) (t : ShA X s us ds) : ShA X s (u :: us) (x :: ds) := by
  obtain ⟨a1, b1, rd1, m1, k1⟩ := h
  obtain ⟨a2, b2, rd2, m2, k2⟩ := t
  have n1 : x.depth ≤ PyData.depthAll (x :: ds) := by rw [PyData.depthAll]; exact Nat.le_max_left _ _
  have n2 : PyData.depthAll ds ≤ PyData.depthAll (x :: ds) := by rw [PyData.depthAll]; exact Nat.le_max_right _ _
  refine ⟨_, b1 ++ b2, ReadsAll.cons rd1 rd2, (m1.mono n1).append (m2.mono n2), ?_⟩
  rw [PyData.shownAll]
  have q1 := (k1.more fun b hb => List.mem_append_left b2 hb).level_le n1
  have q2 := k2.more_le (fun b hb => List.mem_append_right b1 hb) n2
  exact .cons q1 q2
theorem keys_sh : ∀ {ps : List (L2.Key × V)} {vs : List (L2.Key × Value)} {es : List DictEntry}, KV ps vs → Pairs (mixKind X.prog X.w) es vs → PyData.showableAll (ps.map fun p => keyP p.1) = true → (∀ t ∈ PyData.shownAll (ps.map fun p => keyP p.1), t.length ≤ sizeLine) → ShA X s (es.map (·.key)) (ps.map fun p => keyP p.1)
  | _, _, _, .nil, .nil, _, _ => ShA.nil
  | _, _, _, .cons (a := p) hp tp, .cons hk _ tk, hs, hz => by
    rw [List.map_cons, PyData.showableAll, Bool.and_eq_true] at hs
    rw [List.map_cons, PyData.shownAll] at hz
    refine ShA.cons ?_ (keys_sh tp tk hs.2 fun t ht => hz t (List.mem_cons_of_mem _ ht))
    have z := hz _ List.mem_cons_self
    have hk2 : keyIs _ _ = true := hk
    rw [← hp.1] at hk2
    rcases keyIs_shape hk2 with ⟨i, t, e1, e2⟩ | ⟨x, t, e1, e2⟩
    · have h1 := hs.1
      dsimp only
      rw [e1] at h1 z ⊢
      rw [e2]
      exact ShO.flat (Reads.int i t) rfl h1 z
    · have h1 := hs.1
      dsimp only
      rw [e1] at h1 z ⊢
      rw [e2]
      exact ShO.flat (Reads.str x t) rfl h1 z
theorem vals_kv : ∀ {ps : List (L2.Key × V)} {vs : List (L2.Key × Value)} {es : List DictEntry}, KV ps vs → Pairs (mixKind X.prog X.w) es vs → Vals (ps.map (·.2)) (es.map (·.val))
  | _, _, _, .nil, .nil => .nil
  | _, _, _, .cons hp tp, .cons _ hv tk => .cons (by dsimp only; rw [hv]; exact hp.2) (vals_kv tp tk)
mutual
theorem DgZ.sh (I : Inv X pins σ H s) : ∀ {v : V} {x : PyData} {u : Value}, DgZ X.K H v x → RelV v u → x.showable = true → x.shown.length ≤ sizeLine → ShO X s u x
  | _, _, _, .non, r, hs, hz => by cases r; exact ShO.flat Reads.none rfl hs hz
  | _, _, _, .bl b, r, hs, hz => by cases r; exact ShO.flat (Reads.bool b) rfl hs hz
  | _, _, _, .int i, r, hs, hz => by obtain ⟨t, rfl⟩ := r; exact ShO.flat (Reads.int i t) rfl hs hz
  | _, _, _, .str x, r, hs, hz => by obtain ⟨t, rfl⟩ := r; exact ShO.flat (Reads.str x t) rfl hs hz
  | _, _, _, .lst (ds := ds) hl ha, r, hs, hz => by
    cases r
    obtain ⟨its, rv, ⟨o, n, ho, hc, _, hd⟩, _⟩ := I.list hl
    have z2 : (listText (PyData.shownAll ds)).length ≤ sizeLine := by rw [PyData.shown] at hz; exact hz
    obtain ⟨as, bs, ra, hb, hk⟩ := DgL.sh I ha rv (by rw [PyData.showable] at hs; exact hs) fun t ht => Nat.le_trans (listText_mem_le ht) z2
    have rr := Reads.list ho hc hd ra
    have dp : (PyData.list ds).depth = PyData.depthAll ds + 1 := by simp only [PyData.depth]
    refine ⟨_, _ :: bs, rr, ReadAtMost.cons rr (by omega) hb, ?_⟩
    rw [dp, PyData.shown]
    cases its with
    | nil =>
      have e := ra
      cases e
      rw [PyData.shownAll, listText_nil]
      exact .listEmpty ho hc hd
    | cons y l => exact .list ho hc hd (not_mem_of_deeper rr (by omega) hb) (by have := hk.length_eq; simpa using this) (fun i y e => hk.item i y (by simpa using e))
  | _, _, _, .tup (ds := ds) hl ha, r, hs, hz => by
    cases r
    obtain ⟨its, rv, ⟨o, ho, hc, n, hd⟩, _⟩ := I.tuple hl
    have z2 : (tupleText (PyData.shownAll ds)).length ≤ sizeLine := by rw [PyData.shown] at hz; exact hz
    obtain ⟨as, bs, ra, hb, hk⟩ := DgL.sh I ha rv (by rw [PyData.showable] at hs; exact hs) fun t ht => Nat.le_trans (tupleText_mem_le ht) z2
    have rr := Reads.tuple ho hc hd ra
    have dp : (PyData.tuple ds).depth = PyData.depthAll ds + 1 := by simp only [PyData.depth]
    refine ⟨_, _ :: bs, rr, ReadAtMost.cons rr (by omega) hb, ?_⟩
    rw [dp, PyData.shown]
    exact .tuple ho hc hd (not_mem_of_deeper rr (by omega) hb) hk
  | _, _, _, .dk (a := a) (ps := ps) (kvs := kvs) hr hkeys ha, r, hs, hz => by
    cases r
    obtain ⟨_, nm, xs, kv, o, es, ep, ho, hx, hdat, _, hp, _⟩ := hr.ok I.hok
    have z2 : (dictText (PyData.shownKv kvs)).length ≤ sizeLine := by rw [PyData.shown] at hz; exact hz
    obtain ⟨s1, s2⟩ := PyData.showableKv_split kvs (by rw [PyData.showable] at hs; exact hs)
    have z3 := fun t ht => let ⟨p, hp, le⟩ := PyData.shownKv_key_le kvs t ht; Nat.le_trans le (Nat.le_trans (dictText_mem_le hp) z2)
    have z4 := fun t ht => let ⟨p, hp, le⟩ := PyData.shownKv_val_le kvs t ht; Nat.le_trans le (Nat.le_trans (dictText_mem_le hp) z2)
    have kk : ShA X s (es.toList.map (·.key)) (kvs.map (·.1)) := by
      rw [hkeys] at s1 z3 ⊢
      exact keys_sh kv hp s1 z3
    obtain ⟨a1, b1, r1, m1, k1⟩ := kk
    obtain ⟨a2, b2, r2, m2, k2⟩ := DgL.sh I ha (vals_kv kv hp) s2 z4
    have rr : Reads s.heap (.ref a) (.dict kvs) _ := Reads.dict ho hx.1 hdat r1 r2
    have n1 := PyData.depthAll_keys_le kvs
    have n2 := PyData.depthAll_vals_le kvs
    have dp : (PyData.dict kvs).depth = PyData.depthKv kvs + 1 := by simp only [PyData.depth]
    have mm := (m1.mono n1).append (m2.mono n2)
    refine ⟨_, a :: (b1 ++ b2), rr, ReadAtMost.cons rr (by omega) mm, ?_⟩
    rw [dp, PyData.shown, PyData.shownKv_eq]
    have q1 := k1.more_le (fun b hb => List.mem_append_left b2 hb) n1
    have q2 := k2.more_le (fun b hb => List.mem_append_right b1 hb) n2
    exact .dict ho hx.1 hdat nm (not_mem_of_deeper rr (by omega) mm) (ReprEntriesK.of_two _ _ _ q1 q2)
theorem DgL.sh (I : Inv X pins σ H s) : ∀ {vs : List V} {ds : List PyData} {us : List Value}, DgL X.K H vs ds → Vals vs us → PyData.showableAll ds = true → (∀ t ∈ PyData.shownAll ds, t.length ≤ sizeLine) → ShA X s us ds
  | _, _, _, .nil, r, _, _ => by cases r; exact ShA.nil
  | _, _, _, .cons (d := d) (ds := ds) h1 h2, r, hs, hz => by
    cases r with
    | cons r1 r2 =>
      rw [PyData.showableAll, Bool.and_eq_true] at hs
      rw [PyData.shownAll] at hz
      exact ShA.cons (DgZ.sh I h1 r1 hs.1 (hz _ List.mem_cons_self)) (DgL.sh I h2 r2 hs.2 fun t ht => hz t (List.mem_cons_of_mem _ ht))
end
end
/-! ### as data -/
mutual
def D.gp : D → PyData
  | .non => .none
  | .bl b => .bool b
  | .int i => .int i
  | .str x => .str x
  | .tup l => .tuple (D.gpL l)
  | .lst l => .list (D.gpL l)
  | .dk ks l => .dict ((ks.map keyP).zip (D.gpL l))
  | _ => .none
def D.gpL : List D → List PyData
  | [] => []
  | d :: r => D.gp d :: D.gpL r
end
def keyG : L2.Key → Bool
  | .inl i => decide (i.natAbs < 10 ^ 59)
  | .inr x => PyData.strOk x
def keyW : L2.Key → Nat
  | .inl _ => 200
  | .inr x => x.cps.size
mutual
/-- small, nested at most n deep -/
def D.sg : D → Nat → Bool
  | .non, _ => true
  | .bl _, _ => true
  | .int i, _ => decide (i.natAbs < 10 ^ 59)
  | .str x, _ => PyData.strOk x
  | .tup l, n + 1 => D.sgL l n
  | .lst l, n + 1 => D.sgL l n
  | .dk ks l, n + 1 => ks.all keyG && (decide (ks.length = l.length) && D.sgL l n)
  | _, _ => false
def D.sgL : List D → Nat → Bool
  | [], _ => true
  | d :: r, n => D.sg d n && D.sgL r n
end
mutual
def D.ng : D → Nat
  | .tup l => D.ngL l
  | .lst l => D.ngL l
  | .dk ks l => (ks.map keyW).sum + ks.length + D.ngL l
  | .str x => x.cps.size
  | .int _ => 200
  | _ => 0
def D.ngL : List D → Nat
  | [] => 0
  | d :: r => D.ng d + 1 + D.ngL r
end
theorem sgL_iff {n : Nat} : ∀ {l : List D}, D.sgL l n = true ↔ ∀ d ∈ l, D.sg d n = true
  | [] => by simp [D.sgL]
  | d :: r => by simp [D.sgL, sgL_iff (l := r)]
theorem gpL_len : ∀ {l : List D}, (D.gpL l).length = l.length
  | [] => rfl
  | d :: r => by rw [D.gpL, List.length_cons, List.length_cons, gpL_len]
theorem rpL_len {K : PySem.W.Frag} {F : FZ} : ∀ {l : List D} {xs : List V}, RpL K F l xs → l.length = xs.length
  | _, _, .nil => rfl
  | _, _, .cons _ t => by rw [List.length_cons, List.length_cons, rpL_len t]
section
variable {K : PySem.W.Frag} {H : Hp}
mutual
theorem rpG {F : FZ} {M : Mp} (s : SR K F M H) : ∀ {d : D} {v : V} {n : Nat}, Rp K F d v → d.sg n = true → DgZ K H v d.gp
  | _, _, n, .non, _ => .non
  | _, _, n, .bl b, _ => .bl b
  | _, _, n, .int i, _ => .int i
  | _, _, n, .str x, _ => .str x
  | _, _, n + 1, .tup a b, h => .tup (SqT.of (s.fz _ _ a)) (rpGL s b (by simpa only [D.sg] using h))
  | _, _, n + 1, .lst a b, h => .lst (SqL.of (s.fz _ _ a)) (rpGL s b (by simpa only [D.sg] using h))
  | _, _, n + 1, .dk (ps := ps) (ds := ds) a b, h => by
    simp only [D.sg, Bool.and_eq_true] at h
    have hl : (D.gpL ds).length = ps.length := by rw [gpL_len, rpL_len b, List.length_map]
    refine .dk (s.dz _ _ a) ?_ ?_
    · rw [List.map_fst_zip (by rw [List.length_map, List.length_map, hl]; exact Nat.le_refl _), List.map_map]; rfl
    · rw [List.map_snd_zip (by rw [List.length_map, List.length_map, hl]; exact Nat.le_refl _)]
      exact rpGL s b h.2.2
  | _, _, 0, .tup a b, h => by simp [D.sg] at h
  | _, _, 0, .lst a b, h => by simp [D.sg] at h
  | _, _, 0, .dk a b, h => by simp [D.sg] at h
  | _, _, n, .ref _, h => by simp [D.sg] at h
  | _, _, n, .ty _, h => by simp [D.sg] at h
  | _, _, n, .kt _ _, h => by simp [D.sg] at h
  | _, _, n, .ls _ _, h => by simp [D.sg] at h
  | _, _, n, .dt _ _, h => by simp [D.sg] at h
theorem rpGL {F : FZ} {M : Mp} (s : SR K F M H) : ∀ {l : List D} {vs : List V} {n : Nat}, RpL K F l vs → D.sgL l n = true → DgL K H vs (D.gpL l)
  | _, _, n, .nil, _ => .nil
  | _, _, n, .cons r rs, h => by
    simp only [D.sgL, Bool.and_eq_true] at h
    exact .cons (rpG s r h.1) (rpGL s rs h.2)
end
end
end DL

set_option maxRecDepth 100000
set_option maxHeartbeats 2000000
namespace DL
open PySem PySem.Spec PyProof.Rows L2
/-! ### repr of any small thing, as a rule -/
def GOk (d : D) (n : Nat) : Prop := d.gp.weight ≤ d.ng ∧ d.gp.leavesShort 60 = true ∧ d.gp.showable = true ∧ d.gp.depth ≤ n + 2
theorem allG {n : Nat} : ∀ {l : List D}, (∀ d ∈ l, GOk d n) → PyData.weightAll (D.gpL l) ≤ D.ngL l ∧ PyData.leavesShortAll 60 (D.gpL l) = true ∧ PyData.showableAll (D.gpL l) = true ∧ PyData.depthAll (D.gpL l) ≤ n + 2
  | [], _ => ⟨Nat.le_refl _, rfl, rfl, by simp [D.gpL, PyData.depthAll]⟩
  | d :: r, h => by
    obtain ⟨w1, a1, a2, a3⟩ := h d List.mem_cons_self
    obtain ⟨w2, b1, b2, b3⟩ := allG (l := r) fun e he => h e (List.mem_cons_of_mem _ he)
    refine ⟨?_, ?_, ?_, ?_⟩
    · rw [D.gpL, D.ngL, PyData.weightAll]; omega
    · simp only [D.gpL, PyData.leavesShortAll, a1, b1, Bool.and_self]
    · simp only [D.gpL, PyData.showableAll, a2, b2, Bool.and_self]
    · rw [D.gpL, PyData.depthAll]; omega
theorem keyG_ok {k : L2.Key} (h : keyG k = true) : (keyP k).weight ≤ keyW k ∧ (keyP k).leavesShort 60 = true ∧ (keyP k).showable = true ∧ (keyP k).depth ≤ 2 := by
  cases k with
  | inl i =>
    have h0 := of_decide_eq_true (show decide (i.natAbs < 10 ^ 59) = true from h)
    exact ⟨logZw h0, decide_eq_true (txtZ h0), decide_eq_true (Nat.lt_trans (logZ h0) (by decide)), by show (PyData.int i).depth ≤ 2; simp [PyData.depth]⟩
  | inr x => exact ⟨Nat.le_refl _, str_lvs h, rfl, by show (PyData.str x).depth ≤ 2; simp [PyData.depth]⟩
theorem kvG {n : Nat} : ∀ {ks : List L2.Key} {l : List D}, ks.all keyG = true → ks.length = l.length → (∀ d ∈ l, GOk d n) → PyData.weightKv ((ks.map keyP).zip (D.gpL l)) ≤ (ks.map keyW).sum + ks.length + D.ngL l ∧ PyData.leavesShortKv 60 ((ks.map keyP).zip (D.gpL l)) = true ∧ PyData.showableKv ((ks.map keyP).zip (D.gpL l)) = true ∧ PyData.depthKv ((ks.map keyP).zip (D.gpL l)) ≤ n + 2
  | [], [], _, _, _ => ⟨Nat.zero_le _, rfl, rfl, by simp [D.gpL, PyData.depthKv]⟩
  | [], _ :: _, _, h, _ => by cases h
  | _ :: _, [], _, h, _ => by cases h
  | k :: ks, d :: l, hk, hl, h => by
    rw [List.all_cons, Bool.and_eq_true] at hk
    obtain ⟨c0, c1, c2, c3⟩ := keyG_ok hk.1
    obtain ⟨w1, a1, a2, a3⟩ := h d List.mem_cons_self
    obtain ⟨w2, b1, b2, b3⟩ := kvG (ks := ks) (l := l) hk.2 (by simpa using hl) fun e he => h e (List.mem_cons_of_mem _ he)
    refine ⟨?_, ?_, ?_, ?_⟩
    · rw [D.gpL, D.ngL, List.map_cons, List.zip_cons_cons, PyData.weightKv, List.map_cons, List.sum_cons, List.length_cons]; omega
    · simp only [D.gpL, List.map_cons, List.zip_cons_cons, PyData.leavesShortKv, c1, a1, b1, Bool.and_self]
    · simp only [D.gpL, List.map_cons, List.zip_cons_cons, PyData.showableKv, c2, a2, b2, Bool.and_self]
    · rw [D.gpL, List.map_cons, List.zip_cons_cons, PyData.depthKv]; omega
mutual
theorem D.glv : ∀ {d : D} {n : Nat}, d.sg n = true → GOk d n
  | .non, n, _ => ⟨Nat.zero_le _, rfl, rfl, by show (PyData.none).depth ≤ n + 2; simp [PyData.depth]⟩
  | .bl b, n, _ => ⟨Nat.zero_le _, rfl, rfl, by show (PyData.bool b).depth ≤ n + 2; simp [PyData.depth]⟩
  | .int i, n, h => by
    have h0 := of_decide_eq_true (show decide (i.natAbs < 10 ^ 59) = true from by simpa only [D.sg] using h)
    exact ⟨logZw h0, decide_eq_true (txtZ h0), decide_eq_true (Nat.lt_trans (logZ h0) (by decide)), by show (PyData.int i).depth ≤ n + 2; simp [PyData.depth]⟩
  | .str x, n, h => ⟨Nat.le_refl _, str_lvs (by simpa only [D.sg] using h), rfl, by show (PyData.str x).depth ≤ n + 2; simp [PyData.depth]⟩
  | .tup l, n + 1, h => by
    obtain ⟨a, b, c, e⟩ := allG (D.glvL (l := l) (n := n) (by simpa only [D.sg] using h))
    refine ⟨a, b, c, ?_⟩
    show (PyData.tuple (D.gpL l)).depth ≤ _
    simp only [PyData.depth]; omega
  | .lst l, n + 1, h => by
    obtain ⟨a, b, c, e⟩ := allG (D.glvL (l := l) (n := n) (by simpa only [D.sg] using h))
    refine ⟨a, b, c, ?_⟩
    show (PyData.list (D.gpL l)).depth ≤ _
    simp only [PyData.depth]; omega
  | .dk ks l, n + 1, h => by
    have h2 : ks.all keyG = true ∧ ks.length = l.length ∧ D.sgL l n = true := by simpa only [D.sg, Bool.and_eq_true, decide_eq_true_eq] using h
    obtain ⟨a, b, c, e⟩ := kvG h2.1 h2.2.1 (D.glvL (l := l) (n := n) h2.2.2)
    refine ⟨a, b, c, ?_⟩
    show (PyData.dict ((ks.map keyP).zip (D.gpL l))).depth ≤ _
    simp only [PyData.depth]; omega
  | .tup l, 0, h => by simp [D.sg] at h
  | .lst l, 0, h => by simp [D.sg] at h
  | .dk k l, 0, h => by simp [D.sg] at h
  | .kt l, n, h => by simp [D.sg] at h
  | .ref p, n, h => by simp [D.sg] at h
  | .ty p, n, h => by simp [D.sg] at h
  | .ls p, n, h => by simp [D.sg] at h
  | .dt p q, n, h => by simp [D.sg] at h
theorem D.glvL : ∀ {l : List D} {n : Nat}, D.sgL l n = true → ∀ d ∈ l, GOk d n
  | [], n, _ => fun d hd => by cases hd
  | d :: r, n, h => by
    simp only [D.sgL, Bool.and_eq_true] at h
    have h1 := D.glv h.1
    have h2 := D.glvL h.2
    intro e he
    rcases List.mem_cons.mp he with z | z
    · rw [z]; exact h1
    · exact h2 e z
end
def rReprG (K : PySem.W.Frag) : List V → Hp → VK → Prop := fun vs H Q => ∃ (v : V) (x : PyData), vs = [v] ∧ DgZ K H v x ∧ x.showable = true ∧ x.depth ≤ 60 ∧ x.shown.length ≤ sizeLine ∧ Q (.str x.shown) H
section
variable {X : Cx} {K : PySem.W.Frag} {F0 : FZ} {pins : List (Addr × Obj)} {σ : L2.St} {H : Hp} {s : Shared}
theorem call_reprG (hg : X.A.guards = some []) (hu : X.A.units + 64 < cLine) : CallR X (.builtin "repr") (rReprG X.K) := by
  intro pins s σ H vs us Q I r h
  obtain ⟨v, x, rfl, dp, h1, h3, h4, q⟩ := h
  cases r with
  | cons r1 r2 =>
    cases r2
    have cl : ∀ b, Clear [] b := fun b => Clear.nil b
    cases dp with
    | non => exact call_repr hg hu pins s σ H [.non] _ Q I (.cons r1 .nil) ⟨_, _, rfl, .non, rfl, rfl, by simp [PyData.depth], h4, q⟩
    | bl b => exact call_repr hg hu pins s σ H [.bl b] _ Q I (.cons r1 .nil) ⟨_, _, rfl, .bl b, rfl, rfl, by simp [PyData.depth], h4, q⟩
    | int i => exact call_repr hg hu pins s σ H [.int i] _ Q I (.cons r1 .nil) ⟨_, _, rfl, .int i, h1, rfl, by simp [PyData.depth], h4, q⟩
    | str y => exact call_repr hg hu pins s σ H [.str y] _ Q I (.cons r1 .nil) ⟨_, _, rfl, .str y, rfl, rfl, by simp [PyData.depth], h4, q⟩
    | lst hl ha =>
      rename_i a xs ds
      cases r1
      obtain ⟨its, rv, ⟨o, n, ho, hc, _, hd⟩, _⟩ := I.list hl
      have z2 : (listText (PyData.shownAll ds)).length ≤ sizeLine := by rw [PyData.shown] at h4; exact h4
      obtain ⟨as, bs, ra, hb, hk⟩ := DgL.sh I ha rv (by rw [PyData.showable] at h1; exact h1) fun t ht => Nat.le_trans (listText_mem_le ht) z2
      have rr := Reads.list ho hc hd ra
      have dd : (PyData.list ds).depth = PyData.depthAll ds + 1 := by simp only [PyData.depth]
      rw [PyData.shown] at q
      refine call_repr_slot (by omega) ⟨o, ho, hc⟩ F.slot_list_repr.toG ?_
      cases its with
      | nil =>
        have e := ra
        cases e
        rw [PyData.shownAll, listText_nil] at q
        exact call_list_repr_empty ⟨o, ho, hc⟩ ho hd ⟨_, _, rfl, .str _, H, I.tok _, ⟨_, rfl⟩, q⟩
      | cons y l =>
        exact call_list_reprK ho hc hd (not_mem_of_deeper rr (by omega) hb) (by have := hk.length_eq; simpa using this) (fun i y e => hk.item i y (by simpa using e)) hg (fun b _ => cl b) (by show X.A.units + 1 + _ < cLine; omega) (fun _ _ e => e) (fun h' u tk hk2 => ⟨_, _, rfl, .str _, H, I.kept hk2, ⟨_, rfl⟩, q⟩) z2
    | tup hl ha =>
      rename_i a xs ds
      cases r1
      obtain ⟨its, rv, ⟨o, ho, hc, n, hd⟩, _⟩ := I.tuple hl
      have z2 : (tupleText (PyData.shownAll ds)).length ≤ sizeLine := by rw [PyData.shown] at h4; exact h4
      obtain ⟨as, bs, ra, hb, hk⟩ := DgL.sh I ha rv (by rw [PyData.showable] at h1; exact h1) fun t ht => Nat.le_trans (tupleText_mem_le ht) z2
      have rr := Reads.tuple ho hc hd ra
      have dd : (PyData.tuple ds).depth = PyData.depthAll ds + 1 := by simp only [PyData.depth]
      rw [PyData.shown] at q
      refine call_repr_slot (by omega) ⟨o, ho, hc⟩ F.slot_tuple_repr ?_
      exact call_tuple_reprK ho hc hd (not_mem_of_deeper rr (by omega) hb) hk hg (fun b _ => cl b) (by show X.A.units + 1 + _ < cLine; omega) (fun _ _ e => e) (fun h' u tk hk2 => ⟨_, _, rfl, .str _, H, I.kept hk2, ⟨_, rfl⟩, q⟩) z2
    | dk hr hkeys ha =>
      rename_i a ps kvs
      cases r1
      obtain ⟨_, nm, xs, kv, o, es, ep, ho, hx, hdat, _, hp, _⟩ := hr.ok I.hok
      have z2 : (dictText (PyData.shownKv kvs)).length ≤ sizeLine := by rw [PyData.shown] at h4; exact h4
      obtain ⟨s1, s2⟩ := PyData.showableKv_split kvs (by rw [PyData.showable] at h1; exact h1)
      have z3 := fun t ht => let ⟨p, hp, le⟩ := PyData.shownKv_key_le kvs t ht; Nat.le_trans le (Nat.le_trans (dictText_mem_le hp) z2)
      have z4 := fun t ht => let ⟨p, hp, le⟩ := PyData.shownKv_val_le kvs t ht; Nat.le_trans le (Nat.le_trans (dictText_mem_le hp) z2)
      have kk : ShA X s (es.toList.map (·.key)) (kvs.map (·.1)) := by
        rw [hkeys] at s1 z3 ⊢
        exact keys_sh kv hp s1 z3
      obtain ⟨a1, b1, r1, m1, k1⟩ := kk
      obtain ⟨a2, b2, r2, m2, k2⟩ := DgL.sh I ha (vals_kv kv hp) s2 z4
      have rr : Reads s.heap (.ref a) (.dict kvs) _ := Reads.dict ho hx.1 hdat r1 r2
      have n1 := PyData.depthAll_keys_le kvs
      have n2 := PyData.depthAll_vals_le kvs
      have dd : (PyData.dict kvs).depth = PyData.depthKv kvs + 1 := by simp only [PyData.depth]
      have mm := (m1.mono n1).append (m2.mono n2)
      have q1 := k1.more_le (fun b hb => List.mem_append_left b2 hb) n1
      have q2 := k2.more_le (fun b hb => List.mem_append_right b1 hb) n2
      rw [PyData.shown, PyData.shownKv_eq] at q
      refine call_repr_slot (by omega) ⟨o, ho, hx.1⟩ F.slot_dict_repr ?_
      exact call_dict_reprK ho hx.1 hdat nm (not_mem_of_deeper rr (by omega) mm) (ReprEntriesK.of_two _ _ _ q1 q2) hg (fun b _ => cl b) (by show X.A.units + 1 + _ < cLine; omega) (fun _ _ e => e) (fun h' u tk hk2 => ⟨_, _, rfl, .str _, H, I.kept hk2, ⟨_, rfl⟩, q⟩) (by rw [← PyData.shownKv_eq]; exact z2)
def dReprG : DRC := fun ds M Q => match ds with
  | [d] => d.sg 50 = true ∧ d.ng ≤ 100000 ∧ Q (.str d.gp.shown) M
  | _ => False
theorem lc_reprG : LC K F0 dReprG (rReprG K) := by
  intro F M H ds vs Q' Q e0 s r q k
  unfold dReprG at q
  split at q
  · rename_i d
    obtain ⟨h1, h2, q⟩ := q
    cases r with
    | cons r1 r2 =>
      cases r2
      obtain ⟨w, b1, b2, b3⟩ := D.glv h1
      have h4 := PyData.shown_le 60 (by decide) d.gp b1
      exact ⟨_, _, rfl, rpG s r1 h1, b2, by omega, by rw [sizeLine_eq]; omega, k F _ _ M H (FLe.refl F) s (.str _) q⟩
  · exact q.elim
end
end DL

set_option maxRecDepth 100000
set_option maxHeartbeats 4000000
namespace DL
open PySem PySem.Spec PyProof.Rows L2
/-! ### own methods, called on instances -/
section
variable {K : PySem.W.Frag} {F : FZ}
end
/-- a method as called on an instance -/
structure DMt (P : Program) (w : World) (K : PySem.W.Frag) (mg : Str → Option Value) (base : Heap) (CX : CXT) (k : Nat) (C : Addr) (m : Str) (sp : DSp) : Prop where
  ex : ∃ (g : Addr) (fd : FuncData) (ps : List Str), FnOk P w K mg base CX k g fd ps (liftSp K sp) ∧ Meth K C m g ∧ L2.Binds K fd ps []
section
variable {X : Cx} {F0 : FZ} {e o : Expr} {es : List Expr} {to : TE} {to' : DTE} {t : TA} {t' : DTA} {m : Str} {pos apos : Pos} {C : Addr} {CX : CXT}
end
end DL

set_option maxRecDepth 100000
set_option maxHeartbeats 4000000
/-! ### a, *b = a list; *a, b = a list -/
namespace L2
open PySem PySem.Spec PySem.Calls PyProof.Rows
section
variable {prog : Program} {w : World} {A : Around} {E : Value → Shared → Prop} {s : Shared}
end
section
variable {X : Cx} {pos : Pos}
end
end L2
namespace DL
open PySem PySem.Spec PyProof.Rows L2
section
variable {X : Cx} {F0 : FZ} {pos : Pos}
end
end DL

set_option maxRecDepth 100000
set_option maxHeartbeats 4000000
namespace DL
open PySem PySem.Spec PyProof.Rows L2
/-! ### texts: split, join, int(text), f-strings; defs as values -/
section
variable {X : Cx} {K : PySem.W.Frag} {F0 : FZ} {o e : Expr} {es : List Expr} {to te : TE} {to' te' : DTE} {apos pos p : Pos} {t : TA} {t' : DTA}
/-! f-strings -/
abbrev DTJ := G → Mp → Str → (Str → Mp → Prop) → Prop
structure DJs (X : Cx) (F0 : FZ) (es : List Expr) (ts : List TE) (r' : DTJ) : Prop where
  pj : PJ X es ts
  le : ∀ (F : FZ) (γ : G) (M : Mp) (σ : L2.St) (H : Hp) (acc : Str) (Q' : Str → Mp → Prop) (Q : Str → Hp → Prop), Bs F0 F → SR X.K F M H → GR X.K F γ σ → r' γ M acc Q' → (∀ F1 out M1 H1, FLe F F1 → SR X.K F1 M1 H1 → Q' out M1 → Q out H1) → tJs ts acc σ H Q
/-! a def that a name holds -/
structure DCalA (P : Program) (w : World) (K : PySem.W.Frag) (mg : Str → Option Value) (base : Heap) (CX : CXT) (k : Nat) (f : Addr) (sp : DSp) : Prop where
  ex : ∃ (fd : FuncData) (ps : List Str), FnOk P w K mg base CX k f fd ps (liftSp K sp) ∧ PySem.W.keepIn K (.ref f) = true ∧ L2.Binds K fd ps []
end
end DL

set_option maxRecDepth 100000
set_option maxHeartbeats 1000000
namespace DL
open PySem
/-! ### written numbers -/
/-! ### texts that a sign parts -/
end DL

set_option maxRecDepth 100000
set_option maxHeartbeats 4000000
namespace DL
open PySem PySem.Spec PyProof.Rows L2
/-! ### list.insert -/
section
variable {X : Cx} {K : PySem.W.Frag} {F0 : FZ} {o e e2 : Expr} {to : TE} {to' : DTE} {ta : TA} {ta' : DTA} {apos cpos : Pos}
end
end DL

set_option maxRecDepth 100000
set_option maxHeartbeats 4000000
/-! ### tuples whose objects are known -/
namespace L2
open PySem PySem.Spec PyProof.Rows HT
section
variable {X : Cx}
end
end L2
namespace DL
open PySem PySem.Spec PyProof.Rows L2
section
variable {X : Cx} {K : PySem.W.Frag} {F0 : FZ} {a b o e : Expr} {es : List Expr} {ta tb te to : TE} {ta' tb' te' to' : DTE} {t : TA} {t' : DTA} {pos apos cpos : Pos}
end
end DL
namespace L2
open PySem PySem.Spec PyProof.Rows HT
section
variable {X : Cx} {e : Expr} {te : TE} {k : Nat} {p1 p2 p3 pos : Pos}
end
end L2
namespace DL
open PySem PySem.Spec PyProof.Rows L2
section
variable {X : Cx} {F0 : FZ} {e : Expr} {te : TE} {te' : DTE} {k : Nat} {p1 p2 p3 pos : Pos}
end
end DL

set_option maxRecDepth 100000
set_option maxHeartbeats 2000000
namespace DL
open PySem PySem.Spec PyProof.Rows L2 HotX

/-! ### walks and unpackings while an error is handled -/
theorem hot_push {A : Around} {x1 : Addr} {h : Heap} (t : HotAt A x1 h) (o : Obj) : HotAt A x1 (h.push o) := by
  obtain ⟨a, o1, v, b, c, d⟩ := t; exact ⟨a, o1, v, Heap.get?_push_of_some _ b, c, d⟩
theorem hot_keep {A : Around} {x1 it : Addr} {h h' : Heap} (t : HotAt A x1 h) (ne : x1 ≠ it) (k : ∀ b o, b ≠ it → h.get? b = some o → h'.get? b = some o) : HotAt A x1 h' := by
  obtain ⟨a, o1, v, b, c, d⟩ := t; exact ⟨a, o1, v, k _ _ ne b, c, d⟩
theorem hot_ne {A : Around} {x1 it : Addr} {h : Heap} {o : Obj} {vs : Array Value} (t : HotAt A x1 h) (ho : h.get? it = some o) (hd : o.data = .fields vs) (hs : vs.size ≤ 2) : x1 ≠ it := by
  intro e; obtain ⟨a, o1, v, b, c, d⟩ := t
  rw [e, ho] at b; cases b; rw [hd] at c; cases c
  have := (Array.getElem?_eq_some_iff.mp d).1; omega
section
variable {prog : Program} {w : World} {A : Around} {E : Value → Shared → Prop} {s : Shared}
theorem next_list_end_hot {it l x1 : Addr} {i : Nat} {items : Array Value} {Q : Option Value → Shared → Prop} (hot : HotAt A x1 s.heap) (hit : s.heap.IsListIter it l i) (hl : s.heap.IsList l items) (hx : items[i]? = none)
    (hQ : ∀ h', Heap.ExtBut it s.heap h' → Q none { s with heap := h' }) : wpAny (model prog w) A (pyNext (.ref it)) Q E s := by
  obtain ⟨o, ho, hc, hd⟩ := id hit
  obtain ⟨ol, hol, _, nl, hdl⟩ := hl
  have nx := hot_ne hot ho hd (by simp)
  unfold pyNext
  refine wpAny_bind (wpAny_attempt (wpAny_callSpecial?_slot (name := Str.ofString "__next__") hit.typeIs slot_listiter_next (wpAny_call_entry slot_listiter_next hit.typeIs entry_listiter_next ?_ (args_listiter_next _))))
  show wpAny _ _ (field (.ref it) 0 >>= _) _ _ s
  refine wpAny_bind (wpAny_field ho hd (x := .ref l) rfl ?_); show wpAny _ _ (if (Value.ref l == Value.none) = true then _ else _) _ _ s
  rw [if_neg (show ¬ ((Value.ref l == Value.none) = true) from Bool.false_ne_true)]; show wpAny _ _ (field (.ref it) 1 >>= _) _ _ s
  refine wpAny_bind (wpAny_field ho hd (x := .int i 0) rfl ?_); show wpAny _ _ (seqItems? (.ref l) >>= _) _ _ s
  refine wpAny_bind (wpAny_seqItems hol hdl ?_); simp only [Int.toNat_natCast, hx]
  refine wpAny_bind (wpAny_rule (wpAny_bind (wpAny_setField ho hd (by simp) ?_)))
  show wpAny _ _ (newExc (.type "StopIteration") [] >>= _) _ _ _
  refine wpAny_bind ?_; simp only [newExc, newTuple]
  refine wpAny_bind (wpAny_newObj_type ?_ (by size_fits)); refine wpAny_bind (m := firstArgMember _ _) (wpAny_of_eq (a := Value.none) (by first | rfl | (simp only [firstArgMember]; rfl)) ?_)
  refine wpAny_newObj_type ?_ (by size_fits)
  have up : ∀ (h : Heap) (o1 o2 : Obj) (f : Obj → Obj) (b : Addr) (u : Obj), h.get? b = some u → (((h.push o1).push o2).update (h.push o1).objs.size f).get? b = some u := fun h o1 o2 f b u e => by
    rw [Heap.get?_update_other _ _ (Nat.ne_of_gt (Heap.lt_size (Heap.get?_push_of_some _ e)))]; exact Heap.get?_push_of_some _ (Heap.get?_push_of_some _ e)
  refine raiseNew_hot (x1 := x1) (hot_push (hot_push (hot_keep hot nx (Heap.SameBut.update ..).extBut) _) _) ?_ (Heap.get?_push_size _ rfl) rfl (by first | (simp; done) | (simp; omega) | (simp only [Array.size_append]; simp; omega)) ?_
  · obtain ⟨_, o1, v1, b1, _, _⟩ := hot_push (hot_keep hot nx (Heap.SameBut.update s.heap it (Obj.mapFields (·.setIfInBounds 0 .none))).extBut) { cls := .type "tuple", data := .seq #[] 0 }
    exact Nat.ne_of_lt (Heap.lt_size b1)
  refine wpAny_bind (wpAny_isInstance (T := "StopIteration") (b := true) ⟨_, Heap.get?_update_self _ (Heap.get?_push_size _ rfl) rfl, rfl⟩ isSubtype_stop ?_)
  exact wpAny_pure (hQ _ fun b o hb e => up _ _ _ _ b o ((Heap.SameBut.update ..).extBut b o hb e))
theorem next_tup_end_hot {it l x1 : Addr} {i : Nat} {items : Array Value} {Q : Option Value → Shared → Prop} (hot : HotAt A x1 s.heap) (hit : IsTupIter s.heap it l i) (hl : IsTup s.heap l items) (hx : items[i]? = none)
    (hQ : ∀ h', Heap.ExtBut it s.heap h' → Q none { s with heap := h' }) : wpAny (model prog w) A (pyNext (.ref it)) Q E s := by
  obtain ⟨o, ho, hc, hd⟩ := id hit
  obtain ⟨ol, hol, _, nl, hdl⟩ := hl
  have nx := hot_ne hot ho hd (by simp)
  unfold pyNext
  refine wpAny_bind (wpAny_attempt (wpAny_callSpecial?_slot (name := Str.ofString "__next__") hit.typeIs slot_tupleiter_next (wpAny_call_entry slot_tupleiter_next hit.typeIs entry_tupleiter_next ?_ (args_tupleiter_next _))))
  show wpAny _ _ (field (.ref it) 0 >>= _) _ _ s
  refine wpAny_bind (wpAny_field ho hd (x := .ref l) rfl ?_); show wpAny _ _ (if (Value.ref l == Value.none) = true then _ else _) _ _ s
  rw [if_neg (show ¬ ((Value.ref l == Value.none) = true) from Bool.false_ne_true)]; show wpAny _ _ (field (.ref it) 1 >>= _) _ _ s
  refine wpAny_bind (wpAny_field ho hd (x := .int i 0) rfl ?_); show wpAny _ _ (seqItems? (.ref l) >>= _) _ _ s
  refine wpAny_bind (wpAny_seqItems hol hdl ?_); simp only [Int.toNat_natCast, hx]
  refine wpAny_bind (wpAny_rule (wpAny_bind (wpAny_setField ho hd (by simp) ?_)))
  show wpAny _ _ (newExc (.type "StopIteration") [] >>= _) _ _ _
  refine wpAny_bind ?_; simp only [newExc, newTuple]
  refine wpAny_bind (wpAny_newObj_type ?_ (by size_fits)); refine wpAny_bind (m := firstArgMember _ _) (wpAny_of_eq (a := Value.none) (by first | rfl | (simp only [firstArgMember]; rfl)) ?_)
  refine wpAny_newObj_type ?_ (by size_fits)
  have up : ∀ (h : Heap) (o1 o2 : Obj) (f : Obj → Obj) (b : Addr) (u : Obj), h.get? b = some u → (((h.push o1).push o2).update (h.push o1).objs.size f).get? b = some u := fun h o1 o2 f b u e => by
    rw [Heap.get?_update_other _ _ (Nat.ne_of_gt (Heap.lt_size (Heap.get?_push_of_some _ e)))]; exact Heap.get?_push_of_some _ (Heap.get?_push_of_some _ e)
  refine raiseNew_hot (x1 := x1) (hot_push (hot_push (hot_keep hot nx (Heap.SameBut.update ..).extBut) _) _) ?_ (Heap.get?_push_size _ rfl) rfl (by first | (simp; done) | (simp; omega) | (simp only [Array.size_append]; simp; omega)) ?_
  · obtain ⟨_, o1, v1, b1, _, _⟩ := hot_push (hot_keep hot nx (Heap.SameBut.update s.heap it (Obj.mapFields (·.setIfInBounds 0 .none))).extBut) { cls := .type "tuple", data := .seq #[] 0 }
    exact Nat.ne_of_lt (Heap.lt_size b1)
  refine wpAny_bind (wpAny_isInstance (T := "StopIteration") (b := true) ⟨_, Heap.get?_update_self _ (Heap.get?_push_size _ rfl) rfl, rfl⟩ isSubtype_stop ?_)
  exact wpAny_pure (hQ _ fun b o hb e => up _ _ _ _ b o ((Heap.SameBut.update ..).extBut b o hb e))
end
section
variable {X : Cx} {pos : Pos}
end
/-! ### lists and tuples walked there -/
theorem turn_listH {P : Program} {w : World} {K : PySem.W.Frag} {tg : Expr} (a it : Addr) : L2H.TurnH P w K tg (Itl K a) [it] it (fun i h => h.IsListIter it a i) :=
  have T := turn_list (P := P) (w := w) (K := K) (tg := tg) a it
  { mem := T.mem, obj := T.obj, keep := T.keep, self := T.self
    item := by
      rintro X rfl rfl rfl hc i pins s σ H E I hf st ⟨xs, x, hq, hx⟩
      obtain ⟨its, rv, p, hz⟩ := I.list hq; obtain ⟨u, hu, ru⟩ := rv.get hx; obtain ⟨f0, f1, f2, f3, f4, f5⟩ := hf it (by simp)
      refine wpAny_pyNext_list_item st p.isList (x := u) (by simpa using hu) fun h' st' sb => ?_
      have I1 : Inv X pins σ H { s with heap := h' } := I.turned (t' := s.toks) (fun b o hb e => (sb.2 b hb).trans e) f0 f1 f3 f4 f5; obtain ⟨o, e, c, d⟩ := id st'
      exact ⟨u, rfl, go_of (s := { s with heap := h' }) e c d (by decide) ⟨x, H, I1, ru, ⟨rfl, fun ys hy => by rw [I.list_inj hy hq]; exact hx⟩, st', fun b hb => (hf b hb).1⟩⟩
    done := by
      rintro X rfl rfl rfl hc i pins s σ H E I hf st ⟨xs, hq, hx⟩
      obtain ⟨its, rv, p, hz⟩ := I.list hq; obtain ⟨f0, f1, f2, f3, f4, f5⟩ := hf it (by simp); have hl := rv.length; obtain ⟨x1, hot⟩ := hc.at I
      exact next_list_end_hot hot st p.isList (by simp; omega) fun h' eb => ⟨rfl, I.turned (t' := s.toks) (fun b o hb e => eb b o hb e) f0 f1 f3 f4 f5⟩ }
theorem turn_tupleH {P : Program} {w : World} {K : PySem.W.Frag} {tg : Expr} (a it : Addr) : L2H.TurnH P w K tg (Itt K a) [it] it (fun i h => h.IsTupleIter it a i) :=
  have T := turn_tuple (P := P) (w := w) (K := K) (tg := tg) a it
  { mem := T.mem, obj := T.obj, keep := T.keep, self := T.self
    item := by
      rintro X rfl rfl rfl hc i pins s σ H E I hf st ⟨xs, x, hq, hx⟩
      obtain ⟨its, rv, p, hz⟩ := I.tuple hq; obtain ⟨u, hu, ru⟩ := rv.get hx; obtain ⟨f0, f1, f2, f3, f4, f5⟩ := hf it (by simp)
      refine wpAny_pyNext_tuple_item st (show s.heap.IsTuple a its.toArray from p) (x := u) (by simpa using hu) fun h' st' sb => ?_
      have I1 : Inv X pins σ H { s with heap := h' } := I.turned (t' := s.toks) (fun b o hb e => (sb.2 b hb).trans e) f0 f1 f3 f4 f5; obtain ⟨o, e, c, d⟩ := id st'
      exact ⟨u, rfl, go_of (s := { s with heap := h' }) e c d (by decide) ⟨x, H, I1, ru, ⟨rfl, fun ys hy => by rw [I.tuple_inj hy hq]; exact hx⟩, st', fun b hb => (hf b hb).1⟩⟩
    done := by
      rintro X rfl rfl rfl hc i pins s σ H E I hf st ⟨xs, hq, hx⟩
      obtain ⟨its, rv, p, hz⟩ := I.tuple hq; obtain ⟨f0, f1, f2, f3, f4, f5⟩ := hf it (by simp); have hl := rv.length; obtain ⟨x1, hot⟩ := hc.at I
      exact next_tup_end_hot hot st p (by simp; omega) fun h' eb => ⟨rfl, I.turned (t' := s.toks) (fun b o hb e => eb b o hb e) f0 f1 f3 f4 f5⟩ }
theorem pi_seqH {X : Cx} {tg l : Expr} {tl : TE} (hl : PE X l tl) : L2H.PIH X tg l (iSeq X.K tl) := by
  refine ⟨fun pins s σ H R I h => thn (hl.run pins s σ H _ I h) fun v s1 ⟨x, H1, I1, r1, q1⟩ => ?_⟩
  have new : ∀ b ∈ [s1.heap.objs.size], FpOk X pins H1 b := fun b hb => by
    rw [List.mem_singleton.mp hb]; exact I1.fpOk (Nat.le_refl _) (I1.hok.fresh (Nat.le_refl _))
  rcases q1 with ⟨a, rfl, ⟨xs, hq⟩, q⟩ | ⟨a, rfl, ⟨xs, hq⟩, q⟩
  · cases r1
    obtain ⟨its, rv, p, hz⟩ := I1.list hq
    exact wpAny_pyIter_list p.isList ⟨s1.heap.objs.size, [s1.heap.objs.size], _, _, H1, rfl, I1.kept (t' := s1.toks) fun b o e => Heap.get?_push_of_some _ e, turn_listH a _, ⟨_, Heap.get?_push_size _ rfl, rfl, rfl⟩, new, q⟩
  · cases r1
    obtain ⟨its, rv, p, hz⟩ := I1.tuple hq
    exact wpAny_pyIter_tuple (show s1.heap.IsTuple a its.toArray from p) ⟨s1.heap.objs.size, [s1.heap.objs.size], _, _, H1, rfl, I1.kept (t' := s1.toks) fun b o e => Heap.get?_push_of_some _ e, turn_tupleH a _, ⟨_, Heap.get?_push_size _ rfl, rfl, rfl⟩, new, q⟩
end DL

set_option maxRecDepth 100000
set_option maxHeartbeats 2000000
namespace DL
open PySem PySem.Spec PyProof.Rows L2 HotX

/-! ### a list comprehension while an error is handled -/
/-- the block's context: it bears the pins of the code around it -/
abbrev blkH (X : Cx) (s : Shared) (H : Hp) (scope : Scope) (cenv : Env) (fp : List Addr) : Cx := { X with s_0 := s, H_0 := H, env := cenv, outer := X.stack, ex := fp, fn := fun x => scope.names.lookup x == some .cell, xe := fun _ _ => False }
section
variable {X : Cx} {pins : List (Addr × Obj)} {σ : L2.St} {H : Hp} {s : Shared}
theorem block_startH {scope : Scope} {own : List (Str × Nat)} {fp : List Addr} (I : Inv X pins σ H s) (ok : BlkOk X.N X.env.scope scope own) (hN : X.N.Nodup) (hfp : ∀ b ∈ fp, FpOk X pins H b ∧ b < s.heap.objs.size) :
    Inv (blkH X s H scope (compEnvC scope (cellsFrom (s.heap.objs.size + 1) scope.names (cloFrom X.env.cells scope.names [])) s.heap.objs.size X.env) fp) [] (wipe σ (own.map (·.2))) H { s with heap := pushCells (s.heap.push { cls := .type "dict", data := .dict #[] }) scope.names } := by
  have J := block_start I ok hN hfp
  obtain ⟨k1, k2, k3, k4, k5, k6, k7, k8, k9, k10, k11, k12, k13, k14, k15, k16, k17, k18⟩ := J.ok
  refine ⟨⟨k1, k2, k3, k4, k5, k6, k7, k8, k9, k10, k11, k12, k13, k14, k15, k16, k17, k18⟩, J.os, J.bare, J.base, J.loc, J.cell, J.free, J.freeC, fun p hp => ?_, J.hok, J.len⟩
  have q := I.pin p (List.mem_append_left _ (by simpa using hp))
  refine ⟨pushCells_keeps _ _ _ _ (Heap.get?_push_of_some _ q.1), q.2.1, ?_, fun hm => ?_, q.2.2.2.2⟩
  · show p.1 ≠ (compEnvC scope (cellsFrom (s.heap.objs.size + 1) scope.names (cloFrom X.env.cells scope.names [])) s.heap.objs.size X.env).locals
    exact Nat.ne_of_lt (Heap.lt_size q.1)
  · exact (List.mem_cons.mp (I.stkSub p.1 hm)).elim q.2.2.1 q.2.2.2.1
end
section
variable {X : Cx}
theorem lc_coreH {pins : List (Addr × Obj)} {s : Shared} {σ : L2.St} {H : Hp} {Q : VK} {elt tg iter : Expr} {ifs : List Expr} {scope : Scope} {own : List (Str × Nat)} {pos pos' : Pos} {wi : TI} {g : TG} {tt : TT} {te : TE} {use : Option (Value → Sem Unit)} {Qf : Value → Shared → Prop}
    (hc : L2H.HotC X) (hN : X.N.Nodup) (I : Inv X pins σ H s) (hi : L2H.PIH X tg iter wi) (ok : BlkOk X.N X.env.scope scope own)
    (hg : ∀ (s : Shared) (H : Hp) (C : Addr) (cl : List (Str × Addr)) (fp : List Addr), PG (blkH X s H scope (compEnvC scope cl C X.env) fp) tg g) (ht : ∀ (s : Shared) (H : Hp) (C : Addr) (cl : List (Str × Addr)) (fp : List Addr), PTs (blkH X s H scope (compEnvC scope cl C X.env) fp) ifs tt)
    (he : ∀ (s : Shared) (H : Hp) (C : Addr) (cl : List (Str × Addr)) (fp : List Addr), PE (blkH X s H scope (compEnvC scope cl C X.env) fp) elt te) (hs : ∀ x, foldedSetIterable iter X.env x = pure x)
    (h : tLc wi g tt te (own.map (·.2)) σ H Q)
    (hRR : ∀ D C s' m H', Inv X pins σ H' s' → Q (.ref D) H' → s'.heap.Ns C m → FpOk X pins H' C → compPost (model X.prog X.w) X.A X.xe use Qf (.ref D) C (.ok .next) s') :
    wpAny (model X.prog X.w) X.A (comprehension (.ListComp elt [⟨tg, iter, ifs, 0⟩] scope pos) scope X.env pos' (newList []) false (eval iter X.env) use) Qf X.xe s := by
  have caps : ∀ y ∈ scope.names, y.2 = .free → ∃ c, X.env.cells.lookup y.1 = some c := fun y hy e => I.ok.has _ (ok.free y hy e)
  refine wpAny_comprehension_free (use := use) rfl hs (closure_ok caps) ok.kind (fun y hy e => by rw [ok.uniq y hy, e]) (thn (hi.run pins s σ H _ I h) fun xv s1 hx => thn hx fun itv s2 h2 => ?_)
  obtain ⟨it, fp, tn, J, H2, rfl, I2, T, st2, f2, q⟩ := h2
  refine wpAny_newObj_type (newEnv_comp ?_) (by show 0 ≤ sizeLine; decide)
  obtain ⟨D, hD⟩ : ∃ D, s2.heap.objs.size = D := ⟨_, rfl⟩
  rw [hD]
  have free2 : H2 D = none := I2.hok.fresh (Nat.le_of_eq hD)
  obtain ⟨W, ⟨m0, w0⟩, turn⟩ := q D free2
  obtain ⟨s3, hs3⟩ : ∃ s3 : Shared, ({ s2 with heap := s2.heap.push { cls := .type "list", data := .seq ([] : List Value).toArray } } : Shared) = s3 := ⟨_, rfl⟩
  have at3 : s3.heap = s2.heap.push { cls := .type "list", data := .seq ([] : List Value).toArray } := by rw [← hs3]
  have old3 : ∀ b o, s2.heap.get? b = some o → s3.heap.get? b = some o := fun b o e => by rw [at3]; exact Heap.get?_push_of_some _ e
  have I3 : Inv X pins σ (upd H2 D (.lst [])) s3 := by
    rw [← hs3]; exact I2.laid (t' := s2.toks) (fun b o e => Heap.get?_push_of_some _ e) (Nat.le_of_eq hD) ⟨Nat.zero_le _, [], 0, .nil, by rw [← hD]; exact Heap.get?_push_size _ rfl⟩
  have low : ∀ b ∈ fp, b < D := fun b hb => by obtain ⟨o, e, _⟩ := T.obj _ _ st2 b hb; rw [← hD]; exact Heap.lt_size e
  have f3 : ∀ b ∈ fp, FpOk X pins (upd H2 D (.lst [])) b ∧ b < s3.heap.objs.size := fun b hb =>
    ⟨⟨by rw [upd_ne (Nat.ne_of_lt (low b hb))]; exact (f2 b hb).1, (f2 b hb).2⟩, by rw [at3, Heap.size_push, hD]; exact Nat.lt_succ_of_lt (low b hb)⟩
  have I4 := block_startH I3 ok hN f3
  have pg := hg s3 (upd H2 D (.lst [])) s3.heap.objs.size (cellsFrom (s3.heap.objs.size + 1) scope.names (cloFrom X.env.cells scope.names [])) fp
  have pt := ht s3 (upd H2 D (.lst [])) s3.heap.objs.size (cellsFrom (s3.heap.objs.size + 1) scope.names (cloFrom X.env.cells scope.names [])) fp
  have pe := he s3 (upd H2 D (.lst [])) s3.heap.objs.size (cellsFrom (s3.heap.objs.size + 1) scope.names (cloFrom X.env.cells scope.names [])) fp
  rw [hs3]
  show codeAny _ _ (.compStart (.ListComp elt [⟨tg, iter, ifs, 0⟩] scope pos) 0 (.ref it) (.ref D) (compEnvC scope (cellsFrom (s3.heap.objs.size + 1) scope.names (cloFrom X.env.cells scope.names [])) s3.heap.objs.size X.env)) (compPost (model X.prog X.w) X.A X.xe use Qf (.ref D) s3.heap.objs.size) { s3 with heap := pushCells (s3.heap.push { cls := .type "dict", data := .dict #[] }) scope.names }
  have free3 : ∀ b ∈ fp, (upd H2 D (.lst [])) b = none := fun b hb => (f3 b hb).1.1
  obtain ⟨ce, hce⟩ : ∃ ce, compEnvC scope (cellsFrom (s3.heap.objs.size + 1) scope.names (cloFrom X.env.cells scope.names [])) s3.heap.objs.size X.env = ce := ⟨_, rfl⟩
  rw [hce] at I4 pg pt pe ⊢
  have cL : ce.locals = s3.heap.objs.size := by rw [← hce]; rfl
  obtain ⟨H3, hH3⟩ : ∃ H3, upd H2 D (.lst []) = H3 := ⟨_, rfl⟩
  rw [hH3] at I3 I4 pg pt pe w0 free3 f3
  obtain ⟨s4, hs4⟩ : ∃ s4 : Shared, ({ s3 with heap := pushCells (s3.heap.push { cls := .type "dict", data := .dict #[] }) scope.names } : Shared) = s4 := ⟨_, rfl⟩
  rw [hs4] at I4 ⊢
  have st4 : tn 0 s4.heap := T.keep _ _ _ st2 fun b _ o e => by rw [← hs4]; exact pushCells_keeps _ _ _ _ (Heap.get?_push_of_some _ (old3 b o e))
  -- the iterator's objects, all through the walk
  have stat : ∀ {σ' : L2.St} {H' : Hp} {s' : Shared}, Inv (blkH X s3 H3 scope ce fp) [] σ' H' s' → (∀ b ∈ fp, H' b = none) → (∀ p ∈ X.pn, p.1 ∉ fp) → ∀ b ∈ fp, FpOk (blkH X s3 H3 scope ce fp) [] H' b := fun {σ' H' s'} I' hn ap b hb =>
    ⟨hn b hb, (I'.ok.exf b hb).1, I'.ok.exfs b hb, .inl hb, fun x c e => (I'.ok.exf b hb).2 x c e, fun p hp z => ap p (by simpa using hp) (by rw [z]; exact hb)⟩
  have apart : ∀ p ∈ X.pn, p.1 ∉ fp := fun p hp hm => (f2 p.1 hm).2.2.2.2.2 p (List.mem_append_left _ hp) rfl
  have loop : codeAny (model X.prog X.w) X.A (.compLoop (.ListComp elt [⟨tg, iter, ifs, 0⟩] scope pos) 0 (.ref it) (.ref D) ce) (compPost (model X.prog X.w) X.A X.xe use Qf (.ref D) s3.heap.objs.size) s4 := by
    refine compLoop_any (fun n s' => ∃ i H', Inv (blkH X s3 H3 scope ce fp) [] (wipe σ (own.map (·.2))) H' s' ∧ tn i s'.heap ∧ (∀ b ∈ fp, H' b = none) ∧ W i n H') ?_ m0 ⟨0, H3, I4, st4, free3, w0⟩
    rintro n s5 ⟨i, H5, I5, st5, n5, w5⟩
    rcases turn i n H5 w5 with ⟨stop, qq⟩ | ⟨go, Nx, hNx, step⟩
    · refine thnF (T.done (blkH X s3 H3 scope ce fp) rfl rfl rfl hc i [] s5 _ H5 (fun _ _ => False) I5 (stat I5 n5 apart) st5 stop) fun r s6 ⟨hr, I6⟩ => ?_
      subst hr
      have I7 : Inv X pins σ H5 s6 := I3.call' (ch := fp) I6.os I6.base I6.hok I6.bare fun b hb => have z := (f3 b hb).1.2; ⟨z.2.2.1, z.1, z.2.2.2.1, z.2.2.2.2⟩
      have nC : H5 s3.heap.objs.size = none := by have z : H5 ce.locals = none := I6.free; rwa [cL] at z
      obtain ⟨m, hn, _⟩ := I6.loc
      have hn : s6.heap.Ns ce.locals m := hn
      rw [cL] at hn
      exact hRR D s3.heap.objs.size s6 m H5 I7 qq hn (I3.fpOk (Nat.le_refl _) nC)
    · refine thnF (T.item (blkH X s3 H3 scope ce fp) rfl rfl rfl hc i [] s5 _ H5 (fun _ _ => False) I5 (stat I5 n5 apart) st5 go) fun r s6 ⟨u, hr, h6⟩ => ?_
      subst hr
      refine thnF h6 fun _ s7 ⟨x, H7, I7, r7, y7, st7, n7⟩ => ?_
      refine thnF (pg.run _ s7 _ H7 x u _ (I7.pinned (stat I7 n7 apart) (T.obj _ _ st7)) r7 (step x H7 y7)) fun _ s8 ⟨σ8, H8, I8, hw8, q8⟩ => ?_
      refine thnF (pt.run _ s8 σ8 H8 _ I8 q8) fun b s9 ⟨H9, I9, q9⟩ => ?_
      have back : ∀ {s' : Shared} {H' : Hp}, Inv (blkH X s3 H3 scope ce fp) ([] ++ pinsAt fp s7.heap) σ8 H' s' → Nx H' → ∃ m, m < n ∧ ∃ i H', Inv (blkH X s3 H3 scope ce fp) [] (wipe σ (own.map (·.2))) H' s' ∧ tn i s'.heap ∧ (∀ b ∈ fp, H' b = none) ∧ W i m H' := fun {s' H'} I' nx => by
        obtain ⟨m', hm, w'⟩ := hNx H' nx
        have kept : ∀ b ∈ fp, ∀ o, s7.heap.get? b = some o → s'.heap.get? b = some o ∧ H' b = none := fun b hb o e =>
          have z := I'.pin (b, o) (List.mem_append_right _ (List.mem_append_right _ (mem_pinsAt hb e))); ⟨z.1, z.2.1⟩
        refine ⟨m', hm, i + 1, H', (I'.unpinned (pins := [])).weak (by rw [← hw8, wipe_length]) (fun j v e => by rw [← hw8] at e; exact (wipe_some e).1), T.keep _ _ _ st7 fun b hb o e => (kept b hb o e).1, fun b hb => ?_, w'⟩
        obtain ⟨o, e, _⟩ := T.obj _ _ st7 b hb; exact (kept b hb o e).2
      cases b with
      | false => simp only [Bool.false_eq_true, if_false] at q9 ⊢; exact back I9 q9
      | true =>
        simp only [if_true] at q9 ⊢
        exact thnF (pe.run _ s9 σ8 H9 _ I9 q9) fun z s10 ⟨yv, H10, I10, r10, acc, hD10, hz10, nx⟩ => app_ok (X := blkH X s3 H3 scope ce fp) I10 hD10 hz10 r10 fun s11 I11 => back I11 nx
  exact codeAny_compStart_list loop (T.self X.A 0 _ _ _ st4 loop)
theorem pe_lcH {elt tg iter : Expr} {ifs : List Expr} {scope : Scope} {own : List (Str × Nat)} {pos : Pos} {wi : TI} {g : TG} {tt : TT} {te : TE} (hc : L2H.HotC X) (hN : X.N.Nodup) (hi : L2H.PIH X tg iter wi) (ok : BlkOk X.N X.env.scope scope own)
    (hg : ∀ (s : Shared) (H : Hp) (C : Addr) (cl : List (Str × Addr)) (fp : List Addr), PG (blkH X s H scope (compEnvC scope cl C X.env) fp) tg g) (ht : ∀ (s : Shared) (H : Hp) (C : Addr) (cl : List (Str × Addr)) (fp : List Addr), PTs (blkH X s H scope (compEnvC scope cl C X.env) fp) ifs tt)
    (he : ∀ (s : Shared) (H : Hp) (C : Addr) (cl : List (Str × Addr)) (fp : List Addr), PE (blkH X s H scope (compEnvC scope cl C X.env) fp) elt te) (hs : ∀ x, foldedSetIterable iter X.env x = pure x) :
    PE X (.ListComp elt [⟨tg, iter, ifs, 0⟩] scope pos) (tLc wi g tt te (own.map (·.2))) := by
  refine ⟨fun pins s σ H Q I h => ?_⟩
  rw [eval_ListComp]
  refine lc_coreH hc hN I hi ok hg ht he hs h fun D C s' m H' I' q hn f => ⟨m, hn, fun h'' sb => ?_⟩
  exact ⟨.ref D, H', I'.turned (t' := s'.toks) (fun b o hb e => (sb.2 b hb).trans e) f.1 f.2.1 f.2.2.2.1 f.2.2.2.2.1 f.2.2.2.2.2, rfl, q⟩
end
/-! ### as data -/
abbrev BlkH (X : Cx) (scope : Scope) (p : Cx → Prop) : Prop := ∀ (s : Shared) (H : Hp) (C : Addr) (cl : List (Str × Addr)) (fp : List Addr), p (blkH X s H scope (compEnvC scope cl C X.env) fp)
structure DIH (X : Cx) (F0 : FZ) (tg iter : Expr) (wi : TI) (wi' : DTI) : Prop where
  pi : L2H.PIH X tg iter wi
  le : LI X.K F0 wi' wi
section
variable {X : Cx} {F0 : FZ} {e tg elt iter : Expr} {te : TE} {te' : DTE} {ifs : List Expr} {scope : Scope} {own : List (Str × Nat)} {pos : Pos} {wi : TI} {wi' : DTI} {g' : DTG} {tt' : DTT}
theorem di_seqH (h : DE X F0 e te te') : DIH X F0 tg e (iSeq X.K te) (jSeq te') := ⟨pi_seqH h.pe, (di_seq h (tg := tg)).le⟩
theorem dx_lcH0 (hc : L2H.HotC X) (hN : X.N.Nodup) (hi : DIH X F0 tg iter wi wi') (ok : BlkOk X.N X.env.scope scope own) (hg : BlkH X scope fun Y => DGx Y F0 (own.map (·.2)) tg g') (ht : BlkH X scope fun Y => DTx Y F0 ifs tt') (he : BlkH X scope fun Y => DEx Y F0 elt te') (hs : ∀ x, foldedSetIterable iter X.env x = pure x := by intro _; rfl) :
    DE X F0 (.ListComp elt [⟨tg, iter, ifs, 0⟩] scope pos) (tLc wi (lfG X.K F0 (own.map (·.2)) g') (lfT X.K F0 tt') (lfE X.K F0 te') (own.map (·.2))) (dLc wi' g' tt' te' (own.map (·.2))) :=
  ⟨pe_lcH hc hN hi.pi ok (fun s H C cl fp => (hg s H C cl fp).pg) (fun s H C cl fp => (ht s H C cl fp).pt) (fun s H C cl fp => (he s H C cl fp).pe) hs, le_lc hi.le lg_lfG gw_lfG (le_lfT _) (le_lfE _)⟩
end
end DL

set_option maxRecDepth 100000
set_option maxHeartbeats 2000000
namespace DL
open PySem PySem.Spec PyProof.Rows L2 HotX

/-! ### a def that is called in an except suite, with the error -/
/-- a: the error that is handled; Dc: its class; it has no fields -/
structure HotE (K : PySem.W.Frag) (A : Around) (a Dc : Addr) (oe : Obj) : Prop where
  hx : ExcC K Dc
  hz : L2N.Zn (.ref Dc) none oe
  hf : ∃ vs, oe.data = .fields vs
  hh : A.handled = some (.ref a)
abbrev HSp := Addr → Addr → DSp
def HtOk (P : Program) (w : World) (K : PySem.W.Frag) (mg : Str → Option Value) (base : Heap) (k : Nat) (f : Addr) (fd : FuncData) (ps : List Str) (sp : Addr → Addr → Sp) : Prop :=
  ∀ (A : Around) (outer : List Env) (s : Shared) (H : Hp) (args : Args) (us : List Value) (vs : List V) (Q : VK) (E : XK) (a Dc : Addr) (oe : Obj), HotE K A a Dc oe → L2H.RoomH k A → L2H.PinOk outer H s (a, oe) → Env0 P w K mg base A outer s H → BindsTo s fd args (ps.zip us) → Vals vs us → sp a Dc vs H Q E →
    codeAny (model P w) A (.call (.ref f) args) (CR CX0 outer P w H s Q E) s
theorem HtOk.mono {P : Program} {w : World} {K : PySem.W.Frag} {mg : Str → Option Value} {base : Heap} {j k : Nat} {f : Addr} {fd : FuncData} {ps : List Str} {sp : Addr → Addr → Sp} (h : HtOk P w K mg base k f fd ps sp) (hk : k ≤ j) : HtOk P w K mg base j f fd ps sp := fun A outer s H args us vs Q E a Dc oe he hr => h A outer s H args us vs Q E a Dc oe he (hr.mono hk)
section
variable {P : Program} {w : World} {K : PySem.W.Frag} {mg : Str → Option Value} {base : Heap}
end
section
variable {X : Cx} {F0 : FZ} {k j : Nat} {f : Addr} {fd : FuncData} {ps : List Str} {x : Str} {p pos : Pos} {e : Expr} {es : List Expr}
/-- such a def as called -/
structure DCalH (P : Program) (w : World) (K : PySem.W.Frag) (mg : Str → Option Value) (base : Heap) (k : Nat) (x : Str) (sp : HSp) : Prop where
  ex : ∃ (f : Addr) (fd : FuncData) (ps : List Str), HtOk P w K mg base k f fd ps (fun a Dc => liftSp K (sp a Dc)) ∧ (∀ a Dc ds M Q E, sp a Dc ds M Q E → ds.length = ps.length) ∧ mg x = some (.ref f) ∧ PySem.W.keepIn K (.ref f) = true ∧ L2.Binds K fd ps []
end
section
variable {P : Program} {w : World} {K : PySem.W.Frag} {mg : Str → Option Value} {base : Heap}
end
/-! ### what stands in such a body -/
section
variable {X : Cx} {F0 : FZ}
theorem hotY {Y : Cx} {a : Addr} {oe : Obj} {cls : Value} {d : Option Addr} (hh : Y.A.handled = some (.ref a)) (hp : (a, oe) ∈ Y.pn) (hz : L2N.Zn cls d oe) (hf : ∃ vs, oe.data = .fields vs) : L2H.HotC Y := by
  obtain ⟨vs, hv⟩ := hf
  exact ⟨(a, oe), ⟨hh, vs, hv, hz.2.2 vs hv⟩, hp⟩
end
end DL

set_option maxRecDepth 100000
set_option maxHeartbeats 4000000
namespace DL
open PySem PySem.Spec PyProof.Rows L2
/-! ### own methods that may raise, within a try or a def that raises -/
section
variable {X : Cx} {F0 : FZ} {e o : Expr} {es : List Expr} {to : TE} {to' : DTE} {t : TA} {t' : DTA} {m : Str} {pos apos : Pos} {C : Addr}
end
end DL

set_option maxRecDepth 100000
set_option maxHeartbeats 4000000
namespace DL
open PySem PySem.Spec PyProof.Rows L2
/-! ### == and != in an except suite -/
section
variable {X : Cx} {F0 : FZ} {a b : Expr} {ta tb : TE} {ta' tb' : DTE} {pos : Pos}
theorem dt_eqU (hu : X.A.units + 200 < cLine) (ha : DE X F0 a ta ta') (hb : DE X F0 b tb tb') : DT X F0 (.Compare a [.Eq] [b] pos) (tTest (tOp (rEqD X.K) ta tb)) (dTest (dOp (dEq false) ta' tb')) := dt_cmp (op_eqD (by omega)) l2_eq ha hb (nomark _)
end
end DL

set_option maxRecDepth 100000
set_option maxHeartbeats 2000000
namespace DL
open PySem PySem.Spec PyProof.Rows L2

def top (i : Nat) : Stmt := PySem.Challenge.pw_storelands_k88_logs_refused.main.body.getD i (.Pass ⟨0, 0, 0, 0⟩)
abbrev s__law_deep : Stmt := top 40
abbrev s__law_draw : Stmt := top 32
abbrev s__law_bent : Stmt := top 43
abbrev s__law_drawn_ties : Stmt := top 35
abbrev s__law_mixed : Stmt := top 37
abbrev s__law_pairs : Stmt := top 33
abbrev s__law_book : Stmt := top 38
abbrev s__law_dice : Stmt := top 31
abbrev s__law_is_count : Stmt := top 36
abbrev s__law_is_log : Stmt := top 42
abbrev s__law_rows : Stmt := top 34
abbrev s__law_log : Stmt := top 39
abbrev s_is_integer : Stmt := top 1
abbrev s_is_within : Stmt := top 2
abbrev s_is_index : Stmt := top 3
abbrev s_Book_size : Stmt := inClass (top 16) 2
abbrev s_is_entry : Stmt := top 21
abbrev s_check_log : Stmt := top 22
abbrev s_tied_of : Stmt := top 17
abbrev s_behind_entry : Stmt := top 24
abbrev s_standings_behind : Stmt := top 25
abbrev s_can_have_stood : Stmt := top 27
abbrev s_check_contents : Stmt := top 23
abbrev s_can_stand : Stmt := top 26
abbrev s_far_from : Stmt := top 28
abbrev s_shortest_log : Stmt := top 29
abbrev s__law_word : Stmt := top 41
abbrev s_is_rising_pair : Stmt := top 4
abbrev s_are_rising_pairs : Stmt := top 5
abbrev s_beside_lists : Stmt := top 6
abbrev s_reached : Stmt := top 7
abbrev s_Book___init__ : Stmt := inClass (top 16) 0
abbrev s_law : Stmt := top 44
structure Bn (mg : Str → Option Value) : Prop where
  ValueError : mg "ValueError" = none
  abs : mg "abs" = none
  all : mg "all" = none
  any : mg "any" = none
  bool : mg "bool" = none
  int : mg "int" = none
  isinstance : mg "isinstance" = none
  len : mg "len" = none
  list : mg "list" = none
  range : mg "range" = none
  repr : mg "repr" = none
  sorted : mg "sorted" = none
  str : mg "str" = none
  tuple : mg "tuple" = none
structure Gs (mg : Str → Option Value) : Prop where
  MOST_CONTENTS : ∃ t, mg "MOST_CONTENTS" = some (.int (8) t)
  MOST_ENTRIES : ∃ t, mg "MOST_ENTRIES" = some (.int (40) t)
  MOST_TIES : ∃ t, mg "MOST_TIES" = some (.int (28) t)
structure Exs (K : PySem.W.Frag) (E_LandsError E_NoContent E_NoLog : Addr) : Prop where
  c_NoContent : ExcC K E_NoContent
  m_NoContent_LandsError : PySem.W.exmOne K (.ref E_NoContent) (.ref E_LandsError) = some true
  k_NoContent_LandsError : PySem.W.kitOne K (.ref E_NoContent) (.ref E_LandsError) = some true
  m_NoContent_NoContent : PySem.W.exmOne K (.ref E_NoContent) (.ref E_NoContent) = some true
  k_NoContent_NoContent : PySem.W.kitOne K (.ref E_NoContent) (.ref E_NoContent) = some true
  m_NoContent_NoLog : PySem.W.exmOne K (.ref E_NoContent) (.ref E_NoLog) = some false
  k_NoContent_NoLog : PySem.W.kitOne K (.ref E_NoContent) (.ref E_NoLog) = some false
  b_NoContent_ValueError : PySem.W.kitOne K (.ref E_NoContent) (.type "ValueError") = some true
  c_NoLog : ExcC K E_NoLog
  m_NoLog_LandsError : PySem.W.exmOne K (.ref E_NoLog) (.ref E_LandsError) = some true
  k_NoLog_LandsError : PySem.W.kitOne K (.ref E_NoLog) (.ref E_LandsError) = some true
  m_NoLog_NoContent : PySem.W.exmOne K (.ref E_NoLog) (.ref E_NoContent) = some false
  k_NoLog_NoContent : PySem.W.kitOne K (.ref E_NoLog) (.ref E_NoContent) = some false
  m_NoLog_NoLog : PySem.W.exmOne K (.ref E_NoLog) (.ref E_NoLog) = some true
  k_NoLog_NoLog : PySem.W.kitOne K (.ref E_NoLog) (.ref E_NoLog) = some true
  b_NoLog_ValueError : PySem.W.kitOne K (.ref E_NoLog) (.type "ValueError") = some true

theorem map_bl (b : Bool) : ∀ l : List D, l.map (fun _ => D.bl b) = (List.replicate l.length b).map .bl
  | [] => rfl
  | x :: l => by rw [List.map_cons, map_bl b l]; rfl
def prOk (n : Int) (p : Int × Int) : Prop := 0 ≤ p.1 ∧ p.1 < p.2 ∧ p.2 < n
def prLt (p q : Int × Int) : Prop := p.1 < q.1 ∨ (p.1 = q.1 ∧ p.2 < q.2)
/-- pushes, ties: right pairs, strictly ascending -/
structure PrsOk (n : Int) (ps : List (Int × Int)) : Prop where
  ok : ∀ p ∈ ps, prOk n p
  lt : ps.Pairwise prLt
theorem len_ok {n : Nat} (h : n ≤ 10000000) : n ≤ sizeLine := by rw [sizeLine_eq]; omega
theorem len_lt {n : Nat} (h : n ≤ 10000000) : n < sizeLine := by rw [sizeLine_eq]; omega
theorem atI_at {l : List D} {i : Int} {k : Nat} {d : D} (hi : i = (k : Int)) (h : l[k]? = some d) : atI l i = some d := by
  subst hi; exact atI_nat h
theorem get_pr {ps : List (Int × Int)} {k : Nat} {d : D} (h : (ps.map prD)[k]? = some d) : ∃ p, ps[k]? = some p ∧ d = prD p := by
  rw [List.getElem?_map] at h
  obtain ⟨p, hp, e⟩ := Option.map_eq_some_iff.mp h
  exact ⟨p, hp, e.symm⟩
theorem get_int {ps : List Int} {k : Nat} {d : D} (h : (ps.map D.int)[k]? = some d) : ∃ p, ps[k]? = some p ∧ d = .int p := by
  rw [List.getElem?_map] at h
  obtain ⟨p, hp, e⟩ := Option.map_eq_some_iff.mp h
  exact ⟨p, hp, e.symm⟩
theorem pw_next {α : Type} {r : α → α → Prop} {l : List α} (h : l.Pairwise r) {k : Nat} {p q : α} (hp : l[k]? = some p) (hq : l[k + 1]? = some q) : r p q := by
  obtain ⟨a, ha⟩ := List.getElem?_eq_some_iff.mp hp
  obtain ⟨b, hb⟩ := List.getElem?_eq_some_iff.mp hq
  rw [← ha, ← hb]
  exact List.pairwise_iff_getElem.mp h k (k + 1) a b (by omega)
/-! ### who is beside whom -/
def nbr (ps : List (Int × Int)) (i : Int) : List Int := ps.flatMap fun p => (if p.1 = i then [p.2] else []) ++ (if p.2 = i then [p.1] else [])
def rowsOf (n : Int) (ps : List (Int × Int)) : List (List Int) := (List.range n.toNat).map fun (i : Nat) => srt (nbr ps (i : Int))
def rowsD (n : Int) (ps : List (Int × Int)) : List D := (rowsOf n ps).map fun r => .tup (r.map .int)
theorem nbr_mem {ps : List (Int × Int)} {i j : Int} : j ∈ nbr ps i ↔ (i, j) ∈ ps ∨ (j, i) ∈ ps := by
  unfold nbr
  rw [List.mem_flatMap]
  constructor
  · rintro ⟨⟨a, b⟩, h, q⟩
    rcases List.mem_append.mp q with q | q
    · by_cases e : a = i
      · simp only [e, if_true, List.mem_singleton] at q
        subst q; subst e; exact .inl h
      · simp [e] at q
    · by_cases e : b = i
      · simp only [e, if_true, List.mem_singleton] at q
        subst q; subst e; exact .inr h
      · simp [e] at q
  · rintro (h | h)
    · exact ⟨_, h, by simp⟩
    · exact ⟨_, h, by simp⟩
theorem nbr_symm {ps : List (Int × Int)} {i j : Int} : j ∈ nbr ps i ↔ i ∈ nbr ps j := by rw [nbr_mem, nbr_mem]; exact Or.comm
theorem nbr_ok {n : Int} {ps : List (Int × Int)} (h : PrsOk n ps) {i j : Int} (hj : j ∈ nbr ps i) : 0 ≤ j ∧ j < n := by
  rcases nbr_mem.mp hj with z | z <;> have := h.ok _ z <;> unfold prOk at this <;> simp only at this <;> omega
theorem nbr_snoc {ps : List (Int × Int)} {a b i : Int} : nbr (ps ++ [(a, b)]) i = nbr ps i ++ ((if a = i then [b] else []) ++ (if b = i then [a] else [])) := by
  unfold nbr
  rw [List.flatMap_append]
  simp
theorem rowsOf_get {n : Int} {ps : List (Int × Int)} {i : Int} (h0 : 0 ≤ i) (h1 : i < n) : (rowsOf n ps)[i.toNat]? = some (srt (nbr ps i)) := by
  unfold rowsOf
  rw [List.getElem?_map, List.getElem?_range (by omega)]
  simp only [Option.map_some]
  rw [Int.toNat_of_nonneg h0]
theorem rowsD_get {n : Int} {ps : List (Int × Int)} {i : Int} (h0 : 0 ≤ i) (h1 : i < n) : atI (rowsD n ps) i = some (.tup ((srt (nbr ps i)).map .int)) := by
  refine atI_at (k := i.toNat) (by omega) ?_
  unfold rowsD
  rw [List.getElem?_map, rowsOf_get h0 h1]
  rfl
theorem nbr_len (ps : List (Int × Int)) (i : Int) : (nbr ps i).length ≤ 2 * ps.length := by
  induction ps with
  | nil => simp [nbr]
  | cons p ps ih =>
    have e : nbr (p :: ps) i = ((if p.1 = i then [p.2] else []) ++ (if p.2 = i then [p.1] else [])) ++ nbr ps i := by unfold nbr; rw [List.flatMap_cons]
    rw [e, List.length_append, List.length_append, List.length_cons]
    by_cases h1 : p.1 = i <;> by_cases h2 : p.2 = i <;> simp [h1, h2] <;> omega
theorem dForI_of {g : DTG} {tb : DTS} {D0 : DEnds} {γ : G} {items : List D} {M1 : Mp} (I : Nat → G → Mp → Prop) (h0 : I 0 γ M1) (step : ∀ i d γ M, items[i]? = some d → I i γ M → g d γ M fun γ1 M1 => tb { D0 with nx := I (i + 1), ct := I (i + 1), bk := D0.nx } γ1 M1)
    (done : ∀ γ M, I items.length γ M → D0.nx γ M) : dForI g tb D0 γ items M1 := ⟨I, h0, step, done⟩
theorem dLcI_idx {g : DTG} {te : DTE} {vs : List Nat} {γ : G} {items : List D} {M : Mp} {Q : DK} (f : Nat → D) (h : ∀ (i : Nat) (d : D), items[i]? = some d → ∀ Q2 : DK, Q2 (f i) M → g d (dwipe γ vs) M fun γ2 M2 => te γ2 M2 Q2) (q : Q (.lst ((List.range items.length).map f)) M) : dLcI g dYes te vs γ items M Q := by
  refine ⟨fun i acc M' => M' = M ∧ acc = (List.range i).map f, ⟨rfl, rfl⟩, ?_, ?_⟩
  · rintro i d acc M' hd ⟨rfl, rfl⟩
    refine h i d hd _ ⟨rfl, ?_⟩
    rw [List.range_succ, List.map_append]
    rfl
  · rintro acc M' ⟨rfl, rfl⟩
    exact q
theorem rows_upd {n : Nat} {f g : Nat → List D} {k : Nat} (hg : ∀ j, j ≠ k → g j = f j) : ((List.range n).map f).set k (g k) = (List.range n).map g := by
  apply List.ext_getElem?
  intro j
  rw [List.getElem?_set]
  by_cases e : k = j
  · subst e
    rw [List.length_map, List.length_range]
    by_cases hk : k < n
    · simp [hk]
    · simp [hk]
  · rw [if_neg e, List.getElem?_map, List.getElem?_map]
    by_cases hk : j < n
    · rw [List.getElem?_range hk]
      simp [hg j fun z => e z.symm]
    · rw [List.getElem?_eq_none (by simpa using hk)]; rfl
/-- one entry more in the rows -/
theorem RowsAt.push {M : Mp} {as : List Addr} {n : Nat} {f g : Nat → List D} {k : Nat} {d : D} (h : RowsAt M as ((List.range n).map f)) (hk : k < n) (hg : ∀ j, g j = if j = k then f j ++ [d] else f j) :
    ∃ a, as[k]? = some a ∧ M a = some (.lst (f k)) ∧ RowsAt (mset M a (.lst (f k ++ [d]))) as ((List.range n).map g) := by
  obtain ⟨a, h1, h2⟩ := h.get (k := k) (r := f k) (by rw [List.getElem?_map, List.getElem?_range hk]; rfl)
  refine ⟨a, h1, h2, ?_⟩
  have e := h.set h1 (f k ++ [d])
  have e2 : f k ++ [d] = g k := by rw [hg, if_pos rfl]
  rw [e2, rows_upd fun j hj => by rw [hg, if_neg hj]] at e
  rw [e2]
  exact e
theorem ref_at {as : List Addr} {k : Nat} {a : Addr} {i : Int} (hi : i = (k : Int)) (h : as[k]? = some a) : atI (as.map D.ref) i = some (.ref a) := atI_at hi (by rw [List.getElem?_map, h]; rfl)
theorem take_succ_of {α : Type} {l : List α} {i : Nat} {p : α} (h : l[i]? = some p) : l.take (i + 1) = l.take i ++ [p] := by
  rw [List.take_add_one, h]; rfl
/-! ### the dice -/
def diceL (r : Int) (ns : List Int) (a m c : Int) : List (Key × D) := [(.inr "rest", .int r), (.inr "cells", .lst (ns.map .int)), (.inr "at", .int a), (.inr "mixed", .int m), (.inr "count", .int c)]
section
variable {r : Int} {ns : List Int} {a m c x : Int}
variable {M : Mp} {p : Addr}
theorem ix_dK {kvs : List (Key × D)} {k : Str} (h : M p = some (.dK kvs)) : dIxV M (.ref p) (.str k) = dval kvs (.inr k) := by
  simp only [dIxV, h, dLook, keyOf, Option.map_some, Option.bind_some, id]
end
structure DiceAt (M : Mp) (p : Addr) : Prop where
  ex : ∃ (r : Int) (ns : List Int) (a m c : Int), M p = some (.dK (diceL r ns a m c)) ∧ 0 ≤ r ∧ 0 ≤ a
theorem dSeq_gen {t u : DTS} {D0 : DEnds} {γ : G} {M : Mp} (P : G → Mp → Prop) (h2 : ∀ γ' M', P γ' M' → u D0 γ' M') (h1 : ∀ nx : G → Mp → Prop, (∀ γ' M', P γ' M' → nx γ' M') → t { D0 with nx := nx } γ M) : dSeq t u D0 γ M := h1 (u D0) h2
theorem cmulR {i j : Int} (h : j.natAbs ≤ 1000000000000) : CMul i j := .inr (by omega)
theorem cmulL {i j : Int} (h : i.natAbs ≤ 1000000000000) : CMul i j := .inl (by omega)
/-- all but a few are as they were -/
def Agree (M M' : Mp) (S : List Addr) : Prop := ∀ q, q ∉ S → M' q = M q
theorem Agree.refl (M : Mp) (S : List Addr) : Agree M M S := fun _ _ => rfl
theorem Agree.trans {M M1 M2 : Mp} {S : List Addr} (a : Agree M M1 S) (b : Agree M1 M2 S) : Agree M M2 S := fun q h => (b q h).trans (a q h)
theorem Agree.mset {M : Mp} {S : List Addr} {p : Addr} {o : MO} (h : p ∈ S) : Agree M (mset M p o) S := fun q hq => mset_ne fun e => hq (e ▸ h)
theorem Agree.at {M M' : Mp} {S : List Addr} (h : Agree M M' S) {q : Addr} (hq : q ∉ S) : M' q = M q := h q hq
theorem DiceAt.keep {M M' : Mp} {S : List Addr} {p : Addr} (h : DiceAt M p) (a : Agree M M' S) (hp : p ∉ S) : DiceAt M' p := ⟨by rw [a p hp]; exact h.ex⟩
/-- what was there is there -/
def Ext (M M' : Mp) (S : List Addr) : Prop := ∀ q o, q ∉ S → M q = some o → M' q = some o
theorem Ext.refl (M : Mp) (S : List Addr) : Ext M M S := fun _ _ _ h => h
theorem Ext.trans {M M1 M2 : Mp} {S : List Addr} (a : Ext M M1 S) (b : Ext M1 M2 S) : Ext M M2 S := fun q o h e => b q o h (a q o h e)
theorem Agree.ext {M M' : Mp} {S : List Addr} (a : Agree M M' S) : Ext M M' S := fun q o h e => (a q h).trans e
theorem Ext.mset {M M' : Mp} {S : List Addr} {l : Addr} {o : MO} (a : Ext M M' S) (h : M l = none) : Ext M (mset M' l o) S := fun q u hq e => by
  rw [mset_ne fun z => ?_]
  · exact a q u hq e
  · rw [z, h] at e; cases e
theorem Ext.mdel {M M' : Mp} {S : List Addr} {l : Addr} (a : Ext M M' S) (h : M l = none) : Ext M (mdel M' l) S := fun q u hq e => by
  rw [mdel_ne fun z => ?_]
  · exact a q u hq e
  · rw [z, h] at e; cases e
theorem Ext.fresh {M M' : Mp} {S : List Addr} {l : Addr} (a : Ext M M' S) (hs : l ∉ S) (h : M' l = none) : M l = none := by
  cases e : M l with
  | none => rfl
  | some o => rw [a l o hs e] at h; cases h
theorem DiceAt.ne {M : Mp} {p l : Addr} {x : List D} (h : DiceAt M p) (hl : M l = some (.lst x)) : l ≠ p := fun e => by
  obtain ⟨r, ns, a, m, c, hp, _⟩ := h.ex
  rw [e, hp] at hl; cases hl
theorem DiceAt.some {M : Mp} {p l : Addr} (h : DiceAt M p) (hl : M l = none) : l ≠ p := fun e => by
  obtain ⟨r, ns, a, m, c, hp, _⟩ := h.ex
  rw [e, hp] at hl; cases hl
theorem DiceAt.mset {M : Mp} {p l : Addr} {o : MO} (h : DiceAt M p) (hl : l ≠ p) : DiceAt (mset M l o) p := ⟨by rw [mset_ne (Ne.symm hl)]; exact h.ex⟩
theorem DiceAt.mdel {M : Mp} {p l : Addr} (h : DiceAt M p) (hl : l ≠ p) : DiceAt (mdel M l) p := ⟨by rw [mdel_ne (Ne.symm hl)]; exact h.ex⟩
/-- a list of right pairs under way -/
structure WSt (M : Mp) (p : Addr) (n : Int) (b : Nat) (M' : Mp) (l : Addr) (ps : List (Int × Int)) : Prop where
  dice : DiceAt M' p
  ext : Ext M M' [p]
  fr : M l = none
  lst : M' l = some (.lst (ps.map prD))
  ok : ∀ q ∈ ps, prOk n q
  len : ps.length ≤ b
theorem WSt.new {M : Mp} {p : Addr} {n : Int} {b : Nat} {M' : Mp} {l' : Addr} {ps' : List (Int × Int)} (hd : DiceAt M' p) (he : Ext M M' [p]) (hl : M' l' = none) (ok : ∀ q ∈ ps', prOk n q) (len : ps'.length ≤ b) : WSt M p n b (mset M' l' (.lst (ps'.map prD))) l' ps' :=
  have ne : l' ≠ p := hd.some hl
  have fr : M l' = none := he.fresh (by simpa using ne) hl
  ⟨hd.mset ne, he.mset fr, fr, mset_same, ok, len⟩
theorem dSeq_then {t u : DTS} {D0 : DEnds} {γ : G} {M : Mp} (P : G → Mp → Prop) (h1 : ∀ nx : G → Mp → Prop, (∀ γ' M', P γ' M' → nx γ' M') → t { D0 with nx := nx } γ M) (h2 : ∀ γ' M', P γ' M' → u D0 γ' M') : dSeq t u D0 γ M := h1 (u D0) h2
/-! ### dicts of pairs -/
def kvP (p : Int × Int) : List Key × D := ([.inl p.1, .inl p.2], .bl true)
theorem keyP_inj {p q : Int × Int} : ([.inl p.1, .inl p.2] : List Key) = [.inl q.1, .inl q.2] ↔ p = q := by
  constructor
  · intro h
    injection h with h1 h2
    injection h2 with h2 _
    injection h1 with h1
    injection h2 with h2
    exact Prod.ext h1 h2
  · rintro rfl; rfl
theorem dval_kvP {ks : List (Int × Int)} {p : Int × Int} : dval (ks.map kvP) [.inl p.1, .inl p.2] = if p ∈ ks then some (.bl true) else none := by
  induction ks with
  | nil => rfl
  | cons q ks ih =>
    rw [List.map_cons]
    show dval (([.inl q.1, .inl q.2], D.bl true) :: ks.map kvP) _ = _
    rw [dval_cons, ih]
    by_cases e : q = p
    · subst e; simp
    · rw [if_neg (fun z => e (keyP_inj.mp z))]
      have e2 : ¬ p = q := fun z => e z.symm
      simp [e2]
theorem dput_kvP {ks : List (Int × Int)} {p : Int × Int} : dput (ks.map kvP) [.inl p.1, .inl p.2] (.bl true) = (if p ∈ ks then ks else ks ++ [p]).map kvP := by
  unfold dput
  rw [dval_kvP]
  by_cases h : p ∈ ks
  · simp only [if_pos h, Option.isSome_some, if_true]
    rw [List.map_map]
    apply List.map_congr_left
    intro q hq
    show (if (kvP q).1 = _ then ((kvP q).1, D.bl true) else kvP q) = kvP q
    split <;> rfl
  · simp only [if_neg h, Option.isSome_none, Bool.false_eq_true, if_false]
    rw [List.map_append]; rfl
theorem srtd_lt {qs : List (Int × Int)} (h : SrtO.Srtd SrtO.lexB qs) (nd : qs.Nodup) : qs.Pairwise prLt := by
  have h' : qs.Pairwise fun a b => SrtO.lexB b a = false := h
  refine (h'.and nd).imp ?_
  rintro ⟨a, b⟩ ⟨c, d⟩ ⟨h1, h2⟩
  rw [SrtO.lexB_no] at h1
  unfold prLt
  simp only at h1 ⊢
  by_cases e : a = c
  · subst e
    by_cases e2 : b = d
    · subst e2; exact absurd rfl h2
    · omega
  · omega
/-! ### webs -/
structure Cl_TW (K : PySem.W.Frag) (mg : Str → Option Value) (C : Addr) : Prop where
  cl : Cls K C
  n_kept_size : NoAttr K C "kept_size"
  n_kept_pushes : NoAttr K C "kept_pushes"
  n_kept_facts : NoAttr K C "kept_facts"
def webF (n : Int) (ps : List (Int × Int)) (d : Addr) : List (Str × D) := [("kept_size", .int n), ("kept_pushes", .tup (ps.map prD)), ("kept_facts", .ref d)]
structure WebOk (n : Int) (ps : List (Int × Int)) : Prop where
  lo : 1 ≤ n
  hi : n ≤ 10000
  pr : PrsOk n ps
  len : ps.length ≤ 100000
structure WebAt (C : Addr) (M : Mp) (p : Addr) (n : Int) (ps : List (Int × Int)) (d : Addr) : Prop where
  ob : M p = some (.ins C (webF n ps d))
  fc : ∃ kvs, M d = some (.dK kvs) ∧ (kvs = [] ∨ kvs = [(.inr "beside", .lst (rowsD n ps))])
  ok : WebOk n ps
theorem WebAt.ne {C : Addr} {M : Mp} {p : Addr} {n : Int} {ps : List (Int × Int)} {d : Addr} (h : WebAt C M p n ps d) : p ≠ d := fun e => by
  obtain ⟨kvs, h1, _⟩ := h.fc
  have := h.ob
  rw [e, h1] at this
  cases this
theorem WebAt.keep {C : Addr} {M M' : Mp} {S : List Addr} {p : Addr} {n : Int} {ps : List (Int × Int)} {d : Addr} (h : WebAt C M p n ps d) (a : Agree M M' S) (hp : p ∉ S) (hd : d ∉ S) : WebAt C M' p n ps d :=
  ⟨by rw [a p hp]; exact h.ob, by rw [a d hd]; exact h.fc, h.ok⟩
theorem mdel_mset {M : Mp} {l : Addr} {o : MO} (h : M l = none) : mdel (mset M l o) l = M := by
  funext q
  by_cases e : q = l
  · rw [e, mdel_same, h]
  · rw [mdel_ne e, mset_ne e]
theorem Agree.new2 {M M2 : Mp} {b d : Addr} (hb : M b = none) (hd : M d = none) (ag : Agree M M2 [b, d]) : Ext M M2 [] := fun q o _ hq => by
  rw [ag q ?_]
  · exact hq
  · simp only [List.mem_cons, List.not_mem_nil, or_false, not_or]
    exact ⟨fun z => by (rw [z, hb] at hq; cases hq), fun z => by (rw [z, hd] at hq; cases hq)⟩
theorem Agree.newM {M M2 : Mp} {b d : Addr} {o : MO} (hb : M b = none) (hd : DL.mset M b o d = none) (ag : Agree (DL.mset M b o) M2 [b, d]) : Ext M M2 [] := by
  have nd : d ≠ b := fun e => by rw [e, mset_same] at hd; cases hd
  rw [mset_ne nd] at hd
  exact Agree.new2 hb hd ((Agree.mset (by simp)).trans ag)
theorem cut_take {α : Type} {xs : List α} {a : Int} (h : 0 ≤ a) : cutD xs none (some a) = xs.take a.toNat := by
  have h1 : HT.sIx xs.length 0 none = 0 := rfl
  have h2 : HT.sIx xs.length xs.length (some a) = min a.toNat xs.length := if_neg (by omega)
  unfold cutD
  rw [h1, h2, List.drop_zero, Nat.sub_zero]
  by_cases e : a.toNat ≤ xs.length
  · rw [Nat.min_eq_left e]
  · rw [Nat.min_eq_right (by omega), List.take_length, List.take_of_length_le (by omega)]
/-! ### reaching -/
theorem snoc_cases {α : Type} (l : List α) : l = [] ∨ ∃ m a, l = m ++ [a] := by
  rcases List.eq_nil_or_concat l with h | ⟨m, a, h⟩
  · exact .inl h
  · exact .inr ⟨m, a, by rw [h, List.concat_eq_append]⟩
def Wk (ps : List (Int × Int)) (S : List Int) (s : Int) : Nat → Int → Prop
  | 0, x => x = s
  | t + 1, y => ∃ x, Wk ps S s t x ∧ y ∈ nbr ps x ∧ y ∈ S
def Rch (ps : List (Int × Int)) (S : List Int) (s x : Int) : Prop := ∃ t, Wk ps S s t x
def Dst (ps : List (Int × Int)) (S : List Int) (s : Int) (t : Nat) (x : Int) : Prop := Wk ps S s t x ∧ ∀ j, j < t → ¬ Wk ps S s j x
section
variable {ps : List (Int × Int)} {S : List Int} {s x y : Int} {t : Nat}
theorem Rch.refl : Rch ps S s s := ⟨0, rfl⟩
theorem Rch.step (h : Rch ps S s x) (hy : y ∈ nbr ps x) (hS : y ∈ S) : Rch ps S s y := let ⟨t, h⟩ := h; ⟨t + 1, x, h, hy, hS⟩
theorem Wk.mem : ∀ {t : Nat} {x : Int}, s ∈ S → Wk ps S s t x → x ∈ S
  | 0, _, h, e => by rw [show _ = s from e]; exact h
  | _ + 1, _, _, ⟨_, _, _, h⟩ => h
theorem Rch.mem (hs : s ∈ S) (h : Rch ps S s x) : x ∈ S := let ⟨_, h⟩ := h; Wk.mem hs h
theorem Wk.trans {a b c : Int} : ∀ {t j : Nat} {c : Int}, Wk ps S a t b → Wk ps S b j c → Rch ps S a c
  | _, 0, _, h, e => by rw [show _ = b from e]; exact ⟨_, h⟩
  | _, _ + 1, _, h, ⟨_, h1, h2, h3⟩ => (Wk.trans (c := c) h h1).step h2 h3
theorem Rch.trans {a b c : Int} (h : Rch ps S a b) (g : Rch ps S b c) : Rch ps S a c := let ⟨_, h⟩ := h; let ⟨_, g⟩ := g; Wk.trans (c := c) h g
theorem Wk.symm : ∀ {t : Nat} {x : Int}, s ∈ S → Wk ps S s t x → Rch ps S x s
  | 0, _, _, e => by rw [show _ = s from e]; exact .refl
  | _ + 1, _, hs, ⟨_, h1, h2, h3⟩ => ((Rch.refl).step (nbr_symm.mp h2) (Wk.mem hs h1)).trans (Wk.symm hs h1)
theorem Rch.symm (hs : s ∈ S) (h : Rch ps S s x) : Rch ps S x s := let ⟨_, h⟩ := h; Wk.symm hs h
theorem Rch.congr {S' : List Int} (h : ∀ x, x ∈ S → x ∈ S') : Rch ps S s x → Rch ps S' s x := by
  rintro ⟨t, ht⟩
  induction t generalizing x with
  | zero => exact ⟨0, ht⟩
  | succ t ih =>
    obtain ⟨z, h1, h2, h3⟩ := ht
    exact (ih h1).step h2 (h _ h3)
theorem Dst.uniq {t j : Nat} (h : Dst ps S s t x) (g : Dst ps S s j x) : t = j := by
  rcases Nat.lt_trichotomy t j with l | l | l
  · exact absurd h.1 (g.2 t l)
  · exact l
  · exact absurd g.1 (h.2 j l)
theorem Wk.dst : ∀ {t : Nat}, Wk ps S s t x → ∃ j, j ≤ t ∧ Dst ps S s j x := by
  intro t
  induction t using Nat.strongRecOn with
  | _ t ih =>
    intro h
    by_cases e : ∃ j, j < t ∧ Wk ps S s j x
    · obtain ⟨j, hj, w⟩ := e
      obtain ⟨i, hi, d⟩ := ih j hj w
      exact ⟨i, by omega, d⟩
    · exact ⟨t, Nat.le_refl _, h, fun j hj w => e ⟨j, hj, w⟩⟩
theorem rch_dst : Rch ps S s x ↔ ∃ t, Dst ps S s t x := ⟨fun ⟨_, h⟩ => let ⟨j, _, d⟩ := h.dst; ⟨j, d⟩, fun ⟨t, h⟩ => ⟨t, h.1⟩⟩
theorem Dst.back (h : Dst ps S s (t + 1) y) : ∃ x, Dst ps S s t x ∧ y ∈ nbr ps x ∧ y ∈ S := by
  obtain ⟨⟨x, h1, h2, h3⟩, m⟩ := h
  exact ⟨x, ⟨h1, fun j hj w => m (j + 1) (by omega) ⟨x, w, h2, h3⟩⟩, h2, h3⟩
theorem nodup_len : ∀ {l m : List Int}, l.Nodup → (∀ x, x ∈ l → x ∈ m) → l.length ≤ m.length
  | [], _, _, _ => Nat.zero_le _
  | a :: l, m, nd, h => by
    rw [List.nodup_cons] at nd
    have ha : a ∈ m := h a List.mem_cons_self
    have := nodup_len (l := l) (m := m.erase a) nd.2 fun x hx => (List.mem_erase_of_ne fun e => nd.1 (by rw [← e]; exact hx)).mpr (h x (List.mem_cons_of_mem _ hx))
    have e := List.length_erase_of_mem ha
    have p := List.length_pos_of_mem ha
    rw [List.length_cons]; omega
theorem nodup_eq {l m : List Int} (nl : l.Nodup) (h : ∀ x, x ∈ l → x ∈ m) (e : m.length ≤ l.length) : ∀ x, x ∈ m → x ∈ l := fun x hx => by
  by_cases c : x ∈ l
  · exact c
  · have := nodup_len (l := l) (m := m.erase x) nl fun y hy => (List.mem_erase_of_ne fun z => c (by rw [← z]; exact hy)).mpr (h y hy)
    have e2 := List.length_erase_of_mem hx
    have p := List.length_pos_of_mem hx
    omega
/-- as many unlike standings as the distance and one -/
theorem Dst.chain (hs : s ∈ S) : ∀ {t : Nat} {x : Int}, Dst ps S s t x → ∃ l : List Int, l.length = t + 1 ∧ l.Nodup ∧ (∀ y, y ∈ l → y ∈ S) ∧ ∀ y, y ∈ l → ∃ j, j ≤ t ∧ Dst ps S s j y
  | 0, x, h => ⟨[x], rfl, by simp, fun y hy => by rw [List.mem_singleton.mp hy]; exact Wk.mem hs h.1, fun y hy => by rw [List.mem_singleton.mp hy]; exact ⟨0, Nat.le_refl _, h⟩⟩
  | t + 1, x, h => by
    obtain ⟨z, hz, _, _⟩ := h.back
    obtain ⟨l, h1, h2, h3, h4⟩ := Dst.chain hs hz
    refine ⟨x :: l, by rw [List.length_cons, h1], List.nodup_cons.mpr ⟨fun hx => ?_, h2⟩, fun y hy => ?_, fun y hy => ?_⟩
    · obtain ⟨j, hj, d⟩ := h4 x hx
      have := d.uniq h
      omega
    · rcases List.mem_cons.mp hy with rfl | hy
      · exact Wk.mem hs h.1
      · exact h3 y hy
    · rcases List.mem_cons.mp hy with rfl | hy
      · exact ⟨t + 1, Nat.le_refl _, h⟩
      · obtain ⟨j, hj, d⟩ := h4 y hy
        exact ⟨j, by omega, d⟩
theorem Dst.lt (hs : s ∈ S) (h : Dst ps S s t x) : t < S.length := by
  obtain ⟨l, h1, h2, h3, _⟩ := h.chain hs
  have := nodup_len h2 h3
  omega
def HangsP (ps : List (Int × Int)) (S : List Int) : Prop := ∀ x ∈ S, ∀ y ∈ S, Rch ps S x y
theorem hangs_from (hs : s ∈ S) : HangsP ps S ↔ ∀ x ∈ S, Rch ps S s x := ⟨fun h x hx => h s hs x hx, fun h x hx y hy => ((h x hx).symm hs).trans (h y hy)⟩
theorem HangsP.congr {S' : List Int} (h : ∀ x, x ∈ S ↔ x ∈ S') : HangsP ps S ↔ HangsP ps S' :=
  ⟨fun g x hx y hy => (g x ((h x).mpr hx) y ((h y).mpr hy)).congr fun z => (h z).mp, fun g x hx y hy => (g x ((h x).mp hx) y ((h y).mp hy)).congr fun z => (h z).mpr⟩
theorem HangsP.one : HangsP ps [x] := fun a ha b hb => by
  rw [List.mem_singleton.mp ha, List.mem_singleton.mp hb]; exact .refl
theorem HangsP.more {a : Int} (h : HangsP ps S) (ha : a ∈ S) (hx : x ∈ nbr ps a) : HangsP ps (S ++ [x]) := by
  refine (hangs_from (s := a) (List.mem_append_left _ ha)).mpr fun y hy => ?_
  rcases List.mem_append.mp hy with hy | hy
  · exact (h a ha y hy).congr fun z hz => List.mem_append_left _ hz
  · rw [List.mem_singleton.mp hy]
    exact Rch.refl.step hx (by simp)
end
/-! ### dicts of ints -/
def kvT (x : Int) : Key × D := (.inl x, .bl true)
theorem dval_ints {κ : Int → Key × D} (hk : ∀ x, (κ x).1 = .inl x) {ks : List Int} {x : Int} : (dval (ks.map κ) (.inl x)).isSome = decide (x ∈ ks) := by
  induction ks with
  | nil => rfl
  | cons q ks ih =>
    rw [List.map_cons, show κ q = ((.inl q : Key), (κ q).2) from Prod.ext (hk q) rfl, dval_cons]
    by_cases e : q = x
    · subst e; simp
    · rw [if_neg fun z => e (Sum.inl.inj z), ih]
      have e2 : ¬ x = q := fun z => e z.symm
      simp [e2]
theorem dput_new {κ : Type} [DecidableEq κ] {l : List (κ × D)} {k : κ} {d : D} (h : dval l k = none) : dput l k d = l ++ [(k, d)] := by
  unfold dput
  rw [h]; rfl
theorem none_of {o : Option D} (h : o.isSome = false) : o = none := by cases o <;> first | rfl | cases h
theorem dput_kvT {ks : List Int} {x : Int} (h : x ∉ ks) : dput (ks.map kvT) (.inl x) (.bl true) = (ks ++ [x]).map kvT := by
  rw [dput_new (none_of (by rw [dval_ints (fun _ => rfl), decide_eq_false h])), List.map_append]; rfl
/-- the lot as a dict -/
structure InsAt (M : Mp) (d : Addr) (ns : List Int) : Prop where
  ex : ∃ kvs, M d = some (.dK kvs) ∧ kvs.length = ns.length ∧ ∀ x : Int, (dval kvs (.inl x)).isSome = decide (x ∈ ns)
theorem InsAt.of {M : Mp} {d : Addr} {ns : List Int} (h : M d = some (.dK (ns.map kvT))) : InsAt M d ns := ⟨_, h, by simp, fun x => dval_ints fun _ => rfl⟩
theorem InsAt.keep {M M' : Mp} {d : Addr} {ns : List Int} (h : InsAt M d ns) (e : M' d = M d) : InsAt M' d ns := ⟨by rw [e]; exact h.ex⟩
theorem InsAt.has {M : Mp} {d : Addr} {ns : List Int} (h : InsAt M d ns) (x : Int) : inV' M (.int x) (.ref d) = some (decide (x ∈ ns)) := by
  obtain ⟨kvs, h1, _, h3⟩ := h.ex
  simp only [inV', h1, dLook, keyOf, Option.map_some, h3]
theorem has_kvT {M : Mp} {d : Addr} {ks : List Int} (h : M d = some (.dK (ks.map kvT))) (x : Int) : inV' M (.int x) (.ref d) = some (decide (x ∈ ks)) := (InsAt.of h).has x
theorem fold_kvT : ∀ (ns acc : List Int), (acc ++ ns).Nodup → (ns.map D.int).foldl (fun a d => dput a ((match d with | .int i => .inl i | _ => .inl 0) : Key) (.bl true)) (acc.map kvT) = (acc ++ ns).map kvT
  | [], acc, _ => by simp
  | x :: ns, acc, h => by
    rw [List.map_cons, List.foldl_cons]
    have hx : x ∉ acc := fun z => by
      rw [List.nodup_append] at h
      exact h.2.2 x z x List.mem_cons_self rfl
    have h2 : ((acc ++ [x]) ++ ns).Nodup := by rw [List.append_assoc]; exact h
    show List.foldl _ (dput (acc.map kvT) (.inl x) (.bl true)) _ = _
    rw [dput_kvT hx, fold_kvT ns (acc ++ [x]) h2, List.append_assoc]
    rfl

/-- a right lot -/
structure LotOk (n : Int) (ns : List Int) : Prop where
  ne : ns ≠ []
  nd : ns.Nodup
  rg : ∀ x ∈ ns, 0 ≤ x ∧ x < n
theorem LotOk.len {n : Int} {ns : List Int} (h : LotOk n ns) : (ns.length : Int) ≤ n := by
  have := nodup_len (l := ns) (m := (List.range n.toNat).map fun (i : Nat) => (i : Int)) h.nd fun x hx => by
    have := h.rg x hx
    exact List.mem_map.mpr ⟨x.toNat, List.mem_range.mpr (by omega), by omega⟩
  rw [List.length_map, List.length_range] at this
  obtain ⟨x, hx⟩ := List.exists_mem_of_ne_nil _ h.ne
  have := h.rg x hx
  omega
theorem ixN_of {n : Nat} {i : Int} {j : Nat} (h : i = (j : Int)) (hj : j < n) : ixN n i = some j := by
  subst h
  unfold ixN
  rw [if_pos (by omega), if_pos (by omega)]
  rfl
theorem eraseIdx_perm {α : Type} : ∀ {l : List α} {j : Nat} {x : α}, l[j]? = some x → (l.eraseIdx j ++ [x]).Perm l
  | y :: l, 0, x, h => by
    simp at h; subst h
    show (l ++ [y]).Perm (y :: l)
    exact List.perm_append_comm
  | y :: l, j + 1, x, h => by
    show (y :: (l.eraseIdx j ++ [x])).Perm (y :: l)
    exact List.Perm.cons _ (eraseIdx_perm (by simpa using h))
  | [], j, x, h => by simp at h

def kvN (p : Int × Nat) : Key × D := (.inl p.1, .int (p.2 : Int))
theorem dval_keys {β : Type} {f : β → Key × D} {key : β → Int} (hk : ∀ b, (f b).1 = .inl (key b)) {l : List β} {x : Int} : (dval (l.map f) (.inl x)).isSome = decide (x ∈ l.map key) := by
  induction l with
  | nil => rfl
  | cons q l ih =>
    rw [List.map_cons, List.map_cons, show f q = ((.inl (key q) : Key), (f q).2) from Prod.ext (hk q) rfl, dval_cons]
    by_cases e : key q = x
    · subst e; simp
    · rw [if_neg fun z => e (Sum.inl.inj z), ih]
      have e2 : ¬ x = key q := fun z => e z.symm
      simp [e2]
theorem has_kvN {M : Mp} {r : Addr} {kt : List (Int × Nat)} (h : M r = some (.dK (kt.map kvN))) (x : Int) : inV' M (.int x) (.ref r) = some (decide (x ∈ kt.map (·.1))) := by
  simp only [inV', h, dLook, keyOf, Option.map_some, dval_keys (f := kvN) (key := (·.1)) fun _ => rfl]
theorem store_kvN {M : Mp} {r : Addr} {kt : List (Int × Nat)} {x : Int} {t : Nat} (h : M r = some (.dK (kt.map kvN))) (hx : x ∉ kt.map (·.1)) (hl : kt.length ≤ 1000000) : dStore M r (.int x) (.int (t : Int)) = some (mset M r (.dK ((kt ++ [(x, t)]).map kvN))) := by
  simp only [dStore, h, keyOf, Option.bind_some, List.length_map]
  rw [if_pos (len_lt (by omega)), dput_new (none_of (by rw [dval_keys (key := (·.1)) fun _ => rfl, decide_eq_false hx])), List.map_append]
  rfl
/-- the flood behind t turns -/
structure FlSt (ps : List (Int × Int)) (ns : List Int) (s : Int) (t : Nat) (kt : List (Int × Nat)) (fr : List Int) : Prop where
  nd : (kt.map (·.1)).Nodup
  mem : ∀ x j, (x, j) ∈ kt ↔ j ≤ t ∧ Dst ps ns s j x
  fnd : fr.Nodup
  fmem : ∀ x, x ∈ fr ↔ Dst ps ns s t x
/-- .. within a turn -/
structure FlIn (ps : List (Int × Int)) (ns : List Int) (s : Int) (t : Nat) (kt : List (Int × Nat)) (la : List Int) : Prop where
  nd : (kt.map (·.1) ++ la).Nodup
  lmem : ∀ y, y ∈ la → Dst ps ns s (t + 1) y
section
variable {ps : List (Int × Int)} {ns : List Int} {s x y : Int} {t : Nat} {kt : List (Int × Nat)} {fr la : List Int}
theorem FlSt.new (h : FlSt ps ns s t kt fr) (hx : Dst ps ns s t x) (hy : y ∈ nbr ps x) (hn : y ∈ ns) (hk : y ∉ kt.map (·.1)) : Dst ps ns s (t + 1) y :=
  ⟨⟨x, hx.1, hy, hn⟩, fun j hj w => by
    obtain ⟨i, hi, d⟩ := w.dst
    exact hk (List.mem_map.mpr ⟨(y, i), (h.mem y i).mpr ⟨by omega, d⟩, rfl⟩)⟩
theorem FlIn.add (h : FlIn ps ns s t kt la) (hy : Dst ps ns s (t + 1) y) (hk : y ∉ kt.map (·.1) ++ la) : FlIn ps ns s t kt (la ++ [y]) := by
  refine ⟨?_, fun z hz => ?_⟩
  · rw [← List.append_assoc, List.nodup_append]
    exact ⟨h.nd, by simp, fun a ha b hb => by
      rw [List.mem_singleton.mp hb]
      intro e
      exact hk (e ▸ ha)⟩
  · rcases List.mem_append.mp hz with hz | hz
    · exact h.lmem z hz
    · rw [List.mem_singleton.mp hz]; exact hy
theorem FlIn.len (hs : s ∈ ns) (hst : FlSt ps ns s t kt fr) (h : FlIn ps ns s t kt la) : kt.length + la.length ≤ ns.length := by
  have := nodup_len (l := kt.map (·.1) ++ la) (m := ns) h.nd fun z hz => by
    rcases List.mem_append.mp hz with hz | hz
    · obtain ⟨⟨a, j⟩, ha, rfl⟩ := List.mem_map.mp hz
      exact Wk.mem hs ((hst.mem a j).mp ha).2.1
    · exact Wk.mem hs (h.lmem z hz).1
  rw [List.length_append, List.length_map] at this
  exact this
theorem FlSt.next (hst : FlSt ps ns s t kt fr) (h : FlIn ps ns s t kt la) (hc : ∀ x, x ∈ fr → ∀ y, y ∈ nbr ps x → y ∈ ns → y ∈ kt.map (·.1) ++ la) : FlSt ps ns s (t + 1) (kt ++ la.map fun y => (y, t + 1)) la := by
  have em : (kt ++ la.map fun y => (y, t + 1)).map (·.1) = kt.map (·.1) ++ la := by
    rw [List.map_append, List.map_map]
    congr 1
    exact List.map_id _
  have full : ∀ y, Dst ps ns s (t + 1) y → y ∈ la := fun y hy => by
    obtain ⟨x, hx, h1, h2⟩ := hy.back
    rcases List.mem_append.mp (hc x ((hst.fmem x).mpr hx) y h1 h2) with z | z
    · obtain ⟨⟨a, j⟩, ha, rfl⟩ := List.mem_map.mp z
      have := ((hst.mem a j).mp ha)
      have e := this.2.uniq hy
      omega
    · exact z
  refine ⟨by rw [em]; exact h.nd, fun z j => ?_, (List.nodup_append.mp h.nd).2.1, fun z => ⟨h.lmem z, full z⟩⟩
  rw [List.mem_append, hst.mem, List.mem_map]
  constructor
  · rintro (⟨h1, h2⟩ | ⟨y, hy, e⟩)
    · exact ⟨by omega, h2⟩
    · cases e; exact ⟨Nat.le_refl _, h.lmem _ hy⟩
  · rintro ⟨h1, h2⟩
    by_cases e : j = t + 1
    · subst e; exact .inr ⟨z, full z h2, rfl⟩
    · exact .inl ⟨by omega, h2⟩
end

/-! ### breadth first: behind k turns -/
structure Bfs (ps : List (Int × Int)) (ns : List Int) (s : Int) (kt : List (Int × Nat)) (k : Nat) : Prop where
  nd : (kt.map (·.1)).Nodup
  dst : ∀ x j, (x, j) ∈ kt → Dst ps ns s j x
  srt : kt.Pairwise fun a b => a.2 ≤ b.2
  s0 : s ∈ kt.map (·.1)
  kl : k ≤ kt.length
  cl : ∀ x j, (x, j) ∈ kt.take k → ∀ y, y ∈ nbr ps x → y ∈ ns → y ∈ kt.map (·.1)
  win : ∀ x j, kt[k]? = some (x, j) → (∀ y i, (y, i) ∈ kt → i ≤ j + 1) ∧ ∀ i y, i ≤ j → Dst ps ns s i y → y ∈ kt.map (·.1)
section
variable {ps : List (Int × Int)} {ns : List Int} {s x y : Int} {j k : Nat} {kt : List (Int × Nat)} {la : List Int}
theorem Bfs.zero : Bfs ps ns s [(s, 0)] 0 := by
  refine ⟨by simp, fun x j h => ?_, by simp, by simp, Nat.zero_le _, fun x j h => by simp at h, fun x j h => ?_⟩
  · rw [List.mem_singleton] at h
    cases h
    exact ⟨rfl, fun j hj => absurd hj (Nat.not_lt_zero j)⟩
  · simp at h
    obtain ⟨rfl, rfl⟩ := h
    refine ⟨fun y i h => ?_, fun i y hi h => ?_⟩
    · rw [List.mem_singleton] at h; cases h; omega
    · have : i = 0 := by omega
      subst this
      rw [show y = s from h.1]; simp
theorem Bfs.new (h : Bfs ps ns s kt k) (hk : kt[k]? = some (x, j)) (hy : y ∈ nbr ps x) (hn : y ∈ ns) (hm : y ∉ kt.map (·.1)) : Dst ps ns s (j + 1) y :=
  ⟨⟨x, (h.dst x j (List.mem_of_getElem? hk)).1, hy, hn⟩, fun i hi w => by
    obtain ⟨i', hi', d⟩ := w.dst
    exact hm ((h.win x j hk).2 i' y (by omega) d)⟩
theorem Bfs.len (hs : s ∈ ns) (hb : Bfs ps ns s kt k) (h : FlIn ps ns s j kt la) : kt.length + la.length ≤ ns.length := by
  have := nodup_len (l := kt.map (·.1) ++ la) (m := ns) h.nd fun z hz => by
    rcases List.mem_append.mp hz with hz | hz
    · obtain ⟨⟨a, i⟩, ha, rfl⟩ := List.mem_map.mp hz
      exact Wk.mem hs (hb.dst a i ha).1
    · exact Wk.mem hs (h.lmem z hz).1
  rw [List.length_append, List.length_map] at this
  exact this
theorem keys_app (la : List Int) : (kt ++ la.map fun y => (y, j)).map (·.1) = kt.map (·.1) ++ la := by
  rw [List.map_append, List.map_map]
  congr 1
  exact List.map_id _
theorem Bfs.next (h : Bfs ps ns s kt k) (hk : kt[k]? = some (x, j)) (hf : FlIn ps ns s j kt la) (hc : ∀ y, y ∈ nbr ps x → y ∈ ns → y ∈ kt.map (·.1) ++ la) : Bfs ps ns s (kt ++ la.map fun y => (y, j + 1)) (k + 1) := by
  have hkl : k < kt.length := (List.getElem?_eq_some_iff.mp hk).1
  have xm : (x, j) ∈ kt := List.mem_of_getElem? hk
  have tk : (kt ++ la.map fun y => (y, j + 1)).take (k + 1) = kt.take k ++ [(x, j)] := by
    rw [List.take_append_of_le_length (by omega), take_succ_of hk]
  have sr : (kt ++ la.map fun y => (y, j + 1)).Pairwise fun a b => a.2 ≤ b.2 := by
    rw [List.pairwise_append]
    refine ⟨h.srt, ?_, fun a ha b hb => ?_⟩
    · rw [List.pairwise_map]
      exact List.pairwise_of_forall fun _ _ => Nat.le_refl _
    · obtain ⟨y, _, rfl⟩ := List.mem_map.mp hb
      exact (h.win x j hk).1 a.1 a.2 ha
  refine ⟨by rw [keys_app]; exact hf.nd, fun z i hz => ?_, sr, by rw [keys_app]; exact List.mem_append_left _ h.s0, by rw [List.length_append]; omega, fun z i hz y hy hn => ?_, fun z i hz => ?_⟩
  · rcases List.mem_append.mp hz with hz | hz
    · exact h.dst z i hz
    · obtain ⟨y, hy, e⟩ := List.mem_map.mp hz
      cases e
      exact hf.lmem _ hy
  · rw [keys_app]
    rw [tk] at hz
    rcases List.mem_append.mp hz with hz | hz
    · exact List.mem_append_left _ (h.cl z i hz y hy hn)
    · rw [List.mem_singleton] at hz
      cases hz
      exact hc y hy hn
  · have hk2 : (kt ++ la.map fun y => (y, j + 1))[k]? = some (x, j) := by rw [List.getElem?_append_left hkl]; exact hk
    have lo : j ≤ i := pw_next sr hk2 hz
    have all : ∀ y i, (y, i) ∈ kt ++ la.map (fun y => (y, j + 1)) → i ≤ j + 1 := fun y i hm => by
      rcases List.mem_append.mp hm with hm | hm
      · exact (h.win x j hk).1 y i hm
      · obtain ⟨_, _, e⟩ := List.mem_map.mp hm
        cases e
        exact Nat.le_refl _
    have hi := all z i (List.mem_of_getElem? hz)
    refine ⟨fun y i' hm => Nat.le_trans (all y i' hm) (by omega), fun i' y hi' hd => ?_⟩
    rw [keys_app]
    by_cases e : i' ≤ j
    · exact List.mem_append_left _ ((h.win x j hk).2 i' y e hd)
    · have e2 : i' = j + 1 := by omega
      subst e2
      obtain ⟨u, hu, h1, h2⟩ := hd.back
      obtain ⟨⟨u', j'⟩, hm, rfl⟩ := List.mem_map.mp ((h.win x j hk).2 j u (Nat.le_refl _) hu)
      have e3 : j' = j := (h.dst _ _ hm).uniq hu
      subst e3
      obtain ⟨m, hm2⟩ := List.mem_iff_getElem?.mp hm
      have ml := (List.getElem?_eq_some_iff.mp hm2).1
      by_cases hmk : m < k
      · exact List.mem_append_left _ (h.cl u' j' (List.mem_iff_getElem?.mpr ⟨m, by rw [List.getElem?_take, if_pos hmk]; exact hm2⟩) y h1 h2)
      · by_cases hmk2 : m = k
        · subst hmk2
          rw [hm2] at hk
          cases hk
          exact hc y h1 h2
        · exfalso
          have hm3 : (kt ++ la.map fun y => (y, j' + 1))[m]? = some (u', j') := by rw [List.getElem?_append_left ml]; exact hm2
          obtain ⟨a1, b1⟩ := List.getElem?_eq_some_iff.mp hz
          obtain ⟨a2, b2⟩ := List.getElem?_eq_some_iff.mp hm3
          by_cases hm4 : m = k + 1
          · subst hm4
            rw [b1] at b2
            cases b2
            omega
          · have := List.pairwise_iff_getElem.mp sr (k + 1) m a1 a2 (by omega)
            rw [b1, b2] at this
            simp only at this
            omega
theorem Bfs.full (h : Bfs ps ns s kt kt.length) : ∀ x j, (x, j) ∈ kt ↔ Dst ps ns s j x := fun x j => ⟨h.dst x j, fun hd => by
  have key : ∀ j x, Dst ps ns s j x → x ∈ kt.map (·.1) → (x, j) ∈ kt := fun j x hd hm => by
    obtain ⟨⟨a, i⟩, ha, rfl⟩ := List.mem_map.mp hm
    rw [hd.uniq (h.dst a i ha)]
    exact ha
  refine key j x hd ?_
  induction j generalizing x with
  | zero => rw [show x = s from hd.1]; exact h.s0
  | succ j ih =>
    obtain ⟨z, hz, h1, h2⟩ := hd.back
    exact h.cl z j (by rw [List.take_length]; exact key j z hz (ih z hz)) x h1 h2⟩
theorem dval_at {kt : List (Int × Nat)} (nd : (kt.map (·.1)).Nodup) {x : Int} {t : Nat} (h : (x, t) ∈ kt) : dval (kt.map kvN) (.inl x) = some (.int (t : Int)) := by
  induction kt with
  | nil => cases h
  | cons p kt ih =>
    rw [List.map_cons, List.nodup_cons] at nd
    show dval (((.inl p.1 : Key), D.int (p.2 : Int)) :: kt.map kvN) _ = _
    rw [dval_cons]
    rcases List.mem_cons.mp h with e | h
    · subst e; rw [if_pos rfl]
    · rw [if_neg fun z => nd.1 (by rw [Sum.inl.inj z]; exact List.mem_map.mpr ⟨_, h, rfl⟩)]
      exact ih nd.2 h
theorem ixL_at {M : Mp} {l : List D} {i : Int} {k : Nat} {d : D} (hi : i = (k : Int)) (h : l[k]? = some d) : dIxV M (.lst l) (.int i) = some d := atI_at hi h
theorem ixT_at {M : Mp} {l : List D} {i : Int} {k : Nat} {d : D} (hi : i = (k : Int)) (h : l[k]? = some d) : dIxV M (.tup l) (.int i) = some d := atI_at hi h
theorem any_pr (l : List (Int × Int)) (p : Int × Int) : ((l.map prD).any fun z => D.eq z (prD p)) = decide (p ∈ l) := by
  induction l with
  | nil => rfl
  | cons x l ih =>
    rw [List.map_cons, List.any_cons, ih, eq_pr]
    by_cases e : x = p
    · subst e; simp
    · have e2 : ¬ p = x := fun z => e z.symm
      simp [e, e2]
/-- the way: each time the least that is one push nearer -/
def IsWay (ps : List (Int × Int)) (ns : List Int) (g : Int) : Nat → Int → List Int → Prop
  | 0, x, l => l = [x]
  | t + 1, x, l => ∃ y r, l = x :: r ∧ IsWay ps ns g t y r ∧ y ∈ nbr ps x ∧ Dst ps ns g t y ∧ ∀ z, z ∈ nbr ps x → Dst ps ns g t z → y ≤ z
theorem IsWay.uniq {g : Int} : ∀ {t : Nat} {x : Int} {l m : List Int}, IsWay ps ns g t x l → IsWay ps ns g t x m → l = m
  | 0, _, _, _, h1, h2 => h1.trans h2.symm
  | t + 1, _, _, _, ⟨y, r, e, h, a, b, c⟩, ⟨y', r', e', h', a', b', c'⟩ => by
    have q : y = y' := Int.le_antisymm (c y' a' b') (c' y a b)
    subst q
    rw [e, e', IsWay.uniq h h']
theorem wk_congr {ms : List Int} (h : ∀ z, z ∈ ns ↔ z ∈ ms) : ∀ {t : Nat} {x : Int}, Wk ps ns s t x ↔ Wk ps ms s t x
  | 0, _ => Iff.rfl
  | t + 1, x => ⟨fun ⟨z, a, b, c⟩ => ⟨z, (wk_congr h).mp a, b, (h x).mp c⟩, fun ⟨z, a, b, c⟩ => ⟨z, (wk_congr h).mpr a, b, (h x).mpr c⟩⟩
theorem dst_congr {ms : List Int} (h : ∀ z, z ∈ ns ↔ z ∈ ms) {t : Nat} {x : Int} : Dst ps ns s t x ↔ Dst ps ms s t x := by
  unfold Dst
  rw [wk_congr h]
  exact and_congr Iff.rfl ⟨fun g j hj w => g j hj ((wk_congr h).mpr w), fun g j hj w => g j hj ((wk_congr h).mp w)⟩
theorem IsWay.congr {ms : List Int} {g : Int} (h : ∀ z, z ∈ ns ↔ z ∈ ms) : ∀ {t : Nat} {x : Int} {l : List Int}, IsWay ps ns g t x l → IsWay ps ms g t x l
  | 0, _, _, h1 => h1
  | t + 1, _, _, ⟨y, r, e, h1, a, b, c⟩ => ⟨y, r, e, IsWay.congr h h1, a, (dst_congr h).mp b, fun z h2 h3 => c z h2 ((dst_congr h).mpr h3)⟩
theorem IsWay.len {g : Int} : ∀ {t : Nat} {x : Int} {l : List Int}, IsWay ps ns g t x l → l.length = t + 1
  | 0, _, _, h => by rw [show _ = _ from h]; rfl
  | t + 1, _, _, ⟨y, r, e, h, _⟩ => by rw [e, List.length_cons, h.len]
theorem IsWay.head {g : Int} : ∀ {t : Nat} {x : Int} {l : List Int}, IsWay ps ns g t x l → l[0]? = some x
  | 0, _, _, h => by rw [show _ = _ from h]; rfl
  | t + 1, _, _, ⟨y, r, e, h, _⟩ => by rw [e]; rfl
end

/-- all but a few as they were -/
theorem Ext.cutL {M M' : Mp} {S : List Addr} (a : Ext M M' S) : ∃ M2, MLe M2 M' ∧ Agree M M2 S ∧ ∀ q, q ∈ S → M2 q = M' q := by
  refine ⟨fun q => if q ∈ S then M' q else M q, fun q o h => ?_, fun q h => if_neg h, fun q h => if_pos h⟩
  by_cases e : q ∈ S
  · simp only [if_pos e] at h; exact h
  · simp only [if_neg e] at h; exact a q o e h
/-! ### books -/
structure Cl_TB (K : PySem.W.Frag) (mg : Str → Option Value) (C : Addr) : Prop where
  cl : Cls K C
  n_kept_size : NoAttr K C "kept_size"
  n_kept_ties : NoAttr K C "kept_ties"
  n_kept_facts : NoAttr K C "kept_facts"
def bookF (n : Int) (ps : List (Int × Int)) (d : Addr) : List (Str × D) := [("kept_size", .int n), ("kept_ties", .tup (ps.map prD)), ("kept_facts", .ref d)]
def allOf (n : Int) : List Int := (List.range n.toNat).map fun (i : Nat) => (i : Int)
theorem allOf_mem {n x : Int} : x ∈ allOf n ↔ 0 ≤ x ∧ x < n := by
  unfold allOf
  rw [List.mem_map]
  constructor
  · rintro ⟨i, hi, rfl⟩
    have := List.mem_range.mp hi
    omega
  · rintro ⟨h0, h1⟩
    exact ⟨x.toNat, List.mem_range.mpr (by omega), by omega⟩
theorem allOf_nodup (n : Int) : (allOf n).Nodup := by
  unfold allOf
  refine List.pairwise_map.mpr ((List.nodup_range (n := n.toNat)).imp ?_)
  intro a b h e
  omega
theorem allOf_len (n : Int) : (allOf n).length = n.toNat := by unfold allOf; simp
theorem rgD_all {n : Int} : rgD 0 n.toNat = (allOf n).map .int := by
  unfold rgD allOf
  rw [List.map_map]
  apply List.map_congr_left
  intro i _
  show D.int (0 + (i : Int)) = D.int (i : Int)
  rw [Int.zero_add]
structure BookOk (n : Int) (ps : List (Int × Int)) : Prop where
  lo : 1 ≤ n
  hi : n ≤ 8
  pr : PrsOk n ps
  hang : HangsP ps (allOf n)
theorem bne : (¬ ("kept_size" : Str) = "kept_ties") ∧ (¬ ("kept_size" : Str) = "kept_facts") ∧ (¬ ("kept_ties" : Str) = "kept_facts") := by decide +kernel
theorem fb_size (n : Int) (ps : List (Int × Int)) (d : Addr) : (bookF n ps d).lookup ("kept_size" : Str) = some (.int n) := rfl
theorem fb_facts (n : Int) (ps : List (Int × Int)) (d : Addr) : (bookF n ps d).lookup ("kept_facts" : Str) = some (.ref d) := rfl
structure BookAt (C : Addr) (M : Mp) (p : Addr) (n : Int) (ps : List (Int × Int)) (d : Addr) : Prop where
  ob : M p = some (.ins C (bookF n ps d))
  fc : M d = some (.dK [(.inr "tied", .lst (rowsD n ps))])
  ok : BookOk n ps
theorem BookAt.ne {C : Addr} {M : Mp} {p : Addr} {n : Int} {ps : List (Int × Int)} {d : Addr} (h : BookAt C M p n ps d) : p ≠ d := fun e => by
  have := h.ob
  rw [e, h.fc] at this
  cases this
theorem BookAt.keep {C : Addr} {M M' : Mp} {S : List Addr} {p : Addr} {n : Int} {ps : List (Int × Int)} {d : Addr} (h : BookAt C M p n ps d) (a : Agree M M' S) (hp : p ∉ S) (hd : d ∉ S) : BookAt C M' p n ps d :=
  ⟨by rw [a p hp]; exact h.ob, by rw [a d hd]; exact h.fc, h.ok⟩
theorem BookAt.ext {C : Addr} {M M' : Mp} {S : List Addr} {p : Addr} {n : Int} {ps : List (Int × Int)} {d : Addr} (h : BookAt C M p n ps d) (a : Ext M M' S) (hp : p ∉ S) (hd : d ∉ S) : BookAt C M' p n ps d :=
  ⟨a _ _ hp h.ob, a _ _ hd h.fc, h.ok⟩
/-- pairs of at most eight -/
def prs8 : List (Int × Int) := (List.range 8).flatMap fun (b : Nat) => (List.range b).map fun (a : Nat) => ((a : Int), (b : Int))
theorem nodup_lenG {α : Type} [BEq α] [LawfulBEq α] : ∀ {l m : List α}, l.Nodup → (∀ x, x ∈ l → x ∈ m) → l.length ≤ m.length
  | [], _, _, _ => Nat.zero_le _
  | a :: l, m, nd, h => by
    rw [List.nodup_cons] at nd
    have ha : a ∈ m := h a List.mem_cons_self
    have := nodup_lenG (l := l) (m := m.erase a) nd.2 fun x hx => (List.mem_erase_of_ne fun e => nd.1 (by rw [← e]; exact hx)).mpr (h x (List.mem_cons_of_mem _ hx))
    have e := List.length_erase_of_mem ha
    have p := List.length_pos_of_mem ha
    rw [List.length_cons]; omega
theorem PrsOk.nodup {n : Int} {ps : List (Int × Int)} (h : PrsOk n ps) : ps.Nodup := h.lt.imp fun {a b} h e => by
  subst e
  unfold prLt at h
  omega
theorem PrsOk.len28 {n : Int} {ps : List (Int × Int)} (h : PrsOk n ps) (hn : n ≤ 8) : ps.length ≤ 28 := by
  have := nodup_lenG (l := ps) (m := prs8) h.nodup fun p hp => by
    obtain ⟨a, b⟩ := p
    have := h.ok _ hp
    unfold prOk at this
    simp only at this
    unfold prs8
    rw [List.mem_flatMap]
    have ea : (a.toNat : Int) = a := Int.toNat_of_nonneg (by omega)
    have eb : (b.toNat : Int) = b := Int.toNat_of_nonneg (by omega)
    exact ⟨b.toNat, List.mem_range.mpr (by omega), List.mem_map.mpr ⟨a.toNat, List.mem_range.mpr (by omega), by rw [ea, eb]⟩⟩
  have e : prs8.length = 28 := by decide +kernel
  omega
theorem Rch.more {ps qs : List (Int × Int)} {S : List Int} {s x : Int} (h : ∀ x y, y ∈ nbr ps x → y ∈ nbr qs x) : Rch ps S s x → Rch qs S s x := by
  rintro ⟨t, ht⟩
  induction t generalizing x with
  | zero => exact ⟨0, ht⟩
  | succ t ih =>
    obtain ⟨z, h1, h2, h3⟩ := ht
    exact (ih h1).step (h _ _ h2) h3
theorem nbr_app {ps qs : List (Int × Int)} {x y : Int} (h : y ∈ nbr ps x) : y ∈ nbr (ps ++ qs) x := by
  rw [nbr_mem] at h ⊢
  rcases h with h | h
  · exact .inl (List.mem_append_left _ h)
  · exact .inr (List.mem_append_left _ h)
/-- pairs of a book under way -/
structure BSt (M : Mp) (p : Addr) (n s : Int) (R : Int → Prop) (b : Nat) (M' : Mp) (l : Addr) (qs : List (Int × Int)) : Prop where
  dice : DiceAt M' p
  ext : Ext M M' [p]
  fr : M l = none
  lst : M' l = some (.lst (qs.map prD))
  ok : ∀ q ∈ qs, (0 ≤ q.1 ∧ q.1 < n) ∧ (0 ≤ q.2 ∧ q.2 < n) ∧ q.1 ≠ q.2
  len : qs.length ≤ b
  rch : ∀ x, R x → Rch qs (allOf n) s x
section
variable {M : Mp} {p : Addr} {n s : Int} {R R' : Int → Prop} {b b' : Nat} {M' M2 : Mp} {l l' : Addr} {qs ms : List (Int × Int)}
theorem BSt.ne (W : BSt M p n s R b M' l qs) : l ≠ p := W.dice.ne W.lst
theorem BSt.to (W : BSt M p n s R b M' l qs) (d : DiceAt M2 p) (a : Agree M' M2 [p]) : BSt M p n s R b M2 l qs :=
  ⟨d, W.ext.trans a.ext, W.fr, by rw [a l (by simpa using W.ne)]; exact W.lst, W.ok, W.len, W.rch⟩
theorem BSt.weak (W : BSt M p n s R b M' l qs) (h : b ≤ b') : BSt M p n s R b' M' l qs := ⟨W.dice, W.ext, W.fr, W.lst, W.ok, Nat.le_trans W.len h, W.rch⟩
/-- pairs more, in the same list or a new one -/
theorem BSt.add (W : BSt M p n s R b M' l qs) (hl' : l' = l ∨ M' l' = none) (hm : ∀ q ∈ ms, (0 ≤ q.1 ∧ q.1 < n) ∧ (0 ≤ q.2 ∧ q.2 < n) ∧ q.1 ≠ q.2) (hr : ∀ x, R' x → R x ∨ ∃ y, R y ∧ x ∈ nbr (qs ++ ms) y ∧ (0 ≤ x ∧ x < n)) : BSt M p n s R' (b + ms.length) (mset M' l' (.lst ((qs ++ ms).map prD))) l' (qs ++ ms) := by
  have fr : M l' = none ∧ l' ≠ p := by
    rcases hl' with rfl | h
    · exact ⟨W.fr, W.ne⟩
    · have ne : l' ≠ p := W.dice.some h
      exact ⟨W.ext.fresh (by simpa using ne) h, ne⟩
  refine ⟨W.dice.mset fr.2, W.ext.mset fr.1, fr.1, mset_same, fun q hq => ?_, ?_, fun x hx => ?_⟩
  · rcases List.mem_append.mp hq with h | h
    · exact W.ok q h
    · exact hm q h
  · rw [List.length_append]; have := W.len; omega
  · rcases hr x hx with h | ⟨y, h1, h2, h3⟩
    · exact (W.rch x h).more fun _ _ => nbr_app
    · exact ((W.rch y h1).more fun _ _ => nbr_app).step h2 (allOf_mem.mpr h3)
/-- min and max of each, strictly ascending: a book's ties -/
theorem BSt.book {rs : List (Int × Int)} (n0 : 1 ≤ n) (n8 : n ≤ 8) (W : BSt M p n s (fun x => 0 ≤ x ∧ x < n) b M' l qs) (hs : 0 ≤ s ∧ s < n) (pw : rs.Pairwise prLt) (mem : ∀ r, r ∈ rs ↔ r ∈ qs.map fun q => (if q.2 < q.1 then q.2 else q.1, if q.1 < q.2 then q.2 else q.1)) : BookOk n rs := by
  have nb : ∀ x y, y ∈ nbr qs x → y ∈ nbr rs x := fun x y h => by
    rw [nbr_mem] at h ⊢
    have key : ∀ a b, (a, b) ∈ qs → (a, b) ∈ rs ∨ (b, a) ∈ rs := fun a b hab => by
      have z := (mem _).mpr (List.mem_map.mpr ⟨_, hab, rfl⟩)
      have o := W.ok _ hab
      simp only at z o
      by_cases e : a < b
      · rw [if_neg (by omega), if_pos e] at z; exact .inl z
      · rw [if_pos (by omega), if_neg e] at z; exact .inr z
    rcases h with h | h
    · exact key _ _ h
    · exact (key _ _ h).symm
  refine ⟨n0, n8, ⟨fun r hr => ?_, pw⟩, ?_⟩
  · obtain ⟨q, hq, rfl⟩ := List.mem_map.mp ((mem r).mp hr)
    have o := W.ok q hq
    unfold prOk
    simp only
    by_cases e : q.1 < q.2
    · rw [if_neg (by omega), if_pos e]; omega
    · rw [if_pos (by omega), if_neg e]; omega
  · refine (hangs_from (s := s) (allOf_mem.mpr hs)).mpr fun x hx => ?_
    exact (W.rch x (allOf_mem.mp hx)).more nb
end

def allPrs (n : Int) (m : Nat) : List (Int × Int) := (List.range m).flatMap fun (i : Nat) => (List.range (n - ((i : Int) + 1)).toNat).map fun (j : Nat) => ((i : Int), (i : Int) + 1 + (j : Int))
theorem allPrs_succ (n : Int) (m : Nat) : allPrs n (m + 1) = allPrs n m ++ (List.range (n - ((m : Int) + 1)).toNat).map fun (j : Nat) => ((m : Int), (m : Int) + 1 + (j : Int)) := by
  unfold allPrs
  rw [List.range_succ, List.flatMap_append]
  simp
theorem allPrs_mem {n : Int} {m : Nat} {p : Int × Int} : p ∈ allPrs n m ↔ 0 ≤ p.1 ∧ p.1 < m ∧ p.1 < p.2 ∧ p.2 < n := by
  obtain ⟨a, b⟩ := p
  unfold allPrs
  rw [List.mem_flatMap]
  constructor
  · rintro ⟨i, hi, h⟩
    obtain ⟨j, hj, e⟩ := List.mem_map.mp h
    cases e
    have h1 := List.mem_range.mp hi
    have h2 := List.mem_range.mp hj
    simp only
    omega
  · simp only
    rintro ⟨h0, h1, h2, h3⟩
    refine ⟨a.toNat, List.mem_range.mpr (by omega), List.mem_map.mpr ⟨(b - a - 1).toNat, List.mem_range.mpr (by omega), ?_⟩⟩
    refine Prod.ext ?_ ?_
    · show ((a.toNat : Nat) : Int) = a; omega
    · show ((a.toNat : Nat) : Int) + 1 + (((b - a - 1).toNat : Nat) : Int) = b; omega
theorem allPrs_ok (n : Int) : ∀ m : Nat, PrsOk n (allPrs n m)
  | 0 => ⟨fun _ h => (by cases h), List.Pairwise.nil⟩
  | m + 1 => by
    refine ⟨fun p hp => ?_, ?_⟩
    · have := allPrs_mem.mp hp
      unfold prOk; omega
    · rw [allPrs_succ, List.pairwise_append]
      refine ⟨(allPrs_ok n m).lt, ?_, fun a ha b hb => ?_⟩
      · rw [List.pairwise_map]
        refine (List.pairwise_lt_range (n := (n - ((m : Int) + 1)).toNat)).imp ?_
        intro a b h
        exact .inr ⟨rfl, by show (m : Int) + 1 + (a : Int) < (m : Int) + 1 + (b : Int); omega⟩
      · have h1 := allPrs_mem.mp ha
        obtain ⟨j, _, rfl⟩ := List.mem_map.mp hb
        exact .inl h1.2.1
/-! ### the dice as a list -/
def dilL (ns : List Int) (a r m c : Int) : List D := [.lst (ns.map .int), .int a, .int r, .int m, .int c]
structure DiL (M : Mp) (p : Addr) : Prop where
  ex : ∃ (ns : List Int) (a r m c : Int), M p = some (.lst (dilL ns a r m c)) ∧ 0 ≤ a ∧ 0 ≤ r
theorem DiL.keep {M M' : Mp} {S : List Addr} {p : Addr} (h : DiL M p) (a : Agree M M' S) (hp : p ∉ S) : DiL M' p := ⟨by rw [a p hp]; exact h.ex⟩
theorem DiL.ext {M M' : Mp} {S : List Addr} {p : Addr} (h : DiL M p) (a : Ext M M' S) (hp : p ∉ S) : DiL M' p := by
  obtain ⟨ns, a', r, m, c, h1, h2⟩ := h.ex
  exact ⟨ns, a', r, m, c, a _ _ hp h1, h2⟩
theorem DiL.some {M : Mp} {p l : Addr} (h : DiL M p) (hl : M l = none) : l ≠ p := fun e => by
  obtain ⟨ns, a, r, m, c, hp, _⟩ := h.ex
  rw [e, hp] at hl; cases hl
theorem DiL.mset {M : Mp} {p l : Addr} {o : MO} (h : DiL M p) (hl : l ≠ p) : DiL (DL.mset M l o) p := ⟨by rw [mset_ne (Ne.symm hl)]; exact h.ex⟩
theorem DiL.mdel {M : Mp} {p l : Addr} (h : DiL M p) (hl : l ≠ p) : DiL (DL.mdel M l) p := ⟨by rw [mdel_ne (Ne.symm hl)]; exact h.ex⟩
section
variable {M : Mp} {p : Addr} {ns : List Int} {a r m c x : Int} (h : M p = some (.lst (dilL ns a r m c)))
include h
theorem il0 : dIxV M (.ref p) (.int 0) = some (.lst (ns.map .int)) := by simp only [dIxV, h]; rfl
theorem il1 : dIxV M (.ref p) (.int 1) = some (.int a) := by simp only [dIxV, h]; rfl
theorem il2 : dIxV M (.ref p) (.int 2) = some (.int r) := by simp only [dIxV, h]; rfl
theorem il3 : dIxV M (.ref p) (.int 3) = some (.int m) := by simp only [dIxV, h]; rfl
theorem il4 : dIxV M (.ref p) (.int 4) = some (.int c) := by simp only [dIxV, h]; rfl
theorem sl1 : dStore M p (.int 1) (.int x) = some (mset M p (.lst (dilL ns x r m c))) := by simp only [dStore, h]; rfl
theorem sl2 : dStore M p (.int 2) (.int x) = some (mset M p (.lst (dilL ns a x m c))) := by simp only [dStore, h]; rfl
theorem sl3 : dStore M p (.int 3) (.int x) = some (mset M p (.lst (dilL ns a r x c))) := by simp only [dStore, h]; rfl
theorem sl4 : dStore M p (.int 4) (.int x) = some (mset M p (.lst (dilL ns a r m x))) := by simp only [dStore, h]; rfl
end

/-- a dict of right pairs under way -/
structure PSt (M : Mp) (p : Addr) (n : Int) (b : Nat) (M' : Mp) (d : Addr) (ks : List (Int × Int)) : Prop where
  dice : DiL M' p
  ext : Ext M M' [p]
  at_ : M' d = some (.dT (ks.map kvP))
  fr : M d = none
  ne : d ≠ p
  nd : ks.Nodup
  ok : ∀ q ∈ ks, prOk n q
  len : ks.length ≤ b
theorem PSt.to {M : Mp} {p : Addr} {n : Int} {b : Nat} {M' M2 : Mp} {d : Addr} {ks : List (Int × Int)} (W : PSt M p n b M' d ks) (h : DiL M2 p) (a : Agree M' M2 [p]) : PSt M p n b M2 d ks :=
  ⟨h, W.ext.trans a.ext, (a d (by simpa using W.ne)).trans W.at_, W.fr, W.ne, W.nd, W.ok, W.len⟩
theorem PSt.weak {M : Mp} {p : Addr} {n : Int} {b c : Nat} {M' : Mp} {d : Addr} {ks : List (Int × Int)} (W : PSt M p n b M' d ks) (h : b ≤ c) : PSt M p n c M' d ks :=
  ⟨W.dice, W.ext, W.at_, W.fr, W.ne, W.nd, W.ok, Nat.le_trans W.len h⟩
theorem PSt.put {M : Mp} {p : Addr} {n : Int} {b : Nat} {M' : Mp} {d : Addr} {ks : List (Int × Int)} (W : PSt M p n b M' d ks) {x y : Int} (h : prOk n (x, y)) (hb : b ≤ 1000000) : ∃ M2 ks2, dStore M' d (.tup [.int x, .int y]) (.bl true) = some M2 ∧ PSt M p n (b + 1) M2 d ks2 := by
  have wl := W.len
  refine ⟨mset M' d (.dT ((if (x, y) ∈ ks then ks else ks ++ [(x, y)]).map kvP)), if (x, y) ∈ ks then ks else ks ++ [(x, y)], ?_, W.dice.mset W.ne, W.ext.mset W.fr, mset_same, W.fr, W.ne, ?_, fun q hq => ?_, ?_⟩
  · have e := dput_kvP (ks := ks) (p := (x, y))
    simp only [dStore, W.at_, keysOf, keyOf, Option.bind_some]
    rw [if_pos (by rw [List.length_map]; exact len_lt (by omega))]
    exact congrArg (fun z => some (mset M' d (.dT z))) e
  · by_cases hk : (x, y) ∈ ks
    · rw [if_pos hk]; exact W.nd
    · rw [if_neg hk, List.nodup_append]
      exact ⟨W.nd, by simp, fun a ha b hb => by
        rw [List.mem_singleton.mp hb]
        exact fun z => hk (z ▸ ha)⟩
  · by_cases hk : (x, y) ∈ ks
    · rw [if_pos hk] at hq; exact W.ok q hq
    · rw [if_neg hk] at hq
      rcases List.mem_append.mp hq with z | z
      · exact W.ok q z
      · rw [List.mem_singleton.mp z]; exact h
  · by_cases hk : (x, y) ∈ ks
    · rw [if_pos hk]; omega
    · rw [if_neg hk, List.length_append]; simp; omega

/-- a log: entries as data -/
def entD (e : Bool × Int) : D := .tup [.str (if e.1 then "order" else "read"), .int e.2]
def rowsL (n : Int) (ps : List (Int × Int)) : List D := (rowsOf n ps).map fun r => .lst (r.map .int)
theorem rowsL_get {n : Int} {ps : List (Int × Int)} {i : Int} (h0 : 0 ≤ i) (h1 : i < n) : atI (rowsL n ps) i = some (.lst ((srt (nbr ps i)).map .int)) := by
  refine atI_at (k := i.toNat) (by omega) ?_
  unfold rowsL
  rw [List.getElem?_map, rowsOf_get h0 h1]
  rfl
def decP : D → Int × Int
  | .tup [.int a, .int b] => (a, b)
  | _ => (0, 0)
theorem perm_prD {l : List D} {ps : List (Int × Int)} (h : l.Perm (ps.map prD)) : ∃ qs : List (Int × Int), l = qs.map prD ∧ qs.Perm ps := by
  refine ⟨l.map decP, ?_, ?_⟩
  · rw [List.map_map]
    refine (List.map_id l).symm.trans (List.map_congr_left fun d hd => ?_)
    obtain ⟨p, _, rfl⟩ := List.mem_map.mp (h.mem_iff.mp hd)
    rfl
  · have := h.map decP
    rw [List.map_map] at this
    exact this.trans (by rw [show (decP ∘ prD) = id from rfl, List.map_id])
theorem Wk.monoP {ps qs : List (Int × Int)} {S : List Int} {s : Int} (h : ∀ p ∈ ps, p ∈ qs) : ∀ {t : Nat} {x : Int}, Wk ps S s t x → Wk qs S s t x
  | 0, _, e => e
  | t + 1, y, ⟨x, h1, h2, h3⟩ => ⟨x, Wk.monoP h h1, by
    rcases nbr_mem.mp h2 with z | z
    · exact nbr_mem.mpr (.inl (h _ z))
    · exact nbr_mem.mpr (.inr (h _ z)), h3⟩
theorem Rch.monoP {ps qs : List (Int × Int)} {S : List Int} {s x : Int} (h : ∀ p ∈ ps, p ∈ qs) (r : Rch ps S s x) : Rch qs S s x := let ⟨t, w⟩ := r; ⟨t, w.monoP h⟩
theorem in_ref {M : Mp} {l : Addr} {ns : List Int} {x : Int} (h : M l = some (.lst (ns.map .int))) : inV' M (.int x) (.ref l) = some (decide (x ∈ ns)) := by
  simp only [inV', h, ok_int, D.ok, okL_int, and_self, if_true, any_int]
theorem in_refP {M : Mp} {l : Addr} {ps : List (Int × Int)} {p : Int × Int} (h : M l = some (.lst (ps.map prD))) : inV' M (prD p) (.ref l) = some (decide (p ∈ ps)) := by
  simp only [inV', h]
  rw [if_pos ⟨ok_pr p 59, okL_pr ps 58⟩, any_pr]
/-- a tree under way -/
structure Tre (m : Int) (ks : List Int) (fs : List (Int × Int)) : Prop where
  nd : ks.Nodup
  rg : ∀ x ∈ ks, 0 ≤ x ∧ x < m
  k0 : (0 : Int) ∈ ks
  fk : ∀ q ∈ fs, q.1 ∈ ks ∧ q.2 ∈ ks
  ok : ∀ q ∈ fs, prOk m q
  fnd : fs.Nodup
  rc : ∀ x ∈ ks, Rch fs (allOf m) 0 x
theorem Tre.start {m : Int} (h : 1 ≤ m) : Tre m [0] [] := ⟨by simp, fun x hx => by rw [List.mem_singleton.mp hx]; omega, by simp, fun _ h => (by cases h), fun _ h => (by cases h), List.nodup_nil, fun x hx => by rw [List.mem_singleton.mp hx]; exact .refl⟩
theorem Tre.add {m : Int} {ks : List Int} {fs : List (Int × Int)} (T : Tre m ks fs) {a b : Int} (ok : prOk m (a, b)) {c e : Int} (hc : c ∉ ks) (he : e ∈ ks) (h : (a = c ∧ b = e) ∨ (a = e ∧ b = c)) : Tre m (ks ++ [c]) (fs ++ [(a, b)]) := by
  unfold prOk at ok
  simp only at ok
  have cr : 0 ≤ c ∧ c < m := by rcases h with ⟨rfl, rfl⟩ | ⟨rfl, rfl⟩ <;> omega
  refine ⟨?_, fun x hx => ?_, List.mem_append_left _ T.k0, fun q hq => ?_, fun q hq => ?_, ?_, fun x hx => ?_⟩
  · rw [List.nodup_append]
    exact ⟨T.nd, by simp, fun x hx y hy => by rw [List.mem_singleton.mp hy]; exact fun z => hc (z ▸ hx)⟩
  · rcases List.mem_append.mp hx with z | z
    · exact T.rg x z
    · rw [List.mem_singleton.mp z]; exact cr
  · rcases List.mem_append.mp hq with z | z
    · exact ⟨List.mem_append_left _ (T.fk q z).1, List.mem_append_left _ (T.fk q z).2⟩
    · rw [List.mem_singleton.mp z]
      rcases h with ⟨rfl, rfl⟩ | ⟨rfl, rfl⟩ <;> simp [he]
  · rcases List.mem_append.mp hq with z | z
    · exact T.ok q z
    · rw [List.mem_singleton.mp z]; unfold prOk; exact ok
  · rw [List.nodup_append]
    refine ⟨T.fnd, by simp, fun x hx y hy => ?_⟩
    rw [List.mem_singleton.mp hy]
    intro z
    have := T.fk x hx
    rw [z] at this
    rcases h with ⟨rfl, rfl⟩ | ⟨rfl, rfl⟩
    · exact hc this.1
    · exact hc this.2
  · rcases List.mem_append.mp hx with z | z
    · exact (T.rc x z).monoP fun p hp => List.mem_append_left _ hp
    · rw [List.mem_singleton.mp z]
      refine ((T.rc e he).monoP fun p hp => List.mem_append_left _ hp).step ?_ (allOf_mem.mpr cr)
      rcases h with ⟨rfl, rfl⟩ | ⟨rfl, rfl⟩
      · exact nbr_mem.mpr (.inr (by simp))
      · exact nbr_mem.mpr (.inl (by simp))
/-- who is missing -/
theorem Tre.miss {m : Int} {ks : List Int} {fs : List (Int × Int)} (T : Tre m ks fs) (h : (ks.length : Int) < m) : ∃ y, 0 < y ∧ y < m ∧ y ∉ ks := by
  by_cases e : ∃ y, 0 < y ∧ y < m ∧ y ∉ ks
  · exact e
  · exfalso
    have := nodup_len (allOf_nodup m) (m := ks) fun x hx => by
      have hx := allOf_mem.mp hx
      by_cases z : x ∈ ks
      · exact z
      · by_cases x0 : x = 0
        · rw [x0]; exact T.k0
        · exact absurd ⟨x, by omega, hx.2, z⟩ e
    rw [allOf_len] at this
    omega
theorem Tre.book {m : Int} {ks : List Int} {fs qs : List (Int × Int)} (T : Tre m ks fs) (m1 : 1 ≤ m) (m8 : m ≤ 8) (h : (ks.length : Int) = m) (ok : PrsOk m qs) (sub : ∀ p ∈ fs, p ∈ qs) : BookOk m qs := by
  have all := nodup_eq T.nd (m := allOf m) (fun x hx => allOf_mem.mpr (T.rg x hx)) (by rw [allOf_len]; omega)
  refine ⟨m1, m8, ok, (hangs_from (s := 0) (allOf_mem.mpr ⟨by omega, by omega⟩)).mpr fun x hx => (T.rc x (all x hx)).monoP sub⟩

structure TSt (M : Mp) (p : Addr) (m : Int) (k : Nat) (M' : Mp) (fa kn : Addr) (ks : List Int) (fs : List (Int × Int)) : Prop where
  dice : DiL M' p
  ext : Ext M M' [p]
  ffa : M' fa = some (.lst (fs.map prD))
  fkn : M' kn = some (.lst (ks.map .int))
  ne : fa ≠ kn
  nfp : fa ≠ p
  nkp : kn ≠ p
  mfa : M fa = none
  mkn : M kn = none
  T : Tre m ks fs
  kl : ks.length = k + 1
  fl : fs.length = k
theorem TSt.to {M : Mp} {p : Addr} {m : Int} {k : Nat} {M' M2 : Mp} {fa kn : Addr} {ks : List Int} {fs : List (Int × Int)} (W : TSt M p m k M' fa kn ks fs) (h : DiL M2 p) (a : Agree M' M2 [p]) : TSt M p m k M2 fa kn ks fs :=
  ⟨h, W.ext.trans a.ext, (a fa (by simpa using W.nfp)).trans W.ffa, (a kn (by simpa using W.nkp)).trans W.fkn, W.ne, W.nfp, W.nkp, W.mfa, W.mkn, W.T, W.kl, W.fl⟩
theorem fit_one {ks : List Int} {a b : Int} (h : (!(decide (a ∈ ks) == decide (b ∈ ks))) = true) : ∃ c e, c ∉ ks ∧ e ∈ ks ∧ ((a = c ∧ b = e) ∨ (a = e ∧ b = c)) ∧ ([a, b].filter fun x => !decide (x ∈ ks)) = [c] := by
  by_cases ha : a ∈ ks <;> by_cases hb : b ∈ ks
  · simp [ha, hb] at h
  · exact ⟨b, a, hb, ha, .inr ⟨rfl, rfl⟩, by simp [ha, hb]⟩
  · exact ⟨a, b, ha, hb, .inl ⟨rfl, rfl⟩, by simp [ha, hb]⟩
  · simp [ha, hb] at h

def conD (ks : List Int) : D := .dk (ks.map fun x => (.inl x : Key)) (ks.map fun _ => .bl true)
theorem con_eq (ks : List Int) : D.dk ((ks.map kvT).map (·.1)) ((ks.map kvT).map (·.2)) = conD ks := by
  rw [List.map_map, List.map_map]; rfl
theorem con_zip (ks : List Int) : (ks.map fun x => (.inl x : Key)).zip (ks.map fun _ => D.bl true) = ks.map kvT := by
  rw [List.zip_map']; rfl
theorem con_has {M : Mp} {ks : List Int} {x : Int} : inV' M (.int x) (conD ks) = some (decide (x ∈ ks)) := by
  simp only [inV', conD, dkLook, keyOf, Option.map_some, con_zip, dval_ints (κ := kvT) fun _ => rfl]
/-- who is behind an entry -/
def Beh (ps : List (Int × Int)) (e : Bool × Int) (ks : List Int) (x : Int) : Prop := if e.1 = true then ∃ o, o ∈ ks ∧ e.2 ∈ nbr ps o ∧ (x = o ∨ x = e.2) else x = e.2 ∧ e.2 ∈ ks
theorem store_kvT {M : Mp} {d : Addr} {ks : List Int} {x : Int} (h : M d = some (.dK (ks.map kvT))) (hl : ks.length ≤ 1000000) : ∃ ks2 : List Int, dStore M d (.int x) (.bl true) = some (mset M d (.dK (ks2.map kvT))) ∧ (∀ y, y ∈ ks2 ↔ y ∈ ks ∨ y = x) ∧ (ks.Nodup → ks2.Nodup) ∧ ks2.length ≤ ks.length + 1 := by
  by_cases hx : x ∈ ks
  · refine ⟨ks, ?_, fun y => ⟨.inl, fun h => h.elim id fun e => e ▸ hx⟩, id, by omega⟩
    simp only [dStore, h, keyOf, Option.bind_some, List.length_map]
    rw [if_pos (len_lt (by omega))]
    have e : dput (ks.map kvT) (.inl x) (.bl true) = ks.map kvT := by
      unfold dput
      rw [if_pos (by rw [dval_ints (κ := kvT) fun _ => rfl]; exact decide_eq_true hx), List.map_map]
      refine List.map_congr_left fun y hy => ?_
      show (if (kvT y).1 = _ then _ else _) = _
      split <;> rfl
    rw [e]
  · refine ⟨ks ++ [x], ?_, fun y => by simp, fun nd => ?_, by simp⟩
    · simp only [dStore, h, keyOf, Option.bind_some, List.length_map]
      rw [if_pos (len_lt (by omega)), dput_kvT hx]
    · rw [List.nodup_append]
      exact ⟨nd, by simp, fun a ha b hb => by rw [List.mem_singleton.mp hb]; exact fun z => hx (z ▸ ha)⟩

def isLg (th : D) (es : List (Bool × Int)) : Prop := th = .lst (es.map entD) ∨ th = .tup (es.map entD)
def behP (ps : List (Int × Int)) (S : Int → Prop) (e : Bool × Int) : Int → Prop := fun x => if e.1 = true then ∃ o, S o ∧ e.2 ∈ nbr ps o ∧ (x = o ∨ x = e.2) else x = e.2 ∧ S e.2
def fwd (ps : List (Int × Int)) (S : Int → Prop) (es : List (Bool × Int)) : Int → Prop := es.foldl (behP ps) S
theorem get_ent {es : List (Bool × Int)} {k : Nat} {d : D} (h : (es.map entD)[k]? = some d) : ∃ e, es[k]? = some e ∧ d = entD e := by
  rw [List.getElem?_map] at h
  obtain ⟨p, hp, e⟩ := Option.map_eq_some_iff.mp h
  exact ⟨p, hp, e.symm⟩
/-! ### logs of any form -/
/-- is an entry of a book of n contents -/
def entB (n : Int) : D → Bool
  | .tup [.str x, t] => (decide (x = "order") || decide (x = "read")) && t.within 0 (n - 1)
  | _ => false
def anyD : D → Bool
  | .non | .bl _ | .int _ | .lst _ | .tup _ => true
  | .str x => PyData.strOk x
  | _ => false
/-- a thing that is_entry can look at -/
def EntSh (e : D) : Prop := anyD e = true ∧ ∀ a t, e = .tup [a, t] → anyD a = true ∧ anyD t = true
theorem any_ty {M : Mp} {d : D} (h : anyD d = true) : ∃ T, tyN M d = some T ∧ ((isiT T "tuple" = true ↔ ∃ l, d = .tup l) ∧ (isiT T "str" = true ↔ ∃ x, d = .str x)) := by
  cases d <;> first
    | (cases h; done)
    | exact ⟨_, rfl, ⟨fun h => absurd h (by decide +kernel), fun ⟨_, h⟩ => by cases h⟩, ⟨fun h => absurd h (by decide +kernel), fun ⟨_, h⟩ => by cases h⟩⟩
    | exact ⟨_, rfl, ⟨fun _ => ⟨_, rfl⟩, fun _ => by decide +kernel⟩, ⟨fun h => absurd h (by decide +kernel), fun ⟨_, h⟩ => by cases h⟩⟩
    | exact ⟨_, rfl, ⟨fun h => absurd h (by decide +kernel), fun ⟨_, h⟩ => by cases h⟩, ⟨fun _ => ⟨_, rfl⟩, fun _ => by decide +kernel⟩⟩
theorem any_some {M : Mp} {d : D} (h : anyD d = true) : (tyN M d).isSome = true := by obtain ⟨T, e, _⟩ := any_ty (M := M) h; rw [e]; rfl
theorem in_words {M : Mp} {x : Str} (h : PyData.strOk x = true) : inV' M (.str x) (.kt [.str "order", .str "read"]) = some (decide (x = "order") || decide (x = "read")) := by
  have ok : (D.kt [.str "order", .str "read"]).ok 60 = true := by decide +kernel
  simp only [inV']
  rw [if_pos ⟨by simp [D.ok, h], ok⟩]
  simp only [List.any_cons, List.any_nil, D.eq_str, Bool.or_false]
  have k : ∀ y : Str, (y == x) = decide (x = y) := fun y => by
    rw [Bool.eq_iff_iff, beq_iff_eq, decide_eq_true_iff]
    exact eq_comm
  rw [k, k]

def logB (n : Int) : D → Bool
  | .lst l => decide (l.length ≤ 40) && l.all (entB n)
  | .tup l => decide (l.length ≤ 40) && l.all (entB n)
  | _ => false
def LogSh : D → Prop
  | .lst l => l.length ≤ 100000 ∧ ∀ e ∈ l, EntSh e
  | .tup l => l.length ≤ 100000 ∧ ∀ e ∈ l, EntSh e
  | .non | .bl _ | .int _ | .str _ | .dk _ _ => True
  | _ => False
def cntB (n : Int) (fs : List D) : Bool := fs.all fun d => d.within 0 (n - 1)

theorem within_int {d : D} {a c : Int} (h : d.within a c = true) : ∃ x, d = .int x ∧ a ≤ x ∧ x ≤ c := by
  cases d with
  | int x => simp only [D.within, Bool.and_eq_true, decide_eq_true_eq] at h; exact ⟨x, rfl, h.1, h.2⟩
  | _ => cases h
theorem ent_of {n : Int} {e : D} (h : entB n e = true) : ∃ x : Bool × Int, e = entD x ∧ 0 ≤ x.2 ∧ x.2 < n := by
  unfold entB at h
  split at h
  · rename_i x t
    rw [Bool.and_eq_true, Bool.or_eq_true, decide_eq_true_iff, decide_eq_true_iff] at h
    obtain ⟨c, rfl, c0, c1⟩ := within_int h.2
    rcases h.1 with rfl | rfl
    · exact ⟨(true, c), rfl, c0, by show c < n; omega⟩
    · exact ⟨(false, c), rfl, c0, by show c < n; omega⟩
  · cases h
theorem ents_of {n : Int} : ∀ {l : List D}, l.all (entB n) = true → ∃ es : List (Bool × Int), l = es.map entD ∧ ∀ e ∈ es, 0 ≤ e.2 ∧ e.2 < n
  | [], _ => ⟨[], rfl, fun _ h => by cases h⟩
  | d :: l, h => by
    rw [List.all_cons, Bool.and_eq_true] at h
    obtain ⟨x, rfl, x0⟩ := ent_of h.1
    obtain ⟨es, rfl, hs⟩ := ents_of h.2
    exact ⟨x :: es, rfl, fun e he => (List.mem_cons.mp he).elim (fun z => z ▸ x0) (hs e)⟩
theorem log_es {n : Int} {th : D} (h : logB n th = true) : ∃ es, isLg th es ∧ es.length ≤ 40 ∧ ∀ e ∈ es, 0 ≤ e.2 ∧ e.2 < n := by
  cases th with
  | lst l =>
    simp only [logB, Bool.and_eq_true, decide_eq_true_eq] at h
    obtain ⟨es, rfl, hs⟩ := ents_of h.2
    exact ⟨es, .inl rfl, by have := h.1; rwa [List.length_map] at this, hs⟩
  | tup l =>
    simp only [logB, Bool.and_eq_true, decide_eq_true_eq] at h
    obtain ⟨es, rfl, hs⟩ := ents_of h.2
    exact ⟨es, .inr rfl, by have := h.1; rwa [List.length_map] at this, hs⟩
  | _ => cases h

def dpL : Nat → List D
  | 0 => []
  | k + 1 => [.tup (dpL k)]
def wordS (n : Int) (k : Int) (f o : D) : Str := if k = 0 then (if f.within 0 (n - 1) then (if logB n o then "told" else "log") else "content") else if k = 1 then (if logB n o then "told" else "log") else (if cntB n [f, o] then "told" else "content")
def WordSh (k : Int) (f o : D) : Prop := (k = 0 ∧ anyD f = true ∧ LogSh o) ∨ (k = 1 ∧ LogSh o) ∨ (k = 2 ∧ anyD f = true ∧ anyD o = true)

/-- an entry, or what stands in its place -/
def EntG (k : Nat) (e : D) : Prop := EntSh e ∧ e.sg 49 = true ∧ e.ng ≤ k
def entG (k : Nat) (e : D) : Bool := anyD e && (match e with
  | .tup [a, t] => anyD a && anyD t
  | _ => true) && e.sg 49 && decide (e.ng ≤ k)
theorem entG_of {k : Nat} {e : D} (h : entG k e = true) : EntG k e := by
  unfold entG at h
  simp only [Bool.and_eq_true, decide_eq_true_eq] at h
  refine ⟨⟨h.1.1.1, fun a t z => ?_⟩, h.1.2, h.2⟩
  subst z
  have := h.1.1.2
  simpa using this
def oddL (n c : Int) (w : Str) : List D := [.tup [.str w, .int n], .tup [.str w, .int (-1)], .tup [.str w, .bl true], .tup [.str w, .non], .tup [.str "orders", .int c], .tup [.str "", .int c], .tup [.str w], .tup [.str w, .int c, .int 0], .lst [.str w, .int c], .non, .str w,
  .int c, .tup [.int 0, .int c], .tup [.str w, .str (toString c)], .tup (dpL 36)]
theorem odd_all : ∀ n ∈ ([1, 2, 3, 4, 5, 6, 7, 8] : List Int), ∀ c ∈ ([0, 1, 2, 3, 4, 5, 6, 7] : List Int), ∀ w ∈ (["order", "read"] : List Str), (oddL n c w).all (entG 6000) = true := by decide +kernel
theorem ent_all : ∀ c ∈ ([0, 1, 2, 3, 4, 5, 6, 7] : List Int), ∀ b ∈ [true, false], entG 400 (entD (b, c)) = true := by decide +kernel
theorem mem8 {c : Int} (h0 : 0 ≤ c) (h1 : c < 8) : c ∈ ([0, 1, 2, 3, 4, 5, 6, 7] : List Int) := by
  have : c = 0 ∨ c = 1 ∨ c = 2 ∨ c = 3 ∨ c = 4 ∨ c = 5 ∨ c = 6 ∨ c = 7 := by omega
  simpa using this
theorem mem9 {c : Int} (h0 : 1 ≤ c) (h1 : c ≤ 8) : c ∈ ([1, 2, 3, 4, 5, 6, 7, 8] : List Int) := by
  have : c = 1 ∨ c = 2 ∨ c = 3 ∨ c = 4 ∨ c = 5 ∨ c = 6 ∨ c = 7 ∨ c = 8 := by omega
  simpa using this
/-- a thing in the place of a log -/
def ThG (o : D) : Prop := LogSh o ∧ o.sg 50 = true ∧ o.ng ≤ 100000
theorem ngL_le {c : Nat} : ∀ {l : List D}, (∀ y ∈ l, y.ng ≤ c) → D.ngL l ≤ l.length * (c + 1)
  | [], _ => by simp [D.ngL]
  | d :: r, h => by
    have h1 := h d List.mem_cons_self
    have h2 := ngL_le (l := r) fun y hy => h y (List.mem_cons_of_mem _ hy)
    rw [D.ngL, List.length_cons, Nat.succ_mul]; omega
theorem thAll (x : Bool × Int) (hx : EntG 400 (entD x)) : ∀ v ∈ [D.non, D.int 0, D.dk [] [], D.str (Str.ofString "log"), D.bl true, entD x, .tup (dpL 36)], ThG v := by
  intro v hv
  rcases List.mem_cons.mp hv with rfl | hv
  · exact ⟨trivial, by decide +kernel, by decide +kernel⟩
  rcases List.mem_cons.mp hv with rfl | hv
  · exact ⟨trivial, by decide +kernel, by decide +kernel⟩
  rcases List.mem_cons.mp hv with rfl | hv
  · exact ⟨trivial, by decide +kernel, by decide +kernel⟩
  rcases List.mem_cons.mp hv with rfl | hv
  · exact ⟨trivial, by decide +kernel, by decide +kernel⟩
  rcases List.mem_cons.mp hv with rfl | hv
  · exact ⟨trivial, by decide +kernel, by decide +kernel⟩
  rcases List.mem_cons.mp hv with rfl | hv
  · refine ⟨?_, by simpa only [D.sg, D.sgL, entD] using hx.2.1, by have := hx.2.2; omega⟩
    obtain ⟨b, c⟩ := x
    refine ⟨by show (2 : Nat) ≤ _; decide, fun e he => ?_⟩
    rcases List.mem_cons.mp he with rfl | he
    · exact ⟨by cases b; exact (show anyD (.str "read") = true by decide +kernel); exact (show anyD (.str "order") = true by decide +kernel), fun _ _ z => by cases z⟩
    · rw [List.mem_singleton.mp he]
      exact ⟨rfl, fun _ _ z => by cases z⟩
  · rw [List.mem_singleton.mp hv]
    refine ⟨⟨by decide, fun e he => ?_⟩, by decide +kernel, by decide +kernel⟩
    rw [List.mem_singleton.mp he]
    exact ⟨rfl, fun _ _ z => by simp only [D.tup.injEq, dpL] at z; cases z⟩
theorem th_of {k : Nat} {L : List D} (h1 : L.length * (k + 1) ≤ 100000) (h2 : ∀ e ∈ L, EntG k e) : ThG (.lst L) ∧ ThG (.tup L) := by
  have a1 : L.length ≤ 100000 := Nat.le_trans (Nat.le_mul_of_pos_right _ (by omega)) h1
  have a2 : D.sgL L 49 = true := sgL_iff.mpr fun e he => (h2 e he).2.1
  have a4 := ngL_le (c := k) fun e he => (h2 e he).2.2
  exact ⟨⟨⟨a1, fun e he => (h2 e he).1⟩, by simpa only [D.sg] using a2, Nat.le_trans a4 h1⟩, ⟨⟨a1, fun e he => (h2 e he).1⟩, by simpa only [D.sg] using a2, Nat.le_trans a4 h1⟩⟩

theorem BookAt.del {C : Addr} {M : Mp} {p a : Addr} {n : Int} {ps : List (Int × Int)} {d : Addr} (h : BookAt C M p n ps d) (ha : p ≠ a) (hb : d ≠ a) : BookAt C (mdel M a) p n ps d := ⟨by rw [mdel_ne ha]; exact h.ob, by rw [mdel_ne hb]; exact h.fc, h.ok⟩
theorem none_x {n : Int} (n1 : 1 ≤ n) : ∀ x ∈ [D.int n, .int (-1), .bl true, .bl false, .non, .str (Str.ofString "0"), .tup [.int 0], .int (10 ^ 30), .lst [.int 0]], n ≤ 8 → anyD x = true ∧ x.within 0 (n - 1) = false := by
  intro x hx n8
  rcases List.mem_cons.mp hx with rfl | hx
  · exact ⟨rfl, by simp [D.within]; omega⟩
  rcases List.mem_cons.mp hx with rfl | hx
  · exact ⟨rfl, by simp [D.within]⟩
  rcases List.mem_cons.mp hx with rfl | hx
  · exact ⟨rfl, rfl⟩
  rcases List.mem_cons.mp hx with rfl | hx
  · exact ⟨rfl, rfl⟩
  rcases List.mem_cons.mp hx with rfl | hx
  · exact ⟨rfl, rfl⟩
  rcases List.mem_cons.mp hx with rfl | hx
  · exact ⟨by decide +kernel, rfl⟩
  rcases List.mem_cons.mp hx with rfl | hx
  · exact ⟨rfl, rfl⟩
  rcases List.mem_cons.mp hx with rfl | hx
  · exact ⟨rfl, by simp [D.within]; omega⟩
  · rw [List.mem_singleton.mp hx]; exact ⟨rfl, rfl⟩

section
variable {P : Program} {w : World} {K : PySem.W.Frag} {mg : Str → Option Value} {base : Heap}
theorem sc__law_deep : FnScope ["_law_thing", "_law_k"] [] (defScope s__law_deep) := ⟨rfl, rfl, rfl, by decide +kernel, rfl, by decide +kernel, by decide +kernel⟩
def sp__law_deep : DSp := fun ds M Q _ => ∃ z : Unit, ds = [] ∧ Q (.tup (dpL 36)) M
theorem c__law_deep (F : DFun K mg "_law_deep" s__law_deep []) (B : Bn mg) (G : Gs mg)  : DCal P w K mg base CX0 1 "_law_deep" sp__law_deep := by
  refine dok F sc__law_deep (fun ds M Q E h => (by obtain ⟨_, h⟩ := h; first | (obtain ⟨e, _⟩ := h; subst e; rfl) | (obtain ⟨_, e, _⟩ := h; subst e; rfl) | (obtain ⟨_, _, e, _⟩ := h; subst e; rfl) | (obtain ⟨_, _, _, e, _⟩ := h; subst e; rfl) | (obtain ⟨_, _, _, _, e, _⟩ := h; subst e; rfl) | (obtain ⟨_, _, _, _, _, e, _⟩ := h; subst e; rfl) | (obtain ⟨_, _, _, _, _, _, e, _⟩ := h; subst e; rfl) | (obtain ⟨_, _, _, _, _, _, _, e, _⟩ := h; subst e; rfl) | (obtain ⟨_, _, _, _, _, _, _, _, e, _⟩ := h; subst e; rfl) | (obtain ⟨_, _, _, _, _, _, _, _, _, e, _⟩ := h; subst e; rfl) | (obtain ⟨_, _, _, _, _, _, _, _, _, _, e, _⟩ := h; subst e; rfl) | (obtain ⟨_, _, _, _, _, _, _, _, _, _, _, e, _⟩ := h; subst e; rfl) | (obtain ⟨_, _, _, _, _, _, _, _, _, _, _, _, e, _⟩ := h; subst e; rfl) | (obtain ⟨_, _, _, _, _, _, _, _, _, _, _, _, _, e, _⟩ := h; subst e; rfl) | (obtain ⟨_, _, _, _, _, _, _, _, _, _, _, _, _, _, e, _⟩ := h; subst e; rfl) | (obtain ⟨_, _, _, _, _, _, _, _, _, _, _, _, _, _, _, e, _⟩ := h; subst e; rfl) | (obtain ⟨_, _, _, _, _, _, _, _, _, _, _, _, _, _, _, _, e, _⟩ := h; subst e; rfl) | (obtain ⟨_, _, _, _, _, _, _, _, _, _, _, _, _, _, _, _, _, e, _⟩ := h; subst e; rfl) | (obtain ⟨_, _, _, _, _, _, _, _, _, _, _, _, _, _, _, _, _, _, e, _⟩ := h; subst e; rfl) | (obtain ⟨_, _, _, _, _, _, _, _, _, _, _, _, _, _, _, _, _, _, _, e, _⟩ := h; subst e; rfl) | (obtain ⟨_, _, _, _, _, _, _, _, _, _, _, _, _, _, _, _, _, _, _, _, e, _⟩ := h; subst e; rfl) | (obtain ⟨_, _, _, _, _, _, _, _, _, _, _, _, _, _, _, _, _, _, _, _, _, e, _⟩ := h; subst e; rfl) | (obtain ⟨_, _, _, _, _, _, _, _, _, _, _, _, _, _, _, _, _, _, _, _, _, _, e, _⟩ := h; subst e; rfl) | (obtain ⟨_, _, _, _, _, _, _, _, _, _, _, _, _, _, _, _, _, _, _, _, _, _, _, e, _⟩ := h; subst e; rfl) | (obtain ⟨_, _, _, _, _, _, _, _, _, _, _, _, _, _, _, _, _, _, _, _, _, _, _, _, e, _⟩ := h; subst e; rfl) | (obtain ⟨_, _, _, _, _, _, _, _, _, _, _, _, _, _, _, _, _, _, _, _, _, _, _, _, _, e, _⟩ := h; subst e; rfl))) (fun f cdv A outer s H E F0 hr => ?_)
  have nd := (sc__law_deep).nd
  refine ⟨_, _, (db_cons (ds_set 0 nd (de_tup da_nil))
      (db_cons (ds_for PassesOwn.never rfl (di_range1 B.range (da_cons de_int da_nil)) (dg_name 1 nd) (db_one (ds_set 0 nd (de_tup (da_cons (de_var 0) da_nil)))))
      (db_one (ds_ret (de_var 0))))), ?_⟩
  rintro ds M Q E ⟨_, rfl, q⟩
  simp only [dVar, dC, dOp, dTest, dII, dIC, dFld, dFldS, dMake, dProp, dLcM, toM, dppNil, dppCons, dMerge, dDisp, dCatL, dRep, dRepM, dExtend, dChain, dEq, dAnd, dOr, dNot, dIfE, dNext, dSeq, dDrop, dRet, dIfS, dNever, dFrz, hName, hNil, hCons, hTup, hSub, dAsg, dAug, dipI, dNil, dCons, dTup, dLst, dLstM, dIx, dSet, dCall, dwipe, dYes, jSeq, jRng1, jRng2, dCB, dLen, dList, dListM, dTuple, dAbs, dInt, dBM0, dBM, dAppend, dPop, dPopAt, dAndV, dNotV, dNeg, dIn, dNoPart, dPart, dSl, dSlM, dNewK, dIsi, dIsiT, dLc, dFor, dDc, dCallS, dRaise, dTry, dIsE, dSortD, dFrzE, jKeys, dIndexD, dEqS, dReprG, if_true, if_false, ite_true, ite_false, Bool.false_eq_true, reduceIte, Bool.not_true, Bool.not_false, List.getElem?_cons_zero, List.getElem?_cons_succ, List.set_cons_zero, List.set_cons_succ, List.map_cons, List.map_nil, List.replicate, List.cons_append, List.nil_append, List.length_cons, List.length_nil, dstart]
  refine ⟨Nat.zero_le _, by decide, dForI_of (fun i γ M' => ∃ o1 : Option D, γ = [some (.tup (dpL i)), o1] ∧ M' = M) ⟨none, rfl, rfl⟩ ?_ ?_⟩
  · rintro i e γ M4 he ⟨o1, rfl, rfl⟩
    simp only [dVar, dC, dOp, dTest, dII, dIC, dFld, dFldS, dMake, dProp, dLcM, toM, dppNil, dppCons, dMerge, dDisp, dCatL, dRep, dRepM, dExtend, dChain, dEq, dAnd, dOr, dNot, dIfE, dNext, dSeq, dDrop, dRet, dIfS, dNever, dFrz, hName, hNil, hCons, hTup, hSub, dAsg, dAug, dipI, dNil, dCons, dTup, dLst, dLstM, dIx, dSet, dCall, dwipe, dYes, jSeq, jRng1, jRng2, dCB, dLen, dList, dListM, dTuple, dAbs, dInt, dBM0, dBM, dAppend, dPop, dPopAt, dAndV, dNotV, dNeg, dIn, dNoPart, dPart, dSl, dSlM, dNewK, dIsi, dIsiT, dLc, dFor, dDc, dCallS, dRaise, dTry, dIsE, dSortD, dFrzE, jKeys, dIndexD, dEqS, dReprG, if_true, if_false, ite_true, ite_false, Bool.false_eq_true, reduceIte, Bool.not_true, Bool.not_false, List.getElem?_cons_zero, List.getElem?_cons_succ, List.set_cons_zero, List.set_cons_succ, List.map_cons, List.map_nil, List.replicate, List.cons_append, List.nil_append, List.length_cons, List.length_nil, dstart]
    exact ⟨by decide, _, rfl, trivial⟩
  · rintro γ M4 ⟨o1, rfl, rfl⟩
    rw [rgD_len]
    simp only [dVar, dC, dOp, dTest, dII, dIC, dFld, dFldS, dMake, dProp, dLcM, toM, dppNil, dppCons, dMerge, dDisp, dCatL, dRep, dRepM, dExtend, dChain, dEq, dAnd, dOr, dNot, dIfE, dNext, dSeq, dDrop, dRet, dIfS, dNever, dFrz, hName, hNil, hCons, hTup, hSub, dAsg, dAug, dipI, dNil, dCons, dTup, dLst, dLstM, dIx, dSet, dCall, dwipe, dYes, jSeq, jRng1, jRng2, dCB, dLen, dList, dListM, dTuple, dAbs, dInt, dBM0, dBM, dAppend, dPop, dPopAt, dAndV, dNotV, dNeg, dIn, dNoPart, dPart, dSl, dSlM, dNewK, dIsi, dIsiT, dLc, dFor, dDc, dCallS, dRaise, dTry, dIsE, dSortD, dFrzE, jKeys, dIndexD, dEqS, dReprG, if_true, if_false, ite_true, ite_false, Bool.false_eq_true, reduceIte, Bool.not_true, Bool.not_false, List.getElem?_cons_zero, List.getElem?_cons_succ, List.set_cons_zero, List.set_cons_succ, List.map_cons, List.map_nil, List.replicate, List.cons_append, List.nil_append, List.length_cons, List.length_nil, dstart]
    exact fin_self q
theorem sc__law_draw : FnScope ["_law_dice_here", "_law_sides", "_law_cell", "_law_digit", "_law_mixed_here"] ["_law_dice_here", "_law_sides"] (defScope s__law_draw) := ⟨rfl, rfl, rfl, by decide +kernel, rfl, by decide +kernel, by decide +kernel⟩
def sp__law_draw : DSp := fun ds M Q _ => ∃ (p : Addr) (n : Int), ds = [.ref p, .int n] ∧ DiL M p ∧ 1 ≤ n ∧ n < 1073741824 ∧ ∀ (r : Int) M2, 0 ≤ r → r < n → DiL M2 p → Agree M M2 [p] → Q (.int r) M2
theorem c__law_draw (F : DFun K mg "_law_draw" s__law_draw ["_law_dice_here", "_law_sides"]) (B : Bn mg) (G : Gs mg)  : DCal P w K mg base CX0 1 "_law_draw" sp__law_draw := by
  refine dok F sc__law_draw (fun ds M Q E h => (by obtain ⟨_, h⟩ := h; first | (obtain ⟨e, _⟩ := h; subst e; rfl) | (obtain ⟨_, e, _⟩ := h; subst e; rfl) | (obtain ⟨_, _, e, _⟩ := h; subst e; rfl) | (obtain ⟨_, _, _, e, _⟩ := h; subst e; rfl) | (obtain ⟨_, _, _, _, e, _⟩ := h; subst e; rfl) | (obtain ⟨_, _, _, _, _, e, _⟩ := h; subst e; rfl) | (obtain ⟨_, _, _, _, _, _, e, _⟩ := h; subst e; rfl) | (obtain ⟨_, _, _, _, _, _, _, e, _⟩ := h; subst e; rfl) | (obtain ⟨_, _, _, _, _, _, _, _, e, _⟩ := h; subst e; rfl) | (obtain ⟨_, _, _, _, _, _, _, _, _, e, _⟩ := h; subst e; rfl) | (obtain ⟨_, _, _, _, _, _, _, _, _, _, e, _⟩ := h; subst e; rfl) | (obtain ⟨_, _, _, _, _, _, _, _, _, _, _, e, _⟩ := h; subst e; rfl) | (obtain ⟨_, _, _, _, _, _, _, _, _, _, _, _, e, _⟩ := h; subst e; rfl) | (obtain ⟨_, _, _, _, _, _, _, _, _, _, _, _, _, e, _⟩ := h; subst e; rfl) | (obtain ⟨_, _, _, _, _, _, _, _, _, _, _, _, _, _, e, _⟩ := h; subst e; rfl) | (obtain ⟨_, _, _, _, _, _, _, _, _, _, _, _, _, _, _, e, _⟩ := h; subst e; rfl) | (obtain ⟨_, _, _, _, _, _, _, _, _, _, _, _, _, _, _, _, e, _⟩ := h; subst e; rfl) | (obtain ⟨_, _, _, _, _, _, _, _, _, _, _, _, _, _, _, _, _, e, _⟩ := h; subst e; rfl) | (obtain ⟨_, _, _, _, _, _, _, _, _, _, _, _, _, _, _, _, _, _, e, _⟩ := h; subst e; rfl) | (obtain ⟨_, _, _, _, _, _, _, _, _, _, _, _, _, _, _, _, _, _, _, e, _⟩ := h; subst e; rfl) | (obtain ⟨_, _, _, _, _, _, _, _, _, _, _, _, _, _, _, _, _, _, _, _, e, _⟩ := h; subst e; rfl) | (obtain ⟨_, _, _, _, _, _, _, _, _, _, _, _, _, _, _, _, _, _, _, _, _, e, _⟩ := h; subst e; rfl) | (obtain ⟨_, _, _, _, _, _, _, _, _, _, _, _, _, _, _, _, _, _, _, _, _, _, e, _⟩ := h; subst e; rfl) | (obtain ⟨_, _, _, _, _, _, _, _, _, _, _, _, _, _, _, _, _, _, _, _, _, _, _, e, _⟩ := h; subst e; rfl) | (obtain ⟨_, _, _, _, _, _, _, _, _, _, _, _, _, _, _, _, _, _, _, _, _, _, _, _, e, _⟩ := h; subst e; rfl) | (obtain ⟨_, _, _, _, _, _, _, _, _, _, _, _, _, _, _, _, _, _, _, _, _, _, _, _, _, e, _⟩ := h; subst e; rfl))) (fun f cdv A outer s H E F0 hr => ?_)
  have nd := (sc__law_draw).nd
  refine ⟨_, _, (db_cons (ds_if (DW.dt (dw_and (dt_eq hr (de_ix hr (de_var 0) de_int) de_int) (dw_and1 (dt_lt (de_ix hr (de_var 0) de_int) (de_len B.len (da_cons (de_ix hr (de_var 0) de_int) da_nil)))))) (db_cons (ds_set 2 nd (de_ix hr (de_ix hr (de_var 0) de_int) (de_ix hr (de_var 0) de_int)))
      (db_cons (ds_put hr (de_var 0) de_int (de_add (de_ix hr (de_var 0) de_int) de_int))
      (db_one (ds_if (dt_ge (de_var 2) (de_pow de_int de_int)) (db_one (ds_put hr (de_var 0) de_int (de_var 2))) (db_one (ds_put hr (de_var 0) de_int (de_mod (de_bty call_int1 lc_int B.int (da_cons (de_add (de_add (de_mul (de_ix hr (de_var 0) de_int) de_int) (de_mul (de_var 2) de_int)) (de_ix hr (de_var 0) de_int)) da_nil)) de_int))))))) db_nil)
      (db_cons (ds_if (dt_gt (de_ix hr (de_var 0) de_int) de_int) (db_cons (ds_set 3 nd (de_mod (de_bty call_int1 lc_int B.int (da_cons (de_ix hr (de_var 0) de_int) da_nil)) (de_var 1)))
      (db_cons (ds_put hr (de_var 0) de_int (de_fdiv (de_bty call_int1 lc_int B.int (da_cons (de_ix hr (de_var 0) de_int) da_nil)) (de_var 1)))
      (db_one (ds_ret (de_var 3))))) db_nil)
      (db_cons (ds_put hr (de_var 0) de_int (de_add (de_ix hr (de_var 0) de_int) de_int))
      (db_cons (ds_put hr (de_var 0) de_int (de_mod (de_bty call_int1 lc_int B.int (da_cons (de_add (de_add (de_mul (de_ix hr (de_var 0) de_int) de_int) (de_mul (de_ix hr (de_var 0) de_int) de_int)) de_int) da_nil)) de_int))
      (db_cons (ds_set 4 nd (de_mod (de_bty call_int1 lc_int B.int (da_cons (de_mul (de_ix hr (de_var 0) de_int) (de_add (de_fdiv (de_ix hr (de_var 0) de_int) de_int) de_int)) da_nil)) de_int))
      (db_cons (ds_set 4 nd (de_mod (de_bty call_int1 lc_int B.int (da_cons (de_mul (de_var 4) (de_add (de_fdiv (de_var 4) de_int) de_int)) da_nil)) de_int))
      (db_one (ds_ret (de_mod (de_bty call_int1 lc_int B.int (da_cons (de_fdiv (de_var 4) de_int) da_nil)) (de_var 1)))))))))), ?_⟩
  rintro ds M Q E ⟨p, n, rfl, ⟨ns, a, r, m, c, hp, ha0, hr0⟩, h1, h2, q⟩
  refine dSeq_gen (fun γ' M' => ∃ o ns a r m c, γ' = [some (.ref p), some (.int n), o, none, none] ∧ M' p = some (.lst (dilL ns a r m c)) ∧ 0 ≤ r ∧ 0 ≤ a ∧ Agree M M' [p]) ?_ (fun nx hn => ?_)
  · rintro γ' M' ⟨o, ns, a, r, m, c, rfl, hp, hr0, ha0, ag⟩
    have ag2 : ∀ kvs, Agree M (mset M' p (.lst kvs)) [p] := fun kvs => ag.trans (Agree.mset (by simp))
    simp only [dVar, dC, dOp, dTest, dII, dIC, dFld, dFldS, dMake, dProp, dLcM, toM, dppNil, dppCons, dMerge, dDisp, dCatL, dRep, dRepM, dExtend, dChain, dEq, dAnd, dOr, dNot, dIfE, dNext, dSeq, dDrop, dRet, dIfS, dNever, dFrz, hName, hNil, hCons, hTup, hSub, dAsg, dAug, dipI, dNil, dCons, dTup, dLst, dLstM, dIx, dSet, dCall, dwipe, dYes, jSeq, jRng1, jRng2, dCB, dLen, dList, dListM, dTuple, dAbs, dInt, dBM0, dBM, dAppend, dPop, dPopAt, dAndV, dNotV, dNeg, dIn, dNoPart, dPart, dSl, dSlM, dNewK, dIsi, dIsiT, dLc, dFor, dDc, dCallS, dRaise, dTry, dIsE, dSortD, dFrzE, jKeys, dIndexD, dEqS, dReprG, if_true, if_false, ite_true, ite_false, Bool.false_eq_true, reduceIte, Bool.not_true, Bool.not_false, List.getElem?_cons_zero, List.getElem?_cons_succ, List.set_cons_zero, List.set_cons_succ, List.map_cons, List.map_nil, List.replicate, List.cons_append, List.nil_append, List.length_cons, List.length_nil, dstart]
    refine ⟨_, il2 hp, ?_⟩
    by_cases hr1 : 0 < r
    · simp only [decide_eq_true hr1, if_true, if_false, ite_true, ite_false, Bool.false_eq_true, reduceIte, Bool.not_true, Bool.not_false, List.getElem?_cons_zero, List.getElem?_cons_succ, List.set_cons_zero, List.set_cons_succ, List.map_cons, List.map_nil, List.replicate, List.cons_append, List.nil_append, List.length_cons, List.length_nil, dstart]
      refine ⟨_, il2 hp, by omega, _, il2 hp, ⟨by omega, h2⟩, _, sl2 hp, ?_⟩
      exact fin_self (q _ _ (Int.emod_nonneg _ (by omega)) (Int.emod_lt_of_pos _ (by omega)) ⟨_, _, _, _, _, mset_same, ha0, Int.ediv_nonneg hr0 (by omega)⟩ (ag2 _))
    · simp only [decide_eq_false hr1, if_true, if_false, ite_true, ite_false, Bool.false_eq_true, reduceIte, Bool.not_true, Bool.not_false, List.getElem?_cons_zero, List.getElem?_cons_succ, List.set_cons_zero, List.set_cons_succ, List.map_cons, List.map_nil, List.replicate, List.cons_append, List.nil_append, List.length_cons, List.length_nil, dstart]
      have h3 := mset_same (M := M') (a := p) (o := .lst (dilL ns a r m (c + 1)))
      refine ⟨_, il4 hp, _, sl4 hp, _, il3 h3, cmulR (by decide), _, il4 h3, cmulR (by decide), by decide, _, sl3 h3, ?_⟩
      rw [mset_mset]
      generalize hx : (m * 48271 + (c + 1) * 7919 + 1) % 2147483647 = x
      have bx : 0 ≤ x ∧ x < 2147483647 := by omega
      have h4 := mset_same (M := M') (a := p) (o := .lst (dilL ns a r x (c + 1)))
      refine ⟨_, il3 h4, _, il3 h4, ⟨by decide, by decide⟩, ?_⟩
      dsimp only
      refine ⟨cmulL (by omega), by decide, ?_⟩
      generalize hy : x * (x / 1009 + 69623) % 2147483399 = y
      have by' : 0 ≤ y ∧ y < 2147483399 := by omega
      refine ⟨⟨by decide, by decide⟩, cmulL (by omega), by decide, ⟨by decide, by decide⟩, by omega, ?_⟩
      exact fin_self (q _ _ (Int.emod_nonneg _ (by omega)) (Int.emod_lt_of_pos _ (by omega)) ⟨_, _, _, _, _, mset_same, ha0, hr0⟩ (ag2 _))
  · simp only [dVar, dC, dOp, dTest, dII, dIC, dFld, dFldS, dMake, dProp, dLcM, toM, dppNil, dppCons, dMerge, dDisp, dCatL, dRep, dRepM, dExtend, dChain, dEq, dAnd, dOr, dNot, dIfE, dNext, dSeq, dDrop, dRet, dIfS, dNever, dFrz, hName, hNil, hCons, hTup, hSub, dAsg, dAug, dipI, dNil, dCons, dTup, dLst, dLstM, dIx, dSet, dCall, dwipe, dYes, jSeq, jRng1, jRng2, dCB, dLen, dList, dListM, dTuple, dAbs, dInt, dBM0, dBM, dAppend, dPop, dPopAt, dAndV, dNotV, dNeg, dIn, dNoPart, dPart, dSl, dSlM, dNewK, dIsi, dIsiT, dLc, dFor, dDc, dCallS, dRaise, dTry, dIsE, dSortD, dFrzE, jKeys, dIndexD, dEqS, dReprG, if_true, if_false, ite_true, ite_false, Bool.false_eq_true, reduceIte, Bool.not_true, Bool.not_false, List.getElem?_cons_zero, List.getElem?_cons_succ, List.set_cons_zero, List.set_cons_succ, List.map_cons, List.map_nil, List.replicate, List.cons_append, List.nil_append, List.length_cons, List.length_nil, dstart]
    refine ⟨_, il2 hp, rfl, rfl, ?_⟩
    rw [D.eq_int]
    have stay : nx [some (.ref p), some (.int n), none, none, none] M := hn _ _ ⟨none, ns, a, r, m, c, rfl, hp, hr0, ha0, Agree.refl _ _⟩
    by_cases hr1 : r = 0
    · simp only [hr1, beq_self_eq_true, if_true, if_false, ite_true, ite_false, Bool.false_eq_true, reduceIte, Bool.not_true, Bool.not_false, List.getElem?_cons_zero, List.getElem?_cons_succ, List.set_cons_zero, List.set_cons_succ, List.map_cons, List.map_nil, List.replicate, List.cons_append, List.nil_append, List.length_cons, List.length_nil, dstart]
      subst hr1
      refine ⟨_, il1 hp, _, il0 hp, ns.length, by simp [lenV], ?_⟩
      by_cases hal : a < (ns.length : Int)
      · simp only [decide_eq_true hal, if_true, if_false, ite_true, ite_false, Bool.false_eq_true, reduceIte, Bool.not_true, Bool.not_false, List.getElem?_cons_zero, List.getElem?_cons_succ, List.set_cons_zero, List.set_cons_succ, List.map_cons, List.map_nil, List.replicate, List.cons_append, List.nil_append, List.length_cons, List.length_nil, dstart]
        have hk : a.toNat < ns.length := by omega
        have e1 : ns[a.toNat]? = some ns[a.toNat] := List.getElem?_eq_getElem hk
        generalize ns[a.toNat] = x at e1
        have e2 : dIxV M (.lst (ns.map .int)) (.int a) = some (.int x) := atI_at (k := a.toNat) (by omega) (by rw [List.getElem?_map, e1]; rfl)
        have h3 := mset_same (M := M) (a := p) (o := .lst (dilL ns (a + 1) 0 m c))
        refine ⟨_, il0 hp, _, il1 hp, _, e2, _, il1 hp, _, sl1 hp, ⟨by decide, by decide, by decide⟩, ?_⟩
        by_cases hx : (10 : Int) ^ (18 : Int).toNat ≤ x
        · simp only [decide_eq_true hx, if_true, if_false, ite_true, ite_false, Bool.false_eq_true, reduceIte, Bool.not_true, Bool.not_false, List.getElem?_cons_zero, List.getElem?_cons_succ, List.set_cons_zero, List.set_cons_succ, List.map_cons, List.map_nil, List.replicate, List.cons_append, List.nil_append, List.length_cons, List.length_nil, dstart]
          refine ⟨_, sl2 h3, hn _ _ ⟨_, ns, a + 1, x, m, c, rfl, ?_, ?_, by omega, ?_⟩⟩
          · rw [mset_mset]; exact mset_same
          · have : (0 : Int) ≤ 10 ^ (18 : Int).toNat := by decide
            omega
          · rw [mset_mset]; exact Agree.mset (by simp)
        · simp only [decide_eq_false hx, if_true, if_false, ite_true, ite_false, Bool.false_eq_true, reduceIte, Bool.not_true, Bool.not_false, List.getElem?_cons_zero, List.getElem?_cons_succ, List.set_cons_zero, List.set_cons_succ, List.map_cons, List.map_nil, List.replicate, List.cons_append, List.nil_append, List.length_cons, List.length_nil, dstart]
          refine ⟨_, il3 h3, cmulR (by decide), cmulR (by decide), _, il1 h3, ?_⟩
          dsimp only
          refine ⟨by decide, _, sl3 h3, hn _ _ ⟨_, ns, a + 1, 0, (m * 69621 + x * 40692 + (a + 1)) % 2147483647, c, rfl, ?_, by omega, by omega, ?_⟩⟩
          · rw [mset_mset]; exact mset_same
          · rw [mset_mset]; exact Agree.mset (by simp)
      · simp only [decide_eq_false hal, if_true, if_false, ite_true, ite_false, Bool.false_eq_true, reduceIte, Bool.not_true, Bool.not_false, List.getElem?_cons_zero, List.getElem?_cons_succ, List.set_cons_zero, List.set_cons_succ, List.map_cons, List.map_nil, List.replicate, List.cons_append, List.nil_append, List.length_cons, List.length_nil, dstart]
        exact stay
    · rw [beq_eq_false_iff_ne.mpr hr1]
      simp only [if_true, if_false, ite_true, ite_false, Bool.false_eq_true, reduceIte, Bool.not_true, Bool.not_false, List.getElem?_cons_zero, List.getElem?_cons_succ, List.set_cons_zero, List.set_cons_succ, List.map_cons, List.map_nil, List.replicate, List.cons_append, List.nil_append, List.length_cons, List.length_nil, dstart]
      exact stay
theorem sc__law_bent : FnScope ["_law_dice_here", "_law_many", "_law_log_here", "_law_made", "_law_at", "_law_word_here", "_law_content", "_law_kind", "_law_odd"] ["_law_dice_here", "_law_many", "_law_log_here"] (defScope s__law_bent) := ⟨rfl, rfl, rfl, by decide +kernel, rfl, by decide +kernel, by decide +kernel⟩
def sp__law_bent : DSp := fun ds M Q _ => ∃ (p : Addr) (n : Int) (es : List (Bool × Int)), ds = [.ref p, .int n, .lst (es.map entD)] ∧ DiL M p ∧ 1 ≤ n ∧ n ≤ 8 ∧ 1 ≤ es.length ∧ es.length ≤ 12 ∧ (∀ e ∈ es, 0 ≤ e.2 ∧ e.2 < n) ∧ (∀ v M2, DiL M2 p → Ext M M2 [p] → ThG v → Q v M2) ∧ (∀ a L M2, DiL M2 p → Ext M M2 [p] → M2 a = some (.lst L) → M a = none → ThG (.lst L) → Q (.ref a) M2)
theorem c__law_bent (F : DFun K mg "_law_bent" s__law_bent ["_law_dice_here", "_law_many", "_law_log_here"]) (B : Bn mg) (G : Gs mg) (c__law_deep : DCal P w K mg base CX0 1 "_law_deep" sp__law_deep) (c__law_draw : DCal P w K mg base CX0 1 "_law_draw" sp__law_draw) : DCal P w K mg base CX0 2 "_law_bent" sp__law_bent := by
  refine dok F sc__law_bent (fun ds M Q E h => (by obtain ⟨_, h⟩ := h; first | (obtain ⟨e, _⟩ := h; subst e; rfl) | (obtain ⟨_, e, _⟩ := h; subst e; rfl) | (obtain ⟨_, _, e, _⟩ := h; subst e; rfl) | (obtain ⟨_, _, _, e, _⟩ := h; subst e; rfl) | (obtain ⟨_, _, _, _, e, _⟩ := h; subst e; rfl) | (obtain ⟨_, _, _, _, _, e, _⟩ := h; subst e; rfl) | (obtain ⟨_, _, _, _, _, _, e, _⟩ := h; subst e; rfl) | (obtain ⟨_, _, _, _, _, _, _, e, _⟩ := h; subst e; rfl) | (obtain ⟨_, _, _, _, _, _, _, _, e, _⟩ := h; subst e; rfl) | (obtain ⟨_, _, _, _, _, _, _, _, _, e, _⟩ := h; subst e; rfl) | (obtain ⟨_, _, _, _, _, _, _, _, _, _, e, _⟩ := h; subst e; rfl) | (obtain ⟨_, _, _, _, _, _, _, _, _, _, _, e, _⟩ := h; subst e; rfl) | (obtain ⟨_, _, _, _, _, _, _, _, _, _, _, _, e, _⟩ := h; subst e; rfl) | (obtain ⟨_, _, _, _, _, _, _, _, _, _, _, _, _, e, _⟩ := h; subst e; rfl) | (obtain ⟨_, _, _, _, _, _, _, _, _, _, _, _, _, _, e, _⟩ := h; subst e; rfl) | (obtain ⟨_, _, _, _, _, _, _, _, _, _, _, _, _, _, _, e, _⟩ := h; subst e; rfl) | (obtain ⟨_, _, _, _, _, _, _, _, _, _, _, _, _, _, _, _, e, _⟩ := h; subst e; rfl) | (obtain ⟨_, _, _, _, _, _, _, _, _, _, _, _, _, _, _, _, _, e, _⟩ := h; subst e; rfl) | (obtain ⟨_, _, _, _, _, _, _, _, _, _, _, _, _, _, _, _, _, _, e, _⟩ := h; subst e; rfl) | (obtain ⟨_, _, _, _, _, _, _, _, _, _, _, _, _, _, _, _, _, _, _, e, _⟩ := h; subst e; rfl) | (obtain ⟨_, _, _, _, _, _, _, _, _, _, _, _, _, _, _, _, _, _, _, _, e, _⟩ := h; subst e; rfl) | (obtain ⟨_, _, _, _, _, _, _, _, _, _, _, _, _, _, _, _, _, _, _, _, _, e, _⟩ := h; subst e; rfl) | (obtain ⟨_, _, _, _, _, _, _, _, _, _, _, _, _, _, _, _, _, _, _, _, _, _, e, _⟩ := h; subst e; rfl) | (obtain ⟨_, _, _, _, _, _, _, _, _, _, _, _, _, _, _, _, _, _, _, _, _, _, _, e, _⟩ := h; subst e; rfl) | (obtain ⟨_, _, _, _, _, _, _, _, _, _, _, _, _, _, _, _, _, _, _, _, _, _, _, _, e, _⟩ := h; subst e; rfl) | (obtain ⟨_, _, _, _, _, _, _, _, _, _, _, _, _, _, _, _, _, _, _, _, _, _, _, _, _, e, _⟩ := h; subst e; rfl))) (fun f cdv A outer s H E F0 hr => ?_)
  have nd := (sc__law_bent).nd
  refine ⟨_, _, (db_cons (ds_set 3 nd (de_bty (call_listA rfl) lc_listM B.list (da_cons (de_var 2) da_nil)))
      (db_cons (ds_set 4 nd (de_call c__law_draw hr (goes0A (E := DXK.no)) (da_cons (de_var 0) (da_cons (de_len B.len (da_cons (de_var 3) da_nil)) da_nil))))
      (db_cons (ds_asg (de_ix hr (de_var 3) (de_var 4)) (dg_tup (n := 2) rfl (dgs_cons (dg_name 5 nd) (dgs_cons (dg_name 6 nd) dgs_nil))))
      (db_cons (ds_set 7 nd (de_call c__law_draw hr (goes0A (E := DXK.no)) (da_cons (de_var 0) (da_cons de_int da_nil))))
      (db_cons (ds_if (dt_lt (de_var 7) de_int) (db_cons (ds_set 8 nd (de_lst (da_cons (de_tup (da_cons (de_var 5) (da_cons (de_var 1) da_nil))) (da_cons (de_tup (da_cons (de_var 5) (da_cons (de_neg de_int) da_nil))) (da_cons (de_tup (da_cons (de_var 5) (da_cons de_bl da_nil))) (da_cons (de_tup (da_cons (de_var 5) (da_cons de_non da_nil))) (da_cons (de_tup (da_cons de_str (da_cons (de_var 6) da_nil))) (da_cons (de_tup (da_cons de_str (da_cons (de_var 6) da_nil))) (da_cons (de_tup (da_cons (de_var 5) da_nil)) da_nil)))))))))
      (db_cons (ds_set 8 nd (de_catL (de_var 8) (de_lst (da_cons (de_tup (da_cons (de_var 5) (da_cons (de_var 6) (da_cons de_int da_nil)))) (da_cons (de_lst (da_cons (de_var 5) (da_cons (de_var 6) da_nil))) (da_cons de_non (da_cons (de_var 5) da_nil)))))))
      (db_cons (ds_set 8 nd (de_catL (de_var 8) (de_lst (da_cons (de_var 6) (da_cons (de_tup (da_cons de_int (da_cons (de_var 6) da_nil))) (da_cons (de_tup (da_cons (de_var 5) (da_cons (de_bty call_strN lc_strN B.str (da_cons (de_var 6) da_nil)) da_nil))) (da_cons (de_call0 c__law_deep hr (goes0A (E := DXK.no))) da_nil)))))))
      (db_one (ds_put hr (de_var 3) (de_var 4) (de_ix hr (de_var 8) (de_call c__law_draw hr (goes0A (E := DXK.no)) (da_cons (de_var 0) (da_cons de_int da_nil))))))))) (db_one (ds_if (dt_eq hr (de_var 7) de_int) (db_one (ds_set 3 nd (de_repM (de_var 3) de_int))) (db_one (ds_if (dt_eq hr (de_var 7) de_int) (db_one (ds_set 3 nd (de_sliceM (de_rep (de_var 3) de_int) do_none (do_some (de_add de_int (de_call c__law_draw hr (goes0A (E := DXK.no)) (da_cons (de_var 0) (da_cons de_int da_nil)))))))) (db_one (ds_if (dt_eq hr (de_var 7) de_int) (db_one (ds_ret (de_ix hr (de_lst (da_cons de_non (da_cons de_int (da_cons (de_frzA de_newK) (da_cons de_str (da_cons de_bl (da_cons (de_ix hr (de_var 3) (de_var 4)) (da_cons (de_call0 c__law_deep hr (goes0A (E := DXK.no))) da_nil)))))))) (de_call c__law_draw hr (goes0A (E := DXK.no)) (da_cons (de_var 0) (da_cons de_int da_nil)))))) db_nil)))))))
      (db_one (ds_ret (de_ifExp (dt_eq hr (de_call c__law_draw hr (goes0A (E := DXK.no)) (da_cons (de_var 0) (da_cons de_int da_nil))) de_int) (de_var 3) (de_bty call_tuple_of lc_tuple B.tuple (da_cons (de_var 3) da_nil)))))))))), ?_⟩
  rintro ds M Q E ⟨p, n, es, rfl, hp, n1, n8, e1, e12, er, q1, q2⟩
  have eg : ∀ e ∈ es, EntG 400 (entD e) := fun e he => entG_of (ent_all e.2 (mem8 (er e he).1 (by have := (er e he).2; omega)) e.1 (by cases e.1 <;> simp))
  refine dSeq_then (fun γ' M' => ∃ a, γ' = [some (.ref p), some (.int n), some (.lst (es.map entD)), some (.ref a), none, none, none, none, none] ∧ M a = none ∧ a ≠ p ∧ M' = mset M a (.lst (es.map entD))) (fun nx hn => ?_) (fun γ1 M1 h => ?_)
  · simp only [dVar, dC, dOp, dTest, dII, dIC, dFld, dFldS, dMake, dProp, dLcM, toM, dppNil, dppCons, dMerge, dDisp, dCatL, dRep, dRepM, dExtend, dChain, dEq, dAnd, dOr, dNot, dIfE, dNext, dSeq, dDrop, dRet, dIfS, dNever, dFrz, hName, hNil, hCons, hTup, hSub, dAsg, dAug, dipI, dNil, dCons, dTup, dLst, dLstM, dIx, dSet, dCall, dwipe, dYes, jSeq, jRng1, jRng2, dCB, dLen, dList, dListM, dTuple, dAbs, dInt, dBM0, dBM, dAppend, dPop, dPopAt, dAndV, dNotV, dNeg, dIn, dNoPart, dPart, dSl, dSlM, dNewK, dIsi, dIsiT, dLc, dFor, dDc, dCallS, dRaise, dTry, dIsE, dSortD, dFrzE, jKeys, dIndexD, dEqS, dReprG, if_true, if_false, ite_true, ite_false, Bool.false_eq_true, reduceIte, Bool.not_true, Bool.not_false, List.getElem?_cons_zero, List.getElem?_cons_succ, List.set_cons_zero, List.set_cons_succ, List.map_cons, List.map_nil, List.replicate, List.cons_append, List.nil_append, List.length_cons, List.length_nil, dstart]
    exact ⟨_, rfl, fun a ha => hn _ _ ⟨a, rfl, ha, hp.some ha, rfl⟩⟩
  obtain ⟨a, rfl, ha, nap, rfl⟩ := h
  have nap' : a ∉ [p] := by simpa using nap
  refine dSeq_then (fun γ' M' => ∃ at0 : Int, γ' = [some (.ref p), some (.int n), some (.lst (es.map entD)), some (.ref a), some (.int at0), none, none, none, none] ∧ 0 ≤ at0 ∧ at0 < es.length ∧ DiL M' p ∧ Ext M M' [p] ∧ M' a = some (.lst (es.map entD))) (fun nx hn => ?_) (fun γ1 M1 h => ?_)
  · simp only [dVar, dC, dOp, dTest, dII, dIC, dFld, dFldS, dMake, dProp, dLcM, toM, dppNil, dppCons, dMerge, dDisp, dCatL, dRep, dRepM, dExtend, dChain, dEq, dAnd, dOr, dNot, dIfE, dNext, dSeq, dDrop, dRet, dIfS, dNever, dFrz, hName, hNil, hCons, hTup, hSub, dAsg, dAug, dipI, dNil, dCons, dTup, dLst, dLstM, dIx, dSet, dCall, dwipe, dYes, jSeq, jRng1, jRng2, dCB, dLen, dList, dListM, dTuple, dAbs, dInt, dBM0, dBM, dAppend, dPop, dPopAt, dAndV, dNotV, dNeg, dIn, dNoPart, dPart, dSl, dSlM, dNewK, dIsi, dIsiT, dLc, dFor, dDc, dCallS, dRaise, dTry, dIsE, dSortD, dFrzE, jKeys, dIndexD, dEqS, dReprG, if_true, if_false, ite_true, ite_false, Bool.false_eq_true, reduceIte, Bool.not_true, Bool.not_false, List.getElem?_cons_zero, List.getElem?_cons_succ, List.set_cons_zero, List.set_cons_succ, List.map_cons, List.map_nil, List.replicate, List.cons_append, List.nil_append, List.length_cons, List.length_nil, dstart]
    refine ⟨es.length, by simp only [lenV, mset_same, List.length_map], p, es.length, rfl, hp.mset nap, by omega, by omega, fun r M2 r0 r1 d2 a2 => hn _ _ ⟨r, rfl, r0, r1, d2, ((Ext.refl M [p]).mset ha).trans a2.ext, (a2 a nap').trans mset_same⟩⟩
  obtain ⟨at0, rfl, a0, a1, hp1, E1, hl1⟩ := h
  obtain ⟨⟨bo, ct⟩, hent⟩ : ∃ e, es[at0.toNat]? = some e := ⟨_, List.getElem?_eq_getElem (by omega)⟩
  have cr := er _ (List.mem_of_getElem? hent)
  refine dSeq_then (fun γ' M' => ∃ wd : Str, γ' = [some (.ref p), some (.int n), some (.lst (es.map entD)), some (.ref a), some (.int at0), some (.str wd), some (.int ct), none, none] ∧ (wd = "order" ∨ wd = "read") ∧ M1 = M') (fun nx hn => ?_) (fun γ1 M1 h => ?_)
  · simp only [dVar, dC, dOp, dTest, dII, dIC, dFld, dFldS, dMake, dProp, dLcM, toM, dppNil, dppCons, dMerge, dDisp, dCatL, dRep, dRepM, dExtend, dChain, dEq, dAnd, dOr, dNot, dIfE, dNext, dSeq, dDrop, dRet, dIfS, dNever, dFrz, hName, hNil, hCons, hTup, hSub, dAsg, dAug, dipI, dNil, dCons, dTup, dLst, dLstM, dIx, dSet, dCall, dwipe, dYes, jSeq, jRng1, jRng2, dCB, dLen, dList, dListM, dTuple, dAbs, dInt, dBM0, dBM, dAppend, dPop, dPopAt, dAndV, dNotV, dNeg, dIn, dNoPart, dPart, dSl, dSlM, dNewK, dIsi, dIsiT, dLc, dFor, dDc, dCallS, dRaise, dTry, dIsE, dSortD, dFrzE, jKeys, dIndexD, dEqS, dReprG, if_true, if_false, ite_true, ite_false, Bool.false_eq_true, reduceIte, Bool.not_true, Bool.not_false, List.getElem?_cons_zero, List.getElem?_cons_succ, List.set_cons_zero, List.set_cons_succ, List.map_cons, List.map_nil, List.replicate, List.cons_append, List.nil_append, List.length_cons, List.length_nil, dstart]
    refine ⟨entD (bo, ct), by simp only [dIxV, hl1]; exact atI_at (k := at0.toNat) (by omega) (by rw [List.getElem?_map, hent]; rfl), rfl, hn _ _ ⟨_, rfl, ?_, rfl⟩⟩
    cases bo with
    | true => exact .inl rfl
    | false => exact .inr rfl
  obtain ⟨wd, rfl, hw, rfl⟩ := h
  refine dSeq_then (fun γ' M' => ∃ kd : Int, γ' = [some (.ref p), some (.int n), some (.lst (es.map entD)), some (.ref a), some (.int at0), some (.str wd), some (.int ct), some (.int kd), none] ∧ 0 ≤ kd ∧ kd < 6 ∧ DiL M' p ∧ Ext M M' [p] ∧ M' a = some (.lst (es.map entD))) (fun nx hn => ?_) (fun γ1 M2 h => ?_)
  · simp only [dVar, dC, dOp, dTest, dII, dIC, dFld, dFldS, dMake, dProp, dLcM, toM, dppNil, dppCons, dMerge, dDisp, dCatL, dRep, dRepM, dExtend, dChain, dEq, dAnd, dOr, dNot, dIfE, dNext, dSeq, dDrop, dRet, dIfS, dNever, dFrz, hName, hNil, hCons, hTup, hSub, dAsg, dAug, dipI, dNil, dCons, dTup, dLst, dLstM, dIx, dSet, dCall, dwipe, dYes, jSeq, jRng1, jRng2, dCB, dLen, dList, dListM, dTuple, dAbs, dInt, dBM0, dBM, dAppend, dPop, dPopAt, dAndV, dNotV, dNeg, dIn, dNoPart, dPart, dSl, dSlM, dNewK, dIsi, dIsiT, dLc, dFor, dDc, dCallS, dRaise, dTry, dIsE, dSortD, dFrzE, jKeys, dIndexD, dEqS, dReprG, if_true, if_false, ite_true, ite_false, Bool.false_eq_true, reduceIte, Bool.not_true, Bool.not_false, List.getElem?_cons_zero, List.getElem?_cons_succ, List.set_cons_zero, List.set_cons_succ, List.map_cons, List.map_nil, List.replicate, List.cons_append, List.nil_append, List.length_cons, List.length_nil, dstart]
    exact ⟨p, 6, rfl, hp1, by decide, by decide, fun r M2 r0 r1 d2 a2 => hn _ _ ⟨r, rfl, r0, r1, d2, E1.trans a2.ext, (a2 a nap').trans hl1⟩⟩
  obtain ⟨kd, rfl, k0, k1, hp2, E2, hl2⟩ := h
  have egl : ∀ e ∈ es.map entD, EntG 400 e := fun e he => by
    obtain ⟨x, hx, rfl⟩ := List.mem_map.mp he
    exact eg x hx
  have odd : ∀ e ∈ oddL n ct wd, EntG 6000 e := fun e he => entG_of (List.all_eq_true.mp (odd_all n (mem9 n1 n8) ct (mem8 cr.1 (by omega)) wd (by rcases hw with rfl | rfl <;> simp)) e he)
  have lt12 : (es.map entD).length ≤ 12 := by rw [List.length_map]; omega
  refine dSeq_then (fun γ' M' => ∃ (o8 : Option D) (a : Addr) (L : List D), γ' = [some (.ref p), some (.int n), some (.lst (es.map entD)), some (.ref a), some (.int at0), some (.str wd), some (.int ct), some (.int kd), o8] ∧ DiL M' p ∧ Ext M M' [p] ∧ M' a = some (.lst L) ∧ M a = none ∧ ThG (.lst L) ∧ ThG (.tup L)) (fun nx hn => ?_) (fun γ1 M3 h => ?_)
  · simp only [dVar, dC, dOp, dTest, dII, dIC, dFld, dFldS, dMake, dProp, dLcM, toM, dppNil, dppCons, dMerge, dDisp, dCatL, dRep, dRepM, dExtend, dChain, dEq, dAnd, dOr, dNot, dIfE, dNext, dSeq, dDrop, dRet, dIfS, dNever, dFrz, hName, hNil, hCons, hTup, hSub, dAsg, dAug, dipI, dNil, dCons, dTup, dLst, dLstM, dIx, dSet, dCall, dwipe, dYes, jSeq, jRng1, jRng2, dCB, dLen, dList, dListM, dTuple, dAbs, dInt, dBM0, dBM, dAppend, dPop, dPopAt, dAndV, dNotV, dNeg, dIn, dNoPart, dPart, dSl, dSlM, dNewK, dIsi, dIsiT, dLc, dFor, dDc, dCallS, dRaise, dTry, dIsE, dSortD, dFrzE, jKeys, dIndexD, dEqS, dReprG, if_true, if_false, ite_true, ite_false, Bool.false_eq_true, reduceIte, Bool.not_true, Bool.not_false, List.getElem?_cons_zero, List.getElem?_cons_succ, List.set_cons_zero, List.set_cons_succ, List.map_cons, List.map_nil, List.replicate, List.cons_append, List.nil_append, List.length_cons, List.length_nil, dstart]
    by_cases c1 : kd < 2
    · rw [if_pos (by simpa using c1)]
      refine ⟨by decide, by decide, by decide, by decide, by decide, by decide, by decide, by decide, by decide, by decide, by decide, _, _, rfl, rfl, Nat.le_of_ble_eq_true rfl, by decide, ⟨by omega, ?_⟩⟩
      refine ⟨by decide, (), rfl, by decide, _, _, rfl, rfl, Nat.le_of_ble_eq_true rfl, p, 15, rfl, hp2, by decide, by decide, fun r M3 r0 r1 d3 a3 => ?_⟩
      obtain ⟨e, he⟩ : ∃ e, (oddL n ct wd)[r.toNat]? = some e := ⟨_, List.getElem?_eq_getElem (by show r.toNat < 15; omega)⟩
      have hl3 : M3 a = some (.lst (es.map entD)) := (a3 a nap').trans hl2
      refine ⟨e, ixL_at (k := r.toNat) (by omega) he, _, by simp only [dStore, hl3, ixN_of (show at0 = ((at0.toNat : Nat) : Int) by omega) (show at0.toNat < (es.map entD).length by rw [List.length_map]; omega)]; rfl, hn _ _ ⟨_, a, _, rfl, d3.mset nap, (E2.trans a3.ext).mset ha, mset_same, ha, ?_⟩⟩
      refine th_of (k := 6000) (by rw [List.length_set]; omega) fun x hx => ?_
      rcases List.mem_or_eq_of_mem_set hx with z | z
      · have := egl x z; exact ⟨this.1, this.2.1, by have := this.2.2; omega⟩
      · rw [z]; exact odd e (List.mem_of_getElem? he)
    rw [if_neg (by simpa using c1)]
    refine ⟨rfl, rfl, ?_⟩
    rw [D.eq_int]
    have rep : ∀ k : Nat, ∀ e ∈ (List.replicate k (es.map entD)).flatten, EntG 400 e := fun k e he => by
      obtain ⟨l, hl, he⟩ := List.mem_flatten.mp he
      rw [List.eq_of_mem_replicate hl] at he
      exact egl e he
    by_cases c2 : kd = 2
    · rw [if_pos (by simpa using c2)]
      refine ⟨es.map entD, by simp only [lstOf, hl2], by decide, by decide, len_ok (by show (es.map entD).length * 9 ≤ _; omega), fun a2 ha2 => hn _ _ ⟨none, a2, _, rfl, hp2.mset (hp2.some ha2), E2.mset (E2.fresh (by simpa using hp2.some ha2) ha2), mset_same, E2.fresh (by simpa using hp2.some ha2) ha2, th_of (k := 400) ?_ (rep 9)⟩⟩
      rw [rep_len]; show (es.map entD).length * 9 * 401 ≤ _; omega
    rw [if_neg (by simpa using c2)]
    refine ⟨rfl, rfl, ?_⟩
    rw [D.eq_int]
    by_cases c3 : kd = 3
    · rw [if_pos (by simpa using c3)]
      refine ⟨es.map entD, by simp only [lstOf, hl2], by decide, by decide, len_ok (by show (es.map entD).length * 41 ≤ _; omega), p, 4, rfl, hp2, by decide, by decide, fun r M3 r0 r1 d3 a3 => ?_⟩
      have E3 := E2.trans a3.ext
      show ∀ a2, M3 a2 = none → _
      refine fun a2 ha2 => hn _ _ ⟨none, a2, _, rfl, d3.mset (d3.some ha2), E3.mset (E3.fresh (by simpa using d3.some ha2) ha2), mset_same, E3.fresh (by simpa using d3.some ha2) ha2, ?_⟩
      rw [cut_take (by omega)]
      have cl : ((List.replicate (Int.toNat 41) (es.map entD)).flatten.take (39 + r).toNat).length ≤ 42 := by
        rw [List.length_take]; omega
      exact th_of (k := 400) (by omega) fun e he => rep _ e (List.mem_of_mem_take he)
    rw [if_neg (by simpa using c3)]
    refine ⟨rfl, rfl, ?_⟩
    rw [D.eq_int]
    by_cases c4 : kd = 4
    · rw [if_pos (by simpa using c4)]
      intro p1 hp1'
      refine ⟨.dk [] [], _, by simp only [frzV, mset_same]; rfl, ?_⟩
      rw [show mdel (mset M2 p1 (.dK [])) p1 = M2 from mdel_mset hp1']
      refine ⟨entD (bo, ct), by simp only [dIxV, hl2]; exact atI_at (k := at0.toNat) (by omega) (by rw [List.getElem?_map, hent]; rfl), ?_⟩
      refine ⟨(), rfl, by decide, p, 7, rfl, hp2, by decide, by decide, fun r M3 r0 r1 d3 a3 => ?_⟩
      obtain ⟨e, he⟩ : ∃ e, [D.non, D.int 0, D.dk [] [], D.str (Str.ofString "log"), D.bl true, entD (bo, ct), .tup (dpL 36)][r.toNat]? = some e := ⟨_, List.getElem?_eq_getElem (by show r.toNat < 7; omega)⟩
      refine ⟨e, ixL_at (k := r.toNat) (by omega) he, fin_self (q1 e M3 d3 (E2.trans a3.ext) ?_)⟩
      exact thAll (bo, ct) (eg _ (List.mem_of_getElem? hent)) e (List.mem_of_getElem? he)
    rw [if_neg (by simpa using c4)]
    refine hn _ _ ⟨none, a, _, rfl, hp2, E2, hl2, ha, th_of (k := 400) ?_ egl⟩
    omega
  obtain ⟨o8, a, L, rfl, hp3, E3, hl3, ha3, tg⟩ := h
  simp only [dVar, dC, dOp, dTest, dII, dIC, dFld, dFldS, dMake, dProp, dLcM, toM, dppNil, dppCons, dMerge, dDisp, dCatL, dRep, dRepM, dExtend, dChain, dEq, dAnd, dOr, dNot, dIfE, dNext, dSeq, dDrop, dRet, dIfS, dNever, dFrz, hName, hNil, hCons, hTup, hSub, dAsg, dAug, dipI, dNil, dCons, dTup, dLst, dLstM, dIx, dSet, dCall, dwipe, dYes, jSeq, jRng1, jRng2, dCB, dLen, dList, dListM, dTuple, dAbs, dInt, dBM0, dBM, dAppend, dPop, dPopAt, dAndV, dNotV, dNeg, dIn, dNoPart, dPart, dSl, dSlM, dNewK, dIsi, dIsiT, dLc, dFor, dDc, dCallS, dRaise, dTry, dIsE, dSortD, dFrzE, jKeys, dIndexD, dEqS, dReprG, if_true, if_false, ite_true, ite_false, Bool.false_eq_true, reduceIte, Bool.not_true, Bool.not_false, List.getElem?_cons_zero, List.getElem?_cons_succ, List.set_cons_zero, List.set_cons_succ, List.map_cons, List.map_nil, List.replicate, List.cons_append, List.nil_append, List.length_cons, List.length_nil, dstart]
  refine ⟨p, 2, rfl, hp3, by decide, by decide, fun r M4 r0 r1 d4 a4 => ⟨rfl, rfl, ?_⟩⟩
  have nap3 : a ≠ p := hp.some ha3
  have hl4 : M4 a = some (.lst L) := (a4 a (by simpa using nap3)).trans hl3
  rw [D.eq_int]
  by_cases r2 : r = 0
  · rw [if_pos (by simpa using r2)]
    exact fin_self (q2 a L M4 d4 (E3.trans a4.ext) hl4 ha3 tg.1)
  · rw [if_neg (by simpa using r2)]
    simp only [hl4]
    exact fin_self (q1 _ M4 d4 (E3.trans a4.ext) tg.2)
theorem sc__law_drawn_ties : FnScope ["_law_dice_here", "_law_many", "_law_pairs_here", "_law_left", "_law_found", "_law_known", "_law_turn", "_law_fitting", "_law_pair", "_law_more", "_law_content"] ["_law_dice_here", "_law_many", "_law_pairs_here"] (defScope s__law_drawn_ties) := ⟨rfl, rfl, rfl, by decide +kernel, rfl, by decide +kernel, by decide +kernel⟩
def sp__law_drawn_ties : DSp := fun ds M Q _ => ∃ (p l : Addr) (m : Int) (its : List (Int × Int)), ds = [.ref p, .int m, .ref l] ∧ DiL M p ∧ 1 ≤ m ∧ m ≤ 8 ∧ M l = some (.lst (its.map prD)) ∧ its.Perm (allPrs m m.toNat) ∧ ∀ ps M2, DiL M2 p → Ext M M2 [p] → BookOk m ps → Q (.tup (ps.map prD)) M2
theorem c__law_drawn_ties (F : DFun K mg "_law_drawn_ties" s__law_drawn_ties ["_law_dice_here", "_law_many", "_law_pairs_here"]) (B : Bn mg) (G : Gs mg) (c__law_draw : DCal P w K mg base CX0 1 "_law_draw" sp__law_draw) : DCal P w K mg base CX0 2 "_law_drawn_ties" sp__law_drawn_ties := by
  refine dok F sc__law_drawn_ties (fun ds M Q E h => (by obtain ⟨_, h⟩ := h; first | (obtain ⟨e, _⟩ := h; subst e; rfl) | (obtain ⟨_, e, _⟩ := h; subst e; rfl) | (obtain ⟨_, _, e, _⟩ := h; subst e; rfl) | (obtain ⟨_, _, _, e, _⟩ := h; subst e; rfl) | (obtain ⟨_, _, _, _, e, _⟩ := h; subst e; rfl) | (obtain ⟨_, _, _, _, _, e, _⟩ := h; subst e; rfl) | (obtain ⟨_, _, _, _, _, _, e, _⟩ := h; subst e; rfl) | (obtain ⟨_, _, _, _, _, _, _, e, _⟩ := h; subst e; rfl) | (obtain ⟨_, _, _, _, _, _, _, _, e, _⟩ := h; subst e; rfl) | (obtain ⟨_, _, _, _, _, _, _, _, _, e, _⟩ := h; subst e; rfl) | (obtain ⟨_, _, _, _, _, _, _, _, _, _, e, _⟩ := h; subst e; rfl) | (obtain ⟨_, _, _, _, _, _, _, _, _, _, _, e, _⟩ := h; subst e; rfl) | (obtain ⟨_, _, _, _, _, _, _, _, _, _, _, _, e, _⟩ := h; subst e; rfl) | (obtain ⟨_, _, _, _, _, _, _, _, _, _, _, _, _, e, _⟩ := h; subst e; rfl) | (obtain ⟨_, _, _, _, _, _, _, _, _, _, _, _, _, _, e, _⟩ := h; subst e; rfl) | (obtain ⟨_, _, _, _, _, _, _, _, _, _, _, _, _, _, _, e, _⟩ := h; subst e; rfl) | (obtain ⟨_, _, _, _, _, _, _, _, _, _, _, _, _, _, _, _, e, _⟩ := h; subst e; rfl) | (obtain ⟨_, _, _, _, _, _, _, _, _, _, _, _, _, _, _, _, _, e, _⟩ := h; subst e; rfl) | (obtain ⟨_, _, _, _, _, _, _, _, _, _, _, _, _, _, _, _, _, _, e, _⟩ := h; subst e; rfl) | (obtain ⟨_, _, _, _, _, _, _, _, _, _, _, _, _, _, _, _, _, _, _, e, _⟩ := h; subst e; rfl) | (obtain ⟨_, _, _, _, _, _, _, _, _, _, _, _, _, _, _, _, _, _, _, _, e, _⟩ := h; subst e; rfl) | (obtain ⟨_, _, _, _, _, _, _, _, _, _, _, _, _, _, _, _, _, _, _, _, _, e, _⟩ := h; subst e; rfl) | (obtain ⟨_, _, _, _, _, _, _, _, _, _, _, _, _, _, _, _, _, _, _, _, _, _, e, _⟩ := h; subst e; rfl) | (obtain ⟨_, _, _, _, _, _, _, _, _, _, _, _, _, _, _, _, _, _, _, _, _, _, _, e, _⟩ := h; subst e; rfl) | (obtain ⟨_, _, _, _, _, _, _, _, _, _, _, _, _, _, _, _, _, _, _, _, _, _, _, _, e, _⟩ := h; subst e; rfl) | (obtain ⟨_, _, _, _, _, _, _, _, _, _, _, _, _, _, _, _, _, _, _, _, _, _, _, _, _, e, _⟩ := h; subst e; rfl))) (fun f cdv A outer s H E F0 hr => ?_)
  have nd := (sc__law_drawn_ties).nd
  refine ⟨_, _, (db_cons (ds_set 3 nd (de_bty (call_listA rfl) lc_list B.list (da_cons (de_var 2) da_nil)))
      (db_cons (ds_set 4 nd (de_lstM da_nil))
      (db_cons (ds_set 5 nd (de_lstM (da_cons de_int da_nil)))
      (db_cons (ds_for PassesOwn.never rfl (di_range1 B.range (da_cons (de_sub (de_var 1) de_int) da_nil)) (dg_name 6 nd) (db_cons (dx_setLc 7 (own := [("_law_pair", 8)]) rfl nd (sw_true rfl rfl rfl (by decide +kernel)) (di_seq (de_var 3)) (blkOk_by (N := ["_law_dice_here", "_law_many", "_law_pairs_here", "_law_left", "_law_found", "_law_known", "_law_turn", "_law_fitting", "_law_pair", "_law_more", "_law_content"]) (sc := defScope s__law_drawn_ties) (by decide +kernel)) (fun _ _ _ _ _ => ⟨_, (dg_name 8 nd), (gw_name (by decide))⟩) (fun _ _ _ _ _ => ⟨_, (dts_one (dt_ne hr (de_in hr (de_ix hr (de_var 8) de_int) (de_var 5)) (de_in hr (de_ix hr (de_var 8) de_int) (de_var 5))))⟩) (fun _ _ _ _ _ => ⟨_, (de_var 8)⟩))
      (db_cons (ds_if (dt_eq hr (de_len B.len (da_cons (de_var 7) da_nil)) de_int) (db_one (ds_ret de_non)) db_nil)
      (db_cons (ds_set 8 nd (de_ix hr (de_var 7) (de_call c__law_draw hr (goes0A (E := DXK.no)) (da_cons (de_var 0) (da_cons (de_len B.len (da_cons (de_var 7) da_nil)) da_nil)))))
      (db_cons (ds_expr (de_extend (de_var 5) (da_cons (dx_lc (own := [("_law_content", 10)]) rfl nd (di_seq (de_var 8)) (blkOk_by (N := ["_law_dice_here", "_law_many", "_law_pairs_here", "_law_left", "_law_found", "_law_known", "_law_turn", "_law_fitting", "_law_pair", "_law_more", "_law_content"]) (sc := defScope s__law_drawn_ties) (by decide +kernel)) (fun _ _ _ _ _ => ⟨_, (dg_name 10 nd), (gw_name (by decide))⟩) (fun _ _ _ _ _ => ⟨_, (dts_one (dt_notIn hr (de_var 10) (de_var 5)))⟩) (fun _ _ _ _ _ => ⟨_, (de_var 10)⟩)) da_nil)))
      (db_one (ds_expr (de_append (de_var 4) (da_cons (de_var 8) da_nil)))))))))
      (db_cons (dx_setLc 9 (own := [("_law_pair", 8)]) rfl nd (sw_true rfl rfl rfl (by decide +kernel)) (di_seq (de_var 3)) (blkOk_by (N := ["_law_dice_here", "_law_many", "_law_pairs_here", "_law_left", "_law_found", "_law_known", "_law_turn", "_law_fitting", "_law_pair", "_law_more", "_law_content"]) (sc := defScope s__law_drawn_ties) (by decide +kernel)) (fun _ _ _ _ _ => ⟨_, (dg_name 8 nd), (gw_name (by decide))⟩) (fun _ _ _ _ _ => ⟨_, (dts_one (DW.dt (dw_and (dt_notIn hr (de_var 8) (de_var 4)) (dw_and1 (dt_eq hr (de_call c__law_draw hr (goes0A (E := DXK.no)) (da_cons (de_var 0) (da_cons de_int da_nil))) de_int)))))⟩) (fun _ _ _ _ _ => ⟨_, (de_var 8)⟩))
      (db_one (ds_ret (de_bty call_tuple_of lc_tuple B.tuple (da_cons (de_sortP B.sorted (da_cons (de_catL (de_var 4) (de_var 9)) da_nil)) da_nil))))))))), ?_⟩
  rintro ds M Q E ⟨p, l, m, its, rfl, hp, m1, m8, hl, pm, q⟩
  have l28 : its.length ≤ 28 := by rw [pm.length_eq]; exact (allPrs_ok m _).len28 m8
  have iok : ∀ q, q ∈ its ↔ prOk m q := fun q => by
    rw [pm.mem_iff, allPrs_mem]
    unfold prOk
    constructor
    · rintro ⟨h0, h1, h2, h3⟩; exact ⟨h0, h2, h3⟩
    · rintro ⟨h0, h2, h3⟩; exact ⟨h0, by omega, h2, h3⟩
  have ind : its.Nodup := (pm.nodup_iff).mpr (allPrs_ok m _).nodup
  refine dSeq_then (fun γ' M' => γ' = [some (.ref p), some (.int m), some (.ref l), some (.lst (its.map prD)), none, none, none, none, none, none, none] ∧ M' = M) (fun nx hn => ?_) (fun γ1 M1 h => ?_)
  · simp only [dVar, dC, dOp, dTest, dII, dIC, dFld, dFldS, dMake, dProp, dLcM, toM, dppNil, dppCons, dMerge, dDisp, dCatL, dRep, dRepM, dExtend, dChain, dEq, dAnd, dOr, dNot, dIfE, dNext, dSeq, dDrop, dRet, dIfS, dNever, dFrz, hName, hNil, hCons, hTup, hSub, dAsg, dAug, dipI, dNil, dCons, dTup, dLst, dLstM, dIx, dSet, dCall, dwipe, dYes, jSeq, jRng1, jRng2, dCB, dLen, dList, dListM, dTuple, dAbs, dInt, dBM0, dBM, dAppend, dPop, dPopAt, dAndV, dNotV, dNeg, dIn, dNoPart, dPart, dSl, dSlM, dNewK, dIsi, dIsiT, dLc, dFor, dDc, dCallS, dRaise, dTry, dIsE, dSortD, dFrzE, jKeys, dIndexD, dEqS, dReprG, if_true, if_false, ite_true, ite_false, Bool.false_eq_true, reduceIte, Bool.not_true, Bool.not_false, List.getElem?_cons_zero, List.getElem?_cons_succ, List.set_cons_zero, List.set_cons_succ, List.map_cons, List.map_nil, List.replicate, List.cons_append, List.nil_append, List.length_cons, List.length_nil, dstart]
    exact ⟨_, by simp only [itemsV, hl], hn _ _ ⟨rfl, rfl⟩⟩
  obtain ⟨rfl, rfl⟩ := h
  refine dSeq_then (fun γ' M' => ∃ fa, γ' = [some (.ref p), some (.int m), some (.ref l), some (.lst (its.map prD)), some (.ref fa), none, none, none, none, none, none] ∧ M1 fa = none ∧ M' = mset M1 fa (.lst [])) (fun nx hn => ?_) (fun γ2 M2 h => ?_)
  · simp only [dVar, dC, dOp, dTest, dII, dIC, dFld, dFldS, dMake, dProp, dLcM, toM, dppNil, dppCons, dMerge, dDisp, dCatL, dRep, dRepM, dExtend, dChain, dEq, dAnd, dOr, dNot, dIfE, dNext, dSeq, dDrop, dRet, dIfS, dNever, dFrz, hName, hNil, hCons, hTup, hSub, dAsg, dAug, dipI, dNil, dCons, dTup, dLst, dLstM, dIx, dSet, dCall, dwipe, dYes, jSeq, jRng1, jRng2, dCB, dLen, dList, dListM, dTuple, dAbs, dInt, dBM0, dBM, dAppend, dPop, dPopAt, dAndV, dNotV, dNeg, dIn, dNoPart, dPart, dSl, dSlM, dNewK, dIsi, dIsiT, dLc, dFor, dDc, dCallS, dRaise, dTry, dIsE, dSortD, dFrzE, jKeys, dIndexD, dEqS, dReprG, if_true, if_false, ite_true, ite_false, Bool.false_eq_true, reduceIte, Bool.not_true, Bool.not_false, List.getElem?_cons_zero, List.getElem?_cons_succ, List.set_cons_zero, List.set_cons_succ, List.map_cons, List.map_nil, List.replicate, List.cons_append, List.nil_append, List.length_cons, List.length_nil, dstart]
    exact ⟨by decide, fun fa hf => hn _ _ ⟨fa, rfl, hf, rfl⟩⟩
  obtain ⟨fa, rfl, hfa, rfl⟩ := h
  refine dSeq_then (fun γ' M' => ∃ kn, γ' = [some (.ref p), some (.int m), some (.ref l), some (.lst (its.map prD)), some (.ref fa), some (.ref kn), none, none, none, none, none] ∧ TSt M1 p m 0 M' fa kn [0] []) (fun nx hn => ?_) (fun γ3 M3 h => ?_)
  · simp only [dVar, dC, dOp, dTest, dII, dIC, dFld, dFldS, dMake, dProp, dLcM, toM, dppNil, dppCons, dMerge, dDisp, dCatL, dRep, dRepM, dExtend, dChain, dEq, dAnd, dOr, dNot, dIfE, dNext, dSeq, dDrop, dRet, dIfS, dNever, dFrz, hName, hNil, hCons, hTup, hSub, dAsg, dAug, dipI, dNil, dCons, dTup, dLst, dLstM, dIx, dSet, dCall, dwipe, dYes, jSeq, jRng1, jRng2, dCB, dLen, dList, dListM, dTuple, dAbs, dInt, dBM0, dBM, dAppend, dPop, dPopAt, dAndV, dNotV, dNeg, dIn, dNoPart, dPart, dSl, dSlM, dNewK, dIsi, dIsiT, dLc, dFor, dDc, dCallS, dRaise, dTry, dIsE, dSortD, dFrzE, jKeys, dIndexD, dEqS, dReprG, if_true, if_false, ite_true, ite_false, Bool.false_eq_true, reduceIte, Bool.not_true, Bool.not_false, List.getElem?_cons_zero, List.getElem?_cons_succ, List.set_cons_zero, List.set_cons_succ, List.map_cons, List.map_nil, List.replicate, List.cons_append, List.nil_append, List.length_cons, List.length_nil, dstart]
    refine ⟨by decide, fun kn hk => hn _ _ ⟨kn, rfl, ?_⟩⟩
    have nkf : kn ≠ fa := fun e => by (rw [e, mset_same] at hk; cases hk)
    have hk0 : M1 kn = none := by rw [mset_ne nkf] at hk; exact hk
    exact ⟨(hp.mset (hp.some hfa)).mset (hp.some hk0), ((Ext.refl M1 [p]).mset hfa).mset hk0, by rw [mset_ne (Ne.symm nkf), mset_same]; rfl, mset_same, Ne.symm nkf, hp.some hfa, hp.some hk0, hfa, hk0, Tre.start m1, rfl, rfl⟩
  clear hfa
  obtain ⟨kn, rfl, W⟩ := h
  refine dSeq_then (fun γ' M' => ∃ (o6 o7 o8 : Option D) (ks : List Int) (fs : List (Int × Int)), γ' = [some (.ref p), some (.int m), some (.ref l), some (.lst (its.map prD)), some (.ref fa), some (.ref kn), o6, o7, o8, none, none] ∧ TSt M1 p m (m - 1).toNat M' fa kn ks fs) (fun nx hn => ?_) (fun γ4 M4 h => ?_)
  · simp only [dFor, jRng1, dCons, dNil, dOp, dII, dC, dVar, hName, if_true, if_false, ite_true, ite_false, Bool.false_eq_true, reduceIte, Bool.not_true, Bool.not_false, List.getElem?_cons_zero, List.getElem?_cons_succ, List.set_cons_zero, List.set_cons_succ, List.map_cons, List.map_nil, List.replicate, List.cons_append, List.nil_append, List.length_cons, List.length_nil, dstart]
    refine ⟨by omega, dForI_of (fun k γ M' => ∃ (o6 o7 o8 : Option D) (ks : List Int) (fs : List (Int × Int)), γ = [some (.ref p), some (.int m), some (.ref l), some (.lst (its.map prD)), some (.ref fa), some (.ref kn), o6, o7, o8, none, none] ∧ TSt M1 p m k M' fa kn ks fs) ⟨none, none, none, [0], [], rfl, W⟩ ?_ ?_⟩
    · rintro k e γ M' he ⟨o6, o7, o8, ks, fs, rfl, W⟩
      obtain ⟨hk, rfl⟩ := rgD_get he
      have kl := W.kl
      simp only [if_true, if_false, ite_true, ite_false, Bool.false_eq_true, reduceIte, Bool.not_true, Bool.not_false, List.getElem?_cons_zero, List.getElem?_cons_succ, List.set_cons_zero, List.set_cons_succ, List.map_cons, List.map_nil, List.replicate, List.cons_append, List.nil_append, List.length_cons, List.length_nil, dstart]
      refine dSeq_then (fun γ' M2 => ∃ fit : List (Int × Int), γ' = [some (.ref p), some (.int m), some (.ref l), some (.lst (its.map prD)), some (.ref fa), some (.ref kn), some (.int (0 + (k : Int))), some (.lst (fit.map prD)), o8, none, none] ∧ M2 = M' ∧ (∀ q ∈ fit, prOk m q ∧ (!(decide (q.1 ∈ ks) == decide (q.2 ∈ ks))) = true) ∧ 0 < fit.length ∧ fit.length ≤ 28) (fun nx hn => ?_) (fun γ5 M5 h => ?_)
      · simp only [dVar, dC, dOp, dTest, dII, dIC, dFld, dFldS, dMake, dProp, dLcM, toM, dppNil, dppCons, dMerge, dDisp, dCatL, dRep, dRepM, dExtend, dChain, dEq, dAnd, dOr, dNot, dIfE, dNext, dSeq, dDrop, dRet, dIfS, dNever, dFrz, hName, hNil, hCons, hTup, hSub, dAsg, dAug, dipI, dNil, dCons, dTup, dLst, dLstM, dIx, dSet, dCall, dwipe, dYes, jSeq, jRng1, jRng2, dCB, dLen, dList, dListM, dTuple, dAbs, dInt, dBM0, dBM, dAppend, dPop, dPopAt, dAndV, dNotV, dNeg, dIn, dNoPart, dPart, dSl, dSlM, dNewK, dIsi, dIsiT, dLc, dFor, dDc, dCallS, dRaise, dTry, dIsE, dSortD, dFrzE, jKeys, dIndexD, dEqS, dReprG, if_true, if_false, ite_true, ite_false, Bool.false_eq_true, reduceIte, Bool.not_true, Bool.not_false, List.getElem?_cons_zero, List.getElem?_cons_succ, List.set_cons_zero, List.set_cons_succ, List.map_cons, List.map_nil, List.replicate, List.cons_append, List.nil_append, List.length_cons, List.length_nil, dstart]
        refine ⟨by rw [List.length_map]; exact len_ok (by omega), dLcI_filter (fun e => match e with | .tup [.int a, .int b] => !(decide (a ∈ ks) == decide (b ∈ ks)) | _ => false) (fun e => e) (fun j e he Q2 qf qt => ?_) ?_⟩
        · obtain ⟨⟨a, b⟩, hab, rfl⟩ := get_pr he
          simp only [dVar, dC, dOp, dTest, dII, dIC, dFld, dFldS, dMake, dProp, dLcM, toM, dppNil, dppCons, dMerge, dDisp, dCatL, dRep, dRepM, dExtend, dChain, dEq, dAnd, dOr, dNot, dIfE, dNext, dSeq, dDrop, dRet, dIfS, dNever, dFrz, hName, hNil, hCons, hTup, hSub, dAsg, dAug, dipI, dNil, dCons, dTup, dLst, dLstM, dIx, dSet, dCall, dwipe, dYes, jSeq, jRng1, jRng2, dCB, dLen, dList, dListM, dTuple, dAbs, dInt, dBM0, dBM, dAppend, dPop, dPopAt, dAndV, dNotV, dNeg, dIn, dNoPart, dPart, dSl, dSlM, dNewK, dIsi, dIsiT, dLc, dFor, dDc, dCallS, dRaise, dTry, dIsE, dSortD, dFrzE, jKeys, dIndexD, dEqS, dReprG, if_true, if_false, ite_true, ite_false, Bool.false_eq_true, reduceIte, Bool.not_true, Bool.not_false, List.getElem?_cons_zero, List.getElem?_cons_succ, List.set_cons_zero, List.set_cons_succ, List.map_cons, List.map_nil, List.replicate, List.cons_append, List.nil_append, List.length_cons, List.length_nil, dstart]
          refine ⟨.int a, rfl, _, in_ref W.fkn, .int b, rfl, _, in_ref W.fkn, rfl, rfl, ?_⟩
          rw [D.eq_bl]
          cases hc : (!(decide (a ∈ ks) == decide (b ∈ ks))) with
          | true => simp only [if_true, if_false, ite_true, ite_false, Bool.false_eq_true, reduceIte, Bool.not_true, Bool.not_false, List.getElem?_cons_zero, List.getElem?_cons_succ, List.set_cons_zero, List.set_cons_succ, List.map_cons, List.map_nil, List.replicate, List.cons_append, List.nil_append, List.length_cons, List.length_nil, dstart]; exact qt hc
          | false => simp only [if_true, if_false, ite_true, ite_false, Bool.false_eq_true, reduceIte, Bool.not_true, Bool.not_false, List.getElem?_cons_zero, List.getElem?_cons_succ, List.set_cons_zero, List.set_cons_succ, List.map_cons, List.map_nil, List.replicate, List.cons_append, List.nil_append, List.length_cons, List.length_nil, dstart]; exact qf hc
        · have ef : (((its.map prD).filter fun e => match e with | .tup [.int a, .int b] => !(decide (a ∈ ks) == decide (b ∈ ks)) | _ => false).map fun e => e) = (its.filter fun q => !(decide (q.1 ∈ ks) == decide (q.2 ∈ ks))).map prD := by
            rw [List.map_id', List.filter_map]; rfl
          rw [ef]
          refine hn _ _ ⟨_, rfl, rfl, fun q hq => ?_, ?_, ?_⟩
          · obtain ⟨h1, h2⟩ := List.mem_filter.mp hq
            exact ⟨(iok q).mp h1, h2⟩
          · obtain ⟨y, y0, y1, hy⟩ := W.T.miss (by omega)
            refine List.length_pos_of_mem (a := ((0 : Int), y)) (List.mem_filter.mpr ⟨(iok _).mpr ⟨by simp, y0, y1⟩, ?_⟩)
            simp [W.T.k0, hy]
          · have := List.length_filter_le (fun q : Int × Int => !(decide (q.1 ∈ ks) == decide (q.2 ∈ ks))) its
            omega
      obtain ⟨fit, rfl, rfl, hfit, fit0, fit1⟩ := h
      refine dSeq_then (fun γ' M2 => γ' = [some (.ref p), some (.int m), some (.ref l), some (.lst (its.map prD)), some (.ref fa), some (.ref kn), some (.int (0 + (k : Int))), some (.lst (fit.map prD)), o8, none, none] ∧ M2 = M5) (fun nx hn => ?_) (fun γ6 M6 h => ?_)
      · simp only [dVar, dC, dOp, dTest, dII, dIC, dFld, dFldS, dMake, dProp, dLcM, toM, dppNil, dppCons, dMerge, dDisp, dCatL, dRep, dRepM, dExtend, dChain, dEq, dAnd, dOr, dNot, dIfE, dNext, dSeq, dDrop, dRet, dIfS, dNever, dFrz, hName, hNil, hCons, hTup, hSub, dAsg, dAug, dipI, dNil, dCons, dTup, dLst, dLstM, dIx, dSet, dCall, dwipe, dYes, jSeq, jRng1, jRng2, dCB, dLen, dList, dListM, dTuple, dAbs, dInt, dBM0, dBM, dAppend, dPop, dPopAt, dAndV, dNotV, dNeg, dIn, dNoPart, dPart, dSl, dSlM, dNewK, dIsi, dIsiT, dLc, dFor, dDc, dCallS, dRaise, dTry, dIsE, dSortD, dFrzE, jKeys, dIndexD, dEqS, dReprG, if_true, if_false, ite_true, ite_false, Bool.false_eq_true, reduceIte, Bool.not_true, Bool.not_false, List.getElem?_cons_zero, List.getElem?_cons_succ, List.set_cons_zero, List.set_cons_succ, List.map_cons, List.map_nil, List.replicate, List.cons_append, List.nil_append, List.length_cons, List.length_nil, dstart]
        refine ⟨fit.length, by simp only [lenV, List.length_map], rfl, rfl, ?_⟩
        rw [D.eq_int, beq_eq_false_iff_ne.mpr (by omega)]
        simp only [if_true, if_false, ite_true, ite_false, Bool.false_eq_true, reduceIte, Bool.not_true, Bool.not_false, List.getElem?_cons_zero, List.getElem?_cons_succ, List.set_cons_zero, List.set_cons_succ, List.map_cons, List.map_nil, List.replicate, List.cons_append, List.nil_append, List.length_cons, List.length_nil, dstart]
        exact hn _ _ ⟨rfl, rfl⟩
      obtain ⟨rfl, rfl⟩ := h
      refine dSeq_then (fun γ' M2 => ∃ a b, γ' = [some (.ref p), some (.int m), some (.ref l), some (.lst (its.map prD)), some (.ref fa), some (.ref kn), some (.int (0 + (k : Int))), some (.lst (fit.map prD)), some (prD (a, b)), none, none] ∧ TSt M1 p m k M2 fa kn ks fs ∧ prOk m (a, b) ∧ (!(decide (a ∈ ks) == decide (b ∈ ks))) = true) (fun nx hn => ?_) (fun γ7 M7 h => ?_)
      · simp only [dVar, dC, dOp, dTest, dII, dIC, dFld, dFldS, dMake, dProp, dLcM, toM, dppNil, dppCons, dMerge, dDisp, dCatL, dRep, dRepM, dExtend, dChain, dEq, dAnd, dOr, dNot, dIfE, dNext, dSeq, dDrop, dRet, dIfS, dNever, dFrz, hName, hNil, hCons, hTup, hSub, dAsg, dAug, dipI, dNil, dCons, dTup, dLst, dLstM, dIx, dSet, dCall, dwipe, dYes, jSeq, jRng1, jRng2, dCB, dLen, dList, dListM, dTuple, dAbs, dInt, dBM0, dBM, dAppend, dPop, dPopAt, dAndV, dNotV, dNeg, dIn, dNoPart, dPart, dSl, dSlM, dNewK, dIsi, dIsiT, dLc, dFor, dDc, dCallS, dRaise, dTry, dIsE, dSortD, dFrzE, jKeys, dIndexD, dEqS, dReprG, if_true, if_false, ite_true, ite_false, Bool.false_eq_true, reduceIte, Bool.not_true, Bool.not_false, List.getElem?_cons_zero, List.getElem?_cons_succ, List.set_cons_zero, List.set_cons_succ, List.map_cons, List.map_nil, List.replicate, List.cons_append, List.nil_append, List.length_cons, List.length_nil, dstart]
        refine ⟨fit.length, by simp only [lenV, List.length_map], p, fit.length, rfl, W.dice, by omega, by omega, fun r M2 r0 r1 d2 a2 => ?_⟩
        have hr : r.toNat < fit.length := by omega
        have e1 : fit[r.toNat]? = some fit[r.toNat] := List.getElem?_eq_getElem hr
        generalize fit[r.toNat] = ab at e1
        obtain ⟨a, b⟩ := ab
        have hab := hfit _ (List.mem_of_getElem? e1)
        exact ⟨_, ixL_at (k := r.toNat) (by omega) (by rw [List.getElem?_map, e1]; rfl), hn _ _ ⟨a, b, rfl, W.to d2 a2, hab.1, hab.2⟩⟩
      clear W
      obtain ⟨a, b, rfl, W, pab, fab⟩ := h
      obtain ⟨c, e, hc, he2, hce, ffl⟩ := fit_one fab
      have T2 := W.T.add pab hc he2 hce
      refine dSeq_then (fun γ' M2 => γ' = [some (.ref p), some (.int m), some (.ref l), some (.lst (its.map prD)), some (.ref fa), some (.ref kn), some (.int (0 + (k : Int))), some (.lst (fit.map prD)), some (prD (a, b)), none, none] ∧ M2 = mset M7 kn (.lst ((ks ++ [c]).map .int))) (fun nx hn => ?_) (fun γ8 M8 h => ?_)
      · simp only [dVar, dC, dOp, dTest, dII, dIC, dFld, dFldS, dMake, dProp, dLcM, toM, dppNil, dppCons, dMerge, dDisp, dCatL, dRep, dRepM, dExtend, dChain, dEq, dAnd, dOr, dNot, dIfE, dNext, dSeq, dDrop, dRet, dIfS, dNever, dFrz, hName, hNil, hCons, hTup, hSub, dAsg, dAug, dipI, dNil, dCons, dTup, dLst, dLstM, dIx, dSet, dCall, dwipe, dYes, jSeq, jRng1, jRng2, dCB, dLen, dList, dListM, dTuple, dAbs, dInt, dBM0, dBM, dAppend, dPop, dPopAt, dAndV, dNotV, dNeg, dIn, dNoPart, dPart, dSl, dSlM, dNewK, dIsi, dIsiT, dLc, dFor, dDc, dCallS, dRaise, dTry, dIsE, dSortD, dFrzE, jKeys, dIndexD, dEqS, dReprG, if_true, if_false, ite_true, ite_false, Bool.false_eq_true, reduceIte, Bool.not_true, Bool.not_false, List.getElem?_cons_zero, List.getElem?_cons_succ, List.set_cons_zero, List.set_cons_succ, List.map_cons, List.map_nil, List.replicate, List.cons_append, List.nil_append, List.length_cons, List.length_nil, dstart]
        simp only [tyD, W.fkn, prD]
        refine ⟨trivial, len_ok (by simp), dLcI_filter (fun e => match e with | .int x => !decide (x ∈ ks) | _ => false) (fun e => e) (fun j e he Q2 qf qt => ?_) ?_⟩
        · obtain ⟨x, hx, rfl⟩ := get_int (ps := [a, b]) he
          simp only [dVar, dC, dOp, dTest, dII, dIC, dFld, dFldS, dMake, dProp, dLcM, toM, dppNil, dppCons, dMerge, dDisp, dCatL, dRep, dRepM, dExtend, dChain, dEq, dAnd, dOr, dNot, dIfE, dNext, dSeq, dDrop, dRet, dIfS, dNever, dFrz, hName, hNil, hCons, hTup, hSub, dAsg, dAug, dipI, dNil, dCons, dTup, dLst, dLstM, dIx, dSet, dCall, dwipe, dYes, jSeq, jRng1, jRng2, dCB, dLen, dList, dListM, dTuple, dAbs, dInt, dBM0, dBM, dAppend, dPop, dPopAt, dAndV, dNotV, dNeg, dIn, dNoPart, dPart, dSl, dSlM, dNewK, dIsi, dIsiT, dLc, dFor, dDc, dCallS, dRaise, dTry, dIsE, dSortD, dFrzE, jKeys, dIndexD, dEqS, dReprG, if_true, if_false, ite_true, ite_false, Bool.false_eq_true, reduceIte, Bool.not_true, Bool.not_false, List.getElem?_cons_zero, List.getElem?_cons_succ, List.set_cons_zero, List.set_cons_succ, List.map_cons, List.map_nil, List.replicate, List.cons_append, List.nil_append, List.length_cons, List.length_nil, dstart]
          refine ⟨_, in_ref W.fkn, ?_⟩
          by_cases h : x ∈ ks
          · simp only [decide_eq_true h, if_true, if_false, ite_true, ite_false, Bool.false_eq_true, reduceIte, Bool.not_true, Bool.not_false, List.getElem?_cons_zero, List.getElem?_cons_succ, List.set_cons_zero, List.set_cons_succ, List.map_cons, List.map_nil, List.replicate, List.cons_append, List.nil_append, List.length_cons, List.length_nil, dstart]
            exact qf (by simp [h])
          · simp only [decide_eq_false h, if_true, if_false, ite_true, ite_false, Bool.false_eq_true, reduceIte, Bool.not_true, Bool.not_false, List.getElem?_cons_zero, List.getElem?_cons_succ, List.set_cons_zero, List.set_cons_succ, List.map_cons, List.map_nil, List.replicate, List.cons_append, List.nil_append, List.length_cons, List.length_nil, dstart]
            exact qt (by simp [h])
        · have ef : (([D.int a, .int b].filter fun e => match e with | .int x => !decide (x ∈ ks) | _ => false).map fun e => e) = [.int c] := by
            have : ([D.int a, .int b].filter fun e => match e with | .int x => !decide (x ∈ ks) | _ => false) = ([a, b].filter fun x => !decide (x ∈ ks)).map .int := by
              show ([a, b].map D.int).filter _ = _
              rw [List.filter_map]; rfl
            rw [List.map_id', this, ffl]; rfl
          rw [ef]
          simp only [W.fkn]
          refine ⟨_, rfl, by rw [List.length_map]; exact len_ok (by simp; omega), hn _ _ ⟨rfl, by rw [List.map_append]; rfl⟩⟩
      obtain ⟨rfl, rfl⟩ := h
      simp only [dVar, dC, dOp, dTest, dII, dIC, dFld, dFldS, dMake, dProp, dLcM, toM, dppNil, dppCons, dMerge, dDisp, dCatL, dRep, dRepM, dExtend, dChain, dEq, dAnd, dOr, dNot, dIfE, dNext, dSeq, dDrop, dRet, dIfS, dNever, dFrz, hName, hNil, hCons, hTup, hSub, dAsg, dAug, dipI, dNil, dCons, dTup, dLst, dLstM, dIx, dSet, dCall, dwipe, dYes, jSeq, jRng1, jRng2, dCB, dLen, dList, dListM, dTuple, dAbs, dInt, dBM0, dBM, dAppend, dPop, dPopAt, dAndV, dNotV, dNeg, dIn, dNoPart, dPart, dSl, dSlM, dNewK, dIsi, dIsiT, dLc, dFor, dDc, dCallS, dRaise, dTry, dIsE, dSortD, dFrzE, jKeys, dIndexD, dEqS, dReprG, if_true, if_false, ite_true, ite_false, Bool.false_eq_true, reduceIte, Bool.not_true, Bool.not_false, List.getElem?_cons_zero, List.getElem?_cons_succ, List.set_cons_zero, List.set_cons_succ, List.map_cons, List.map_nil, List.replicate, List.cons_append, List.nil_append, List.length_cons, List.length_nil, dstart]
      have fa2 : mset M7 kn (.lst ((ks ++ [c]).map .int)) fa = some (.lst (fs.map prD)) := by rw [mset_ne W.ne]; exact W.ffa
      simp only [tyD, fa2]
      have fl := W.fl
      refine ⟨trivial, len_lt (by rw [List.length_map]; omega), _, _, _, ks ++ [c], fs ++ [(a, b)], rfl, (W.dice.mset W.nkp).mset W.nfp, (W.ext.mset W.mkn).mset W.mfa, ?_, ?_, W.ne, W.nfp, W.nkp, W.mfa, W.mkn, T2, by rw [List.length_append]; simp; omega, by rw [List.length_append]; simp; omega⟩
      · rw [mset_same, List.map_append]; rfl
      · rw [mset_ne (Ne.symm W.ne), mset_same]
    · rintro γ M' ⟨o6, o7, o8, ks, fs, rfl, W⟩
      rw [rgD_len] at W
      exact hn _ _ ⟨o6, o7, o8, ks, fs, rfl, W⟩
  clear W
  obtain ⟨o6, o7, o8, ks, fs, rfl, W⟩ := h
  have kl := W.kl
  have fl := W.fl
  refine dSeq_then (fun γ' M' => ∃ mo : List (Int × Int), γ' = [some (.ref p), some (.int m), some (.ref l), some (.lst (its.map prD)), some (.ref fa), some (.ref kn), o6, o7, o8, some (.lst (mo.map prD)), none] ∧ TSt M1 p m (m - 1).toNat M' fa kn ks fs ∧ mo.Sublist its ∧ ∀ q ∈ mo, q ∉ fs) (fun nx hn => ?_) (fun γ5 M5 h => ?_)
  · simp only [dVar, dC, dOp, dTest, dII, dIC, dFld, dFldS, dMake, dProp, dLcM, toM, dppNil, dppCons, dMerge, dDisp, dCatL, dRep, dRepM, dExtend, dChain, dEq, dAnd, dOr, dNot, dIfE, dNext, dSeq, dDrop, dRet, dIfS, dNever, dFrz, hName, hNil, hCons, hTup, hSub, dAsg, dAug, dipI, dNil, dCons, dTup, dLst, dLstM, dIx, dSet, dCall, dwipe, dYes, jSeq, jRng1, jRng2, dCB, dLen, dList, dListM, dTuple, dAbs, dInt, dBM0, dBM, dAppend, dPop, dPopAt, dAndV, dNotV, dNeg, dIn, dNoPart, dPart, dSl, dSlM, dNewK, dIsi, dIsiT, dLc, dFor, dDc, dCallS, dRaise, dTry, dIsE, dSortD, dFrzE, jKeys, dIndexD, dEqS, dReprG, if_true, if_false, ite_true, ite_false, Bool.false_eq_true, reduceIte, Bool.not_true, Bool.not_false, List.getElem?_cons_zero, List.getElem?_cons_succ, List.set_cons_zero, List.set_cons_succ, List.map_cons, List.map_nil, List.replicate, List.cons_append, List.nil_append, List.length_cons, List.length_nil, dstart]
    refine ⟨by rw [List.length_map]; exact len_ok (by omega), fun i acc M' => TSt M1 p m (m - 1).toNat M' fa kn ks fs ∧ ∃ mo : List (Int × Int), acc = mo.map prD ∧ mo.Sublist (its.take i) ∧ ∀ q ∈ mo, q ∉ fs, ⟨W, [], rfl, by simp, fun _ h => (by cases h)⟩, ?_, ?_⟩
    · rintro i dd acc M' hd ⟨W, mo, rfl, sub, nf⟩
      obtain ⟨x, hx, rfl⟩ := get_pr hd
      simp only [dVar, dC, dOp, dTest, dII, dIC, dFld, dFldS, dMake, dProp, dLcM, toM, dppNil, dppCons, dMerge, dDisp, dCatL, dRep, dRepM, dExtend, dChain, dEq, dAnd, dOr, dNot, dIfE, dNext, dSeq, dDrop, dRet, dIfS, dNever, dFrz, hName, hNil, hCons, hTup, hSub, dAsg, dAug, dipI, dNil, dCons, dTup, dLst, dLstM, dIx, dSet, dCall, dwipe, dYes, jSeq, jRng1, jRng2, dCB, dLen, dList, dListM, dTuple, dAbs, dInt, dBM0, dBM, dAppend, dPop, dPopAt, dAndV, dNotV, dNeg, dIn, dNoPart, dPart, dSl, dSlM, dNewK, dIsi, dIsiT, dLc, dFor, dDc, dCallS, dRaise, dTry, dIsE, dSortD, dFrzE, jKeys, dIndexD, dEqS, dReprG, if_true, if_false, ite_true, ite_false, Bool.false_eq_true, reduceIte, Bool.not_true, Bool.not_false, List.getElem?_cons_zero, List.getElem?_cons_succ, List.set_cons_zero, List.set_cons_succ, List.map_cons, List.map_nil, List.replicate, List.cons_append, List.nil_append, List.length_cons, List.length_nil, dstart]
      rw [take_succ_of hx]
      refine ⟨_, in_refP W.ffa, ?_⟩
      by_cases hf : x ∈ fs
      · simp only [decide_eq_true hf, if_true, if_false, ite_true, ite_false, Bool.false_eq_true, reduceIte, Bool.not_true, Bool.not_false, List.getElem?_cons_zero, List.getElem?_cons_succ, List.set_cons_zero, List.set_cons_succ, List.map_cons, List.map_nil, List.replicate, List.cons_append, List.nil_append, List.length_cons, List.length_nil, dstart]
        exact ⟨W, mo, rfl, sub.trans (List.sublist_append_left _ _), nf⟩
      · simp only [decide_eq_false hf, if_true, if_false, ite_true, ite_false, Bool.false_eq_true, reduceIte, Bool.not_true, Bool.not_false, List.getElem?_cons_zero, List.getElem?_cons_succ, List.set_cons_zero, List.set_cons_succ, List.map_cons, List.map_nil, List.replicate, List.cons_append, List.nil_append, List.length_cons, List.length_nil, dstart]
        refine ⟨p, 2, rfl, W.dice, by decide, by decide, fun r M2 r0 r1 d2 a2 => ⟨rfl, rfl, ?_⟩⟩
        have W2 := W.to d2 a2
        rw [D.eq_int]
        by_cases h0 : r = 0
        · rw [beq_iff_eq.mpr h0]
          simp only [if_true, if_false, ite_true, ite_false, Bool.false_eq_true, reduceIte, Bool.not_true, Bool.not_false, List.getElem?_cons_zero, List.getElem?_cons_succ, List.set_cons_zero, List.set_cons_succ, List.map_cons, List.map_nil, List.replicate, List.cons_append, List.nil_append, List.length_cons, List.length_nil, dstart]
          refine ⟨W2, mo ++ [x], by rw [List.map_append]; rfl, sub.append (List.Sublist.refl _), fun q hq => ?_⟩
          rcases List.mem_append.mp hq with z | z
          · exact nf q z
          · rw [List.mem_singleton.mp z]; exact hf
        · rw [beq_eq_false_iff_ne.mpr h0]
          simp only [if_true, if_false, ite_true, ite_false, Bool.false_eq_true, reduceIte, Bool.not_true, Bool.not_false, List.getElem?_cons_zero, List.getElem?_cons_succ, List.set_cons_zero, List.set_cons_succ, List.map_cons, List.map_nil, List.replicate, List.cons_append, List.nil_append, List.length_cons, List.length_nil, dstart]
          exact ⟨W2, mo, rfl, sub.trans (List.sublist_append_left _ _), nf⟩
    · rintro acc M' ⟨W, mo, rfl, sub, nf⟩
      rw [List.length_map, List.take_length] at sub
      exact hn _ _ ⟨mo, rfl, W, sub, nf⟩
  clear W
  obtain ⟨mo, rfl, W, sub, nf⟩ := h
  have ml := sub.length_le
  simp only [dVar, dC, dOp, dTest, dII, dIC, dFld, dFldS, dMake, dProp, dLcM, toM, dppNil, dppCons, dMerge, dDisp, dCatL, dRep, dRepM, dExtend, dChain, dEq, dAnd, dOr, dNot, dIfE, dNext, dSeq, dDrop, dRet, dIfS, dNever, dFrz, hName, hNil, hCons, hTup, hSub, dAsg, dAug, dipI, dNil, dCons, dTup, dLst, dLstM, dIx, dSet, dCall, dwipe, dYes, jSeq, jRng1, jRng2, dCB, dLen, dList, dListM, dTuple, dAbs, dInt, dBM0, dBM, dAppend, dPop, dPopAt, dAndV, dNotV, dNeg, dIn, dNoPart, dPart, dSl, dSlM, dNewK, dIsi, dIsiT, dLc, dFor, dDc, dCallS, dRaise, dTry, dIsE, dSortD, dFrzE, jKeys, dIndexD, dEqS, dReprG, if_true, if_false, ite_true, ite_false, Bool.false_eq_true, reduceIte, Bool.not_true, Bool.not_false, List.getElem?_cons_zero, List.getElem?_cons_succ, List.set_cons_zero, List.set_cons_succ, List.map_cons, List.map_nil, List.replicate, List.cons_append, List.nil_append, List.length_cons, List.length_nil, dstart]
  have fnd : (fs ++ mo).Nodup := by
    rw [List.nodup_append]
    exact ⟨W.T.fnd, ind.sublist sub, fun a ha b hb e => nf b hb (e ▸ ha)⟩
  refine ⟨_, _, by simp only [lstOf, W.ffa]; rfl, rfl, by rw [List.length_map, List.length_map]; exact len_ok (by omega), fs ++ mo, .inl (by rw [List.map_append]), fun qs hq hs => ?_⟩
  have pok : PrsOk m qs := ⟨fun r hr => by
    rcases List.mem_append.mp (hq.mem_iff.mp hr) with z | z
    · exact W.T.ok r z
    · exact (iok r).mp (sub.subset z), srtd_lt hs (hq.nodup_iff.mpr fnd)⟩
  exact fin_self (q qs M5 W.dice W.ext (W.T.book m1 m8 (by omega) pok fun r hr => hq.mem_iff.mpr (List.mem_append_left _ hr)))
theorem sc__law_mixed : FnScope ["_law_dice_here", "_law_items", "_law_left", "_law_found"] ["_law_dice_here", "_law_items"] (defScope s__law_mixed) := ⟨rfl, rfl, rfl, by decide +kernel, rfl, by decide +kernel, by decide +kernel⟩
def sp__law_mixed : DSp := fun ds M Q _ => ∃ (p : Addr) (th : D) (ns : List D), ds = [.ref p, th] ∧ itemsV M th = some ns ∧ DiL M p ∧ ns.length ≤ 1000000 ∧ ∀ (ms : List D) l M2, DiL M2 p → Ext M M2 [p] → M l = none → M2 l = some (.lst ms) → ms.Perm ns → Q (.ref l) M2
theorem c__law_mixed (F : DFun K mg "_law_mixed" s__law_mixed ["_law_dice_here", "_law_items"]) (B : Bn mg) (G : Gs mg) (c__law_draw : DCal P w K mg base CX0 1 "_law_draw" sp__law_draw) : DCal P w K mg base CX0 2 "_law_mixed" sp__law_mixed := by
  refine dok F sc__law_mixed (fun ds M Q E h => (by obtain ⟨_, h⟩ := h; first | (obtain ⟨e, _⟩ := h; subst e; rfl) | (obtain ⟨_, e, _⟩ := h; subst e; rfl) | (obtain ⟨_, _, e, _⟩ := h; subst e; rfl) | (obtain ⟨_, _, _, e, _⟩ := h; subst e; rfl) | (obtain ⟨_, _, _, _, e, _⟩ := h; subst e; rfl) | (obtain ⟨_, _, _, _, _, e, _⟩ := h; subst e; rfl) | (obtain ⟨_, _, _, _, _, _, e, _⟩ := h; subst e; rfl) | (obtain ⟨_, _, _, _, _, _, _, e, _⟩ := h; subst e; rfl) | (obtain ⟨_, _, _, _, _, _, _, _, e, _⟩ := h; subst e; rfl) | (obtain ⟨_, _, _, _, _, _, _, _, _, e, _⟩ := h; subst e; rfl) | (obtain ⟨_, _, _, _, _, _, _, _, _, _, e, _⟩ := h; subst e; rfl) | (obtain ⟨_, _, _, _, _, _, _, _, _, _, _, e, _⟩ := h; subst e; rfl) | (obtain ⟨_, _, _, _, _, _, _, _, _, _, _, _, e, _⟩ := h; subst e; rfl) | (obtain ⟨_, _, _, _, _, _, _, _, _, _, _, _, _, e, _⟩ := h; subst e; rfl) | (obtain ⟨_, _, _, _, _, _, _, _, _, _, _, _, _, _, e, _⟩ := h; subst e; rfl) | (obtain ⟨_, _, _, _, _, _, _, _, _, _, _, _, _, _, _, e, _⟩ := h; subst e; rfl) | (obtain ⟨_, _, _, _, _, _, _, _, _, _, _, _, _, _, _, _, e, _⟩ := h; subst e; rfl) | (obtain ⟨_, _, _, _, _, _, _, _, _, _, _, _, _, _, _, _, _, e, _⟩ := h; subst e; rfl) | (obtain ⟨_, _, _, _, _, _, _, _, _, _, _, _, _, _, _, _, _, _, e, _⟩ := h; subst e; rfl) | (obtain ⟨_, _, _, _, _, _, _, _, _, _, _, _, _, _, _, _, _, _, _, e, _⟩ := h; subst e; rfl) | (obtain ⟨_, _, _, _, _, _, _, _, _, _, _, _, _, _, _, _, _, _, _, _, e, _⟩ := h; subst e; rfl) | (obtain ⟨_, _, _, _, _, _, _, _, _, _, _, _, _, _, _, _, _, _, _, _, _, e, _⟩ := h; subst e; rfl) | (obtain ⟨_, _, _, _, _, _, _, _, _, _, _, _, _, _, _, _, _, _, _, _, _, _, e, _⟩ := h; subst e; rfl) | (obtain ⟨_, _, _, _, _, _, _, _, _, _, _, _, _, _, _, _, _, _, _, _, _, _, _, e, _⟩ := h; subst e; rfl) | (obtain ⟨_, _, _, _, _, _, _, _, _, _, _, _, _, _, _, _, _, _, _, _, _, _, _, _, e, _⟩ := h; subst e; rfl) | (obtain ⟨_, _, _, _, _, _, _, _, _, _, _, _, _, _, _, _, _, _, _, _, _, _, _, _, _, e, _⟩ := h; subst e; rfl))) (fun f cdv A outer s H E F0 hr => ?_)
  have nd := (sc__law_mixed).nd
  refine ⟨_, _, (db_cons (ds_set 2 nd (de_bty (call_listA rfl) lc_listM B.list (da_cons (de_var 1) da_nil)))
      (db_cons (ds_set 3 nd (de_lstM da_nil))
      (db_cons (ds_while PassesOwn.never (dt_gt (de_len B.len (da_cons (de_var 2) da_nil)) de_int) (db_one (ds_expr (de_append (de_var 3) (da_cons (de_popAt (de_var 2) (da_cons (de_call c__law_draw hr (goes0A (E := DXK.no)) (da_cons (de_var 0) (da_cons (de_len B.len (da_cons (de_var 2) da_nil)) da_nil))) da_nil)) da_nil)))))
      (db_one (ds_ret (de_var 3)))))), ?_⟩
  rintro ds M Q E ⟨p, th, ns, rfl, hth, hp, hn, q⟩
  simp only [dVar, dC, dOp, dTest, dII, dIC, dFld, dFldS, dMake, dProp, dLcM, toM, dppNil, dppCons, dMerge, dDisp, dCatL, dRep, dRepM, dExtend, dChain, dEq, dAnd, dOr, dNot, dIfE, dNext, dSeq, dDrop, dRet, dIfS, dNever, dFrz, hName, hNil, hCons, hTup, hSub, dAsg, dAug, dipI, dNil, dCons, dTup, dLst, dLstM, dIx, dSet, dCall, dwipe, dYes, jSeq, jRng1, jRng2, dCB, dLen, dList, dListM, dTuple, dAbs, dInt, dBM0, dBM, dAppend, dPop, dPopAt, dAndV, dNotV, dNeg, dIn, dNoPart, dPart, dSl, dSlM, dNewK, dIsi, dIsiT, dLc, dFor, dDc, dCallS, dRaise, dTry, dIsE, dSortD, dFrzE, jKeys, dIndexD, dEqS, dReprG, if_true, if_false, ite_true, ite_false, Bool.false_eq_true, reduceIte, Bool.not_true, Bool.not_false, List.getElem?_cons_zero, List.getElem?_cons_succ, List.set_cons_zero, List.set_cons_succ, List.map_cons, List.map_nil, List.replicate, List.cons_append, List.nil_append, List.length_cons, List.length_nil, dstart]
  refine ⟨_, hth, fun a ha => ⟨by decide, fun b hb => ?_⟩⟩
  have nap : a ≠ p := hp.some ha
  have nba : b ≠ a := fun e => by (rw [e, mset_same] at hb; cases hb)
  have hb0 : M b = none := by rw [mset_ne nba] at hb; exact hb
  have nbp : b ≠ p := hp.some hb0
  refine ⟨fun m γ M' => ∃ (ls fs : List D), γ = [some (.ref p), some th, some (.ref a), some (.ref b)] ∧ m = ls.length ∧ M' a = some (.lst ls) ∧ M' b = some (.lst fs) ∧ DiL M' p ∧ Ext M M' [p] ∧ (ls ++ fs).Perm ns, ⟨_, ns, [], rfl, rfl, ?_, mset_same, ?_, ?_, by simp⟩, ?_⟩
  · rw [mset_ne (Ne.symm nba), mset_same]
  · exact (hp.mset nap).mset nbp
  · exact ((Ext.refl M [p]).mset ha).mset hb0
  rintro m γ M' ⟨ls, fs, rfl, rfl, h1, h2, h3, h4, h6⟩
  have hlen : ls.length + fs.length = ns.length := by
    have := h6.length_eq
    simpa using this
  simp only [dVar, dC, dOp, dTest, dII, dIC, dFld, dFldS, dMake, dProp, dLcM, toM, dppNil, dppCons, dMerge, dDisp, dCatL, dRep, dRepM, dExtend, dChain, dEq, dAnd, dOr, dNot, dIfE, dNext, dSeq, dDrop, dRet, dIfS, dNever, dFrz, hName, hNil, hCons, hTup, hSub, dAsg, dAug, dipI, dNil, dCons, dTup, dLst, dLstM, dIx, dSet, dCall, dwipe, dYes, jSeq, jRng1, jRng2, dCB, dLen, dList, dListM, dTuple, dAbs, dInt, dBM0, dBM, dAppend, dPop, dPopAt, dAndV, dNotV, dNeg, dIn, dNoPart, dPart, dSl, dSlM, dNewK, dIsi, dIsiT, dLc, dFor, dDc, dCallS, dRaise, dTry, dIsE, dSortD, dFrzE, jKeys, dIndexD, dEqS, dReprG, if_true, if_false, ite_true, ite_false, Bool.false_eq_true, reduceIte, Bool.not_true, Bool.not_false, List.getElem?_cons_zero, List.getElem?_cons_succ, List.set_cons_zero, List.set_cons_succ, List.map_cons, List.map_nil, List.replicate, List.cons_append, List.nil_append, List.length_cons, List.length_nil, dstart]
  refine ⟨ls.length, by simp only [lenV, h1], ?_⟩
  by_cases hl0 : (0 : Int) < ls.length
  · simp only [decide_eq_true hl0, if_true, if_false, ite_true, ite_false, Bool.false_eq_true, reduceIte, Bool.not_true, Bool.not_false, List.getElem?_cons_zero, List.getElem?_cons_succ, List.set_cons_zero, List.set_cons_succ, List.map_cons, List.map_nil, List.replicate, List.cons_append, List.nil_append, List.length_cons, List.length_nil, dstart]
    simp only [tyD, h1, h2]
    refine ⟨trivial, trivial, ls.length, by simp only [lenV, h1], p, ls.length, rfl, h3, by omega, by omega, fun r M2 r0 r1 d2 a2 => ?_⟩
    have a2a : M2 a = some (.lst ls) := (a2 a (by simpa using nap)).trans h1
    have a2b : M2 b = some (.lst fs) := (a2 b (by simpa using nbp)).trans h2
    have hr : r.toNat < ls.length := by omega
    have e1 : ls[r.toNat]? = some ls[r.toNat] := List.getElem?_eq_getElem hr
    generalize ls[r.toNat] = x at e1
    simp only [a2a]
    refine ⟨r.toNat, x, ixN_of (by omega) hr, e1, ?_⟩
    simp only [mset_ne nba, a2b]
    refine ⟨len_lt (by omega), (ls.eraseIdx r.toNat).length, by rw [List.length_eraseIdx, if_pos hr]; omega, ls.eraseIdx r.toNat, fs ++ [x], trivial, rfl, ?_, ?_, (d2.mset nap).mset nbp, ((h4.trans a2.ext).mset ha).mset hb0, ?_⟩
    · rw [mset_ne (Ne.symm nba), mset_same]
    · rw [mset_same]
    · refine List.Perm.trans ?_ h6
      have z := eraseIdx_perm e1
      have : (ls.eraseIdx r.toNat ++ (fs ++ [x])).Perm ((ls.eraseIdx r.toNat ++ [x]) ++ fs) := by
        rw [List.append_assoc]
        exact List.Perm.append_left _ List.perm_append_comm
      exact this.trans (z.append_right fs)
  · simp only [decide_eq_false hl0, if_true, if_false, ite_true, ite_false, Bool.false_eq_true, reduceIte, Bool.not_true, Bool.not_false, List.getElem?_cons_zero, List.getElem?_cons_succ, List.set_cons_zero, List.set_cons_succ, List.map_cons, List.map_nil, List.replicate, List.cons_append, List.nil_append, List.length_cons, List.length_nil, dstart]
    have : ls = [] := List.length_eq_zero_iff.mp (by omega)
    subst this
    exact fin_self (q fs b M' h3 h4 hb0 h2 h6)
theorem sc__law_pairs : FnScope ["_law_size", "_law_found", "_law_one", "_law_two"] ["_law_size"] (defScope s__law_pairs) := ⟨rfl, rfl, rfl, by decide +kernel, rfl, by decide +kernel, by decide +kernel⟩
def sp__law_pairs : DSp := fun ds M Q _ => ∃ n : Int, ds = [.int n] ∧ 0 ≤ n ∧ n ≤ 8 ∧ ∀ l, M l = none → Q (.ref l) (mset M l (.lst ((allPrs n n.toNat).map prD)))
theorem c__law_pairs (F : DFun K mg "_law_pairs" s__law_pairs ["_law_size"]) (B : Bn mg) (G : Gs mg)  : DCal P w K mg base CX0 1 "_law_pairs" sp__law_pairs := by
  refine dok F sc__law_pairs (fun ds M Q E h => (by obtain ⟨_, h⟩ := h; first | (obtain ⟨e, _⟩ := h; subst e; rfl) | (obtain ⟨_, e, _⟩ := h; subst e; rfl) | (obtain ⟨_, _, e, _⟩ := h; subst e; rfl) | (obtain ⟨_, _, _, e, _⟩ := h; subst e; rfl) | (obtain ⟨_, _, _, _, e, _⟩ := h; subst e; rfl) | (obtain ⟨_, _, _, _, _, e, _⟩ := h; subst e; rfl) | (obtain ⟨_, _, _, _, _, _, e, _⟩ := h; subst e; rfl) | (obtain ⟨_, _, _, _, _, _, _, e, _⟩ := h; subst e; rfl) | (obtain ⟨_, _, _, _, _, _, _, _, e, _⟩ := h; subst e; rfl) | (obtain ⟨_, _, _, _, _, _, _, _, _, e, _⟩ := h; subst e; rfl) | (obtain ⟨_, _, _, _, _, _, _, _, _, _, e, _⟩ := h; subst e; rfl) | (obtain ⟨_, _, _, _, _, _, _, _, _, _, _, e, _⟩ := h; subst e; rfl) | (obtain ⟨_, _, _, _, _, _, _, _, _, _, _, _, e, _⟩ := h; subst e; rfl) | (obtain ⟨_, _, _, _, _, _, _, _, _, _, _, _, _, e, _⟩ := h; subst e; rfl) | (obtain ⟨_, _, _, _, _, _, _, _, _, _, _, _, _, _, e, _⟩ := h; subst e; rfl) | (obtain ⟨_, _, _, _, _, _, _, _, _, _, _, _, _, _, _, e, _⟩ := h; subst e; rfl) | (obtain ⟨_, _, _, _, _, _, _, _, _, _, _, _, _, _, _, _, e, _⟩ := h; subst e; rfl) | (obtain ⟨_, _, _, _, _, _, _, _, _, _, _, _, _, _, _, _, _, e, _⟩ := h; subst e; rfl) | (obtain ⟨_, _, _, _, _, _, _, _, _, _, _, _, _, _, _, _, _, _, e, _⟩ := h; subst e; rfl) | (obtain ⟨_, _, _, _, _, _, _, _, _, _, _, _, _, _, _, _, _, _, _, e, _⟩ := h; subst e; rfl) | (obtain ⟨_, _, _, _, _, _, _, _, _, _, _, _, _, _, _, _, _, _, _, _, e, _⟩ := h; subst e; rfl) | (obtain ⟨_, _, _, _, _, _, _, _, _, _, _, _, _, _, _, _, _, _, _, _, _, e, _⟩ := h; subst e; rfl) | (obtain ⟨_, _, _, _, _, _, _, _, _, _, _, _, _, _, _, _, _, _, _, _, _, _, e, _⟩ := h; subst e; rfl) | (obtain ⟨_, _, _, _, _, _, _, _, _, _, _, _, _, _, _, _, _, _, _, _, _, _, _, e, _⟩ := h; subst e; rfl) | (obtain ⟨_, _, _, _, _, _, _, _, _, _, _, _, _, _, _, _, _, _, _, _, _, _, _, _, e, _⟩ := h; subst e; rfl) | (obtain ⟨_, _, _, _, _, _, _, _, _, _, _, _, _, _, _, _, _, _, _, _, _, _, _, _, _, e, _⟩ := h; subst e; rfl))) (fun f cdv A outer s H E F0 hr => ?_)
  have nd := (sc__law_pairs).nd
  refine ⟨_, _, (db_cons (ds_set 1 nd (de_lstM da_nil))
      (db_cons (ds_for PassesOwn.never rfl (di_range1 B.range (da_cons (de_var 0) da_nil)) (dg_name 2 nd) (db_one (ds_expr (de_extend (de_var 1) (da_cons (dx_lc (own := [("_law_two", 3)]) rfl nd (di_range2 B.range (da_cons (de_add (de_var 2) de_int) (da_cons (de_var 0) da_nil))) (blkOk_by (N := ["_law_size", "_law_found", "_law_one", "_law_two"]) (sc := defScope s__law_pairs) (by decide +kernel)) (fun _ _ _ _ _ => ⟨_, (dg_name 3 nd), (gw_name (by decide))⟩) (fun _ _ _ _ _ => ⟨_, dts_nil⟩) (fun _ _ _ _ _ => ⟨_, (de_tup (da_cons (de_var 2) (da_cons (de_var 3) da_nil)))⟩)) da_nil)))))
      (db_one (ds_ret (de_var 1))))), ?_⟩
  rintro ds M Q E ⟨n, rfl, n0, n8, q⟩
  refine dSeq_then (fun γ' M' => ∃ l, γ' = [some (.int n), some (.ref l), none, none] ∧ M l = none ∧ M' = mset M l (.lst [])) (fun nx hn => ?_) (fun γ1 M1 h => ?_)
  · simp only [dVar, dC, dOp, dTest, dII, dIC, dFld, dFldS, dMake, dProp, dLcM, toM, dppNil, dppCons, dMerge, dDisp, dCatL, dRep, dRepM, dExtend, dChain, dEq, dAnd, dOr, dNot, dIfE, dNext, dSeq, dDrop, dRet, dIfS, dNever, dFrz, hName, hNil, hCons, hTup, hSub, dAsg, dAug, dipI, dNil, dCons, dTup, dLst, dLstM, dIx, dSet, dCall, dwipe, dYes, jSeq, jRng1, jRng2, dCB, dLen, dList, dListM, dTuple, dAbs, dInt, dBM0, dBM, dAppend, dPop, dPopAt, dAndV, dNotV, dNeg, dIn, dNoPart, dPart, dSl, dSlM, dNewK, dIsi, dIsiT, dLc, dFor, dDc, dCallS, dRaise, dTry, dIsE, dSortD, dFrzE, jKeys, dIndexD, dEqS, dReprG, if_true, if_false, ite_true, ite_false, Bool.false_eq_true, reduceIte, Bool.not_true, Bool.not_false, List.getElem?_cons_zero, List.getElem?_cons_succ, List.set_cons_zero, List.set_cons_succ, List.map_cons, List.map_nil, List.replicate, List.cons_append, List.nil_append, List.length_cons, List.length_nil, dstart]
    exact ⟨by decide, fun l hl => hn _ _ ⟨l, rfl, hl, rfl⟩⟩
  obtain ⟨l, rfl, hl, rfl⟩ := h
  refine dSeq_then (fun γ' M' => ∃ o : Option D, γ' = [some (.int n), some (.ref l), o, none] ∧ M' = mset M l (.lst ((allPrs n n.toNat).map prD))) (fun nx hn => ?_) (fun γ2 M2 h => ?_)
  · simp only [dFor, jRng1, dCons, dNil, dVar, hName, if_true, if_false, ite_true, ite_false, Bool.false_eq_true, reduceIte, Bool.not_true, Bool.not_false, List.getElem?_cons_zero, List.getElem?_cons_succ, List.set_cons_zero, List.set_cons_succ, List.map_cons, List.map_nil, List.replicate, List.cons_append, List.nil_append, List.length_cons, List.length_nil, dstart]
    refine ⟨by omega, dForI_of (fun i γ M' => ∃ o : Option D, γ = [some (.int n), some (.ref l), o, none] ∧ M' = mset M l (.lst ((allPrs n i).map prD))) ⟨none, rfl, rfl⟩ ?_ ?_⟩
    · rintro i e γ M' he ⟨o, rfl, rfl⟩
      obtain ⟨hi, rfl⟩ := rgD_get he
      rw [Int.zero_add]
      simp only [dVar, dC, dOp, dTest, dII, dIC, dFld, dFldS, dMake, dProp, dLcM, toM, dppNil, dppCons, dMerge, dDisp, dCatL, dRep, dRepM, dExtend, dChain, dEq, dAnd, dOr, dNot, dIfE, dNext, dSeq, dDrop, dRet, dIfS, dNever, dFrz, hName, hNil, hCons, hTup, hSub, dAsg, dAug, dipI, dNil, dCons, dTup, dLst, dLstM, dIx, dSet, dCall, dwipe, dYes, jSeq, jRng1, jRng2, dCB, dLen, dList, dListM, dTuple, dAbs, dInt, dBM0, dBM, dAppend, dPop, dPopAt, dAndV, dNotV, dNeg, dIn, dNoPart, dPart, dSl, dSlM, dNewK, dIsi, dIsiT, dLc, dFor, dDc, dCallS, dRaise, dTry, dIsE, dSortD, dFrzE, jKeys, dIndexD, dEqS, dReprG, if_true, if_false, ite_true, ite_false, Bool.false_eq_true, reduceIte, Bool.not_true, Bool.not_false, List.getElem?_cons_zero, List.getElem?_cons_succ, List.set_cons_zero, List.set_cons_succ, List.map_cons, List.map_nil, List.replicate, List.cons_append, List.nil_append, List.length_cons, List.length_nil, dstart]
      refine ⟨by simp only [tyD, mset_same], by omega, by rw [rgD_len]; exact len_ok (by omega), dLcI_idx (fun j => prD ((i : Int), (i : Int) + 1 + (j : Int))) (fun j dd hd Q2 q2 => ?_) ?_⟩
      · obtain ⟨hj, rfl⟩ := rgD_get hd
        simp only [dVar, dC, dOp, dTest, dII, dIC, dFld, dFldS, dMake, dProp, dLcM, toM, dppNil, dppCons, dMerge, dDisp, dCatL, dRep, dRepM, dExtend, dChain, dEq, dAnd, dOr, dNot, dIfE, dNext, dSeq, dDrop, dRet, dIfS, dNever, dFrz, hName, hNil, hCons, hTup, hSub, dAsg, dAug, dipI, dNil, dCons, dTup, dLst, dLstM, dIx, dSet, dCall, dwipe, dYes, jSeq, jRng1, jRng2, dCB, dLen, dList, dListM, dTuple, dAbs, dInt, dBM0, dBM, dAppend, dPop, dPopAt, dAndV, dNotV, dNeg, dIn, dNoPart, dPart, dSl, dSlM, dNewK, dIsi, dIsiT, dLc, dFor, dDc, dCallS, dRaise, dTry, dIsE, dSortD, dFrzE, jKeys, dIndexD, dEqS, dReprG, if_true, if_false, ite_true, ite_false, Bool.false_eq_true, reduceIte, Bool.not_true, Bool.not_false, List.getElem?_cons_zero, List.getElem?_cons_succ, List.set_cons_zero, List.set_cons_succ, List.map_cons, List.map_nil, List.replicate, List.cons_append, List.nil_append, List.length_cons, List.length_nil, dstart]
        exact ⟨by decide, q2⟩
      · have e : (List.range (rgD ((i : Int) + 1) (n - ((i : Int) + 1)).toNat).length).map (fun (j : Nat) => prD ((i : Int), (i : Int) + 1 + (j : Int))) = ((List.range (n - ((i : Int) + 1)).toNat).map fun (j : Nat) => ((i : Int), (i : Int) + 1 + (j : Int))).map prD := by
          rw [rgD_len, List.map_map]; rfl
        have l1 := (allPrs_ok n i).len28 n8
        simp only [mset_same]
        refine ⟨_, rfl, ?_, _, rfl, ?_⟩
        · rw [e, List.length_map, List.length_map, List.length_map, List.length_range]; exact len_ok (by omega)
        · rw [mset_mset, e, allPrs_succ, List.map_append]
    · rintro γ M' ⟨o, rfl, rfl⟩
      rw [rgD_len]
      exact hn _ _ ⟨o, rfl, rfl⟩
  obtain ⟨o, rfl, rfl⟩ := h
  simp only [dVar, dC, dOp, dTest, dII, dIC, dFld, dFldS, dMake, dProp, dLcM, toM, dppNil, dppCons, dMerge, dDisp, dCatL, dRep, dRepM, dExtend, dChain, dEq, dAnd, dOr, dNot, dIfE, dNext, dSeq, dDrop, dRet, dIfS, dNever, dFrz, hName, hNil, hCons, hTup, hSub, dAsg, dAug, dipI, dNil, dCons, dTup, dLst, dLstM, dIx, dSet, dCall, dwipe, dYes, jSeq, jRng1, jRng2, dCB, dLen, dList, dListM, dTuple, dAbs, dInt, dBM0, dBM, dAppend, dPop, dPopAt, dAndV, dNotV, dNeg, dIn, dNoPart, dPart, dSl, dSlM, dNewK, dIsi, dIsiT, dLc, dFor, dDc, dCallS, dRaise, dTry, dIsE, dSortD, dFrzE, jKeys, dIndexD, dEqS, dReprG, if_true, if_false, ite_true, ite_false, Bool.false_eq_true, reduceIte, Bool.not_true, Bool.not_false, List.getElem?_cons_zero, List.getElem?_cons_succ, List.set_cons_zero, List.set_cons_succ, List.map_cons, List.map_nil, List.replicate, List.cons_append, List.nil_append, List.length_cons, List.length_nil, dstart]
  exact fin_self (q l hl)
theorem sc__law_book : FnScope ["_law_dice_here", "_law_most", "_law_many"] ["_law_dice_here", "_law_most"] (defScope s__law_book) := ⟨rfl, rfl, rfl, by decide +kernel, rfl, by decide +kernel, by decide +kernel⟩
def sp__law_book : DSp := fun ds M Q _ => ∃ (p : Addr) (most : Int), ds = [.ref p, .int most] ∧ DiL M p ∧ 1 ≤ most ∧ most ≤ 8 ∧ ∀ n ps M2, BookOk n ps → n ≤ most → DiL M2 p → Ext M M2 [p] → Q (.tup [.int n, .tup (ps.map prD)]) M2
theorem c__law_book (F : DFun K mg "_law_book" s__law_book ["_law_dice_here", "_law_most"]) (B : Bn mg) (G : Gs mg) (c__law_draw : DCal P w K mg base CX0 1 "_law_draw" sp__law_draw) (c__law_drawn_ties : DCal P w K mg base CX0 2 "_law_drawn_ties" sp__law_drawn_ties) (c__law_mixed : DCal P w K mg base CX0 2 "_law_mixed" sp__law_mixed) (c__law_pairs : DCal P w K mg base CX0 1 "_law_pairs" sp__law_pairs) : DCal P w K mg base CX0 3 "_law_book" sp__law_book := by
  refine dok F sc__law_book (fun ds M Q E h => (by obtain ⟨_, h⟩ := h; first | (obtain ⟨e, _⟩ := h; subst e; rfl) | (obtain ⟨_, e, _⟩ := h; subst e; rfl) | (obtain ⟨_, _, e, _⟩ := h; subst e; rfl) | (obtain ⟨_, _, _, e, _⟩ := h; subst e; rfl) | (obtain ⟨_, _, _, _, e, _⟩ := h; subst e; rfl) | (obtain ⟨_, _, _, _, _, e, _⟩ := h; subst e; rfl) | (obtain ⟨_, _, _, _, _, _, e, _⟩ := h; subst e; rfl) | (obtain ⟨_, _, _, _, _, _, _, e, _⟩ := h; subst e; rfl) | (obtain ⟨_, _, _, _, _, _, _, _, e, _⟩ := h; subst e; rfl) | (obtain ⟨_, _, _, _, _, _, _, _, _, e, _⟩ := h; subst e; rfl) | (obtain ⟨_, _, _, _, _, _, _, _, _, _, e, _⟩ := h; subst e; rfl) | (obtain ⟨_, _, _, _, _, _, _, _, _, _, _, e, _⟩ := h; subst e; rfl) | (obtain ⟨_, _, _, _, _, _, _, _, _, _, _, _, e, _⟩ := h; subst e; rfl) | (obtain ⟨_, _, _, _, _, _, _, _, _, _, _, _, _, e, _⟩ := h; subst e; rfl) | (obtain ⟨_, _, _, _, _, _, _, _, _, _, _, _, _, _, e, _⟩ := h; subst e; rfl) | (obtain ⟨_, _, _, _, _, _, _, _, _, _, _, _, _, _, _, e, _⟩ := h; subst e; rfl) | (obtain ⟨_, _, _, _, _, _, _, _, _, _, _, _, _, _, _, _, e, _⟩ := h; subst e; rfl) | (obtain ⟨_, _, _, _, _, _, _, _, _, _, _, _, _, _, _, _, _, e, _⟩ := h; subst e; rfl) | (obtain ⟨_, _, _, _, _, _, _, _, _, _, _, _, _, _, _, _, _, _, e, _⟩ := h; subst e; rfl) | (obtain ⟨_, _, _, _, _, _, _, _, _, _, _, _, _, _, _, _, _, _, _, e, _⟩ := h; subst e; rfl) | (obtain ⟨_, _, _, _, _, _, _, _, _, _, _, _, _, _, _, _, _, _, _, _, e, _⟩ := h; subst e; rfl) | (obtain ⟨_, _, _, _, _, _, _, _, _, _, _, _, _, _, _, _, _, _, _, _, _, e, _⟩ := h; subst e; rfl) | (obtain ⟨_, _, _, _, _, _, _, _, _, _, _, _, _, _, _, _, _, _, _, _, _, _, e, _⟩ := h; subst e; rfl) | (obtain ⟨_, _, _, _, _, _, _, _, _, _, _, _, _, _, _, _, _, _, _, _, _, _, _, e, _⟩ := h; subst e; rfl) | (obtain ⟨_, _, _, _, _, _, _, _, _, _, _, _, _, _, _, _, _, _, _, _, _, _, _, _, e, _⟩ := h; subst e; rfl) | (obtain ⟨_, _, _, _, _, _, _, _, _, _, _, _, _, _, _, _, _, _, _, _, _, _, _, _, _, e, _⟩ := h; subst e; rfl))) (fun f cdv A outer s H E F0 hr => ?_)
  have nd := (sc__law_book).nd
  refine ⟨_, _, (db_cons (ds_set 2 nd (de_add de_int (de_call c__law_draw hr (goes0A (E := DXK.no)) (da_cons (de_var 0) (da_cons (de_var 1) da_nil)))))
      (db_one (ds_ret (de_tup (da_cons (de_var 2) (da_cons (de_call c__law_drawn_ties hr (goes0A (E := DXK.no)) (da_cons (de_var 0) (da_cons (de_var 2) (da_cons (de_call c__law_mixed hr (goes0A (E := DXK.no)) (da_cons (de_var 0) (da_cons (de_call c__law_pairs hr (goes0A (E := DXK.no)) (da_cons (de_var 2) da_nil)) da_nil))) da_nil)))) da_nil)))))), ?_⟩
  rintro ds M Q E ⟨p, most, rfl, hp, m1, m8, q⟩
  refine dSeq_then (fun γ' M' => ∃ n : Int, γ' = [some (.ref p), some (.int most), some (.int n)] ∧ 1 ≤ n ∧ n ≤ most ∧ DiL M' p ∧ Agree M M' [p]) (fun nx hn => ?_) (fun γ1 M1 h => ?_)
  · simp only [dVar, dC, dOp, dTest, dII, dIC, dFld, dFldS, dMake, dProp, dLcM, toM, dppNil, dppCons, dMerge, dDisp, dCatL, dRep, dRepM, dExtend, dChain, dEq, dAnd, dOr, dNot, dIfE, dNext, dSeq, dDrop, dRet, dIfS, dNever, dFrz, hName, hNil, hCons, hTup, hSub, dAsg, dAug, dipI, dNil, dCons, dTup, dLst, dLstM, dIx, dSet, dCall, dwipe, dYes, jSeq, jRng1, jRng2, dCB, dLen, dList, dListM, dTuple, dAbs, dInt, dBM0, dBM, dAppend, dPop, dPopAt, dAndV, dNotV, dNeg, dIn, dNoPart, dPart, dSl, dSlM, dNewK, dIsi, dIsiT, dLc, dFor, dDc, dCallS, dRaise, dTry, dIsE, dSortD, dFrzE, jKeys, dIndexD, dEqS, dReprG, if_true, if_false, ite_true, ite_false, Bool.false_eq_true, reduceIte, Bool.not_true, Bool.not_false, List.getElem?_cons_zero, List.getElem?_cons_succ, List.set_cons_zero, List.set_cons_succ, List.map_cons, List.map_nil, List.replicate, List.cons_append, List.nil_append, List.length_cons, List.length_nil, dstart]
    exact ⟨p, most, rfl, hp, m1, by omega, fun r M2 r0 r1 d2 a2 => hn _ _ ⟨1 + r, rfl, by omega, by omega, d2, a2⟩⟩
  obtain ⟨n, rfl, n1, n2, d1, a1⟩ := h
  simp only [dVar, dC, dOp, dTest, dII, dIC, dFld, dFldS, dMake, dProp, dLcM, toM, dppNil, dppCons, dMerge, dDisp, dCatL, dRep, dRepM, dExtend, dChain, dEq, dAnd, dOr, dNot, dIfE, dNext, dSeq, dDrop, dRet, dIfS, dNever, dFrz, hName, hNil, hCons, hTup, hSub, dAsg, dAug, dipI, dNil, dCons, dTup, dLst, dLstM, dIx, dSet, dCall, dwipe, dYes, jSeq, jRng1, jRng2, dCB, dLen, dList, dListM, dTuple, dAbs, dInt, dBM0, dBM, dAppend, dPop, dPopAt, dAndV, dNotV, dNeg, dIn, dNoPart, dPart, dSl, dSlM, dNewK, dIsi, dIsiT, dLc, dFor, dDc, dCallS, dRaise, dTry, dIsE, dSortD, dFrzE, jKeys, dIndexD, dEqS, dReprG, if_true, if_false, ite_true, ite_false, Bool.false_eq_true, reduceIte, Bool.not_true, Bool.not_false, List.getElem?_cons_zero, List.getElem?_cons_succ, List.set_cons_zero, List.set_cons_succ, List.map_cons, List.map_nil, List.replicate, List.cons_append, List.nil_append, List.length_cons, List.length_nil, dstart]
  have l28 := (allPrs_ok n n.toNat).len28 (by omega)
  refine ⟨n, rfl, by omega, by omega, fun l hl => ⟨p, .ref l, _, rfl, by simp only [itemsV, mset_same]; rfl, d1.mset (d1.some hl), by rw [List.length_map]; omega, fun ms l2 M3 d3 e3 hl2 h2 pm => ?_⟩⟩
  obtain ⟨its, rfl, pm2⟩ := perm_prD pm
  exact ⟨p, l2, n, its, rfl, d3, n1, by omega, h2, pm2, fun ps M4 d4 e4 ok => ⟨by decide, fin_self (q n ps M4 ok n2 d4 (((a1.ext.mset (a1.ext.fresh (by simpa using d1.some hl) hl)).trans e3).trans e4))⟩⟩
theorem sc__law_dice : FnScope ["_law_script", "_law_cell"] ["_law_script"] (defScope s__law_dice) := ⟨rfl, rfl, rfl, by decide +kernel, rfl, by decide +kernel, by decide +kernel⟩
def sp__law_dice : DSp := fun ds M Q _ => ∃ ns : List Int, ds = [.ls (ns.map .int)] ∧ ns.length ≤ 63 ∧ ∀ p M2, M p = none → DiL M2 p → Agree M M2 [p] → Q (.ref p) M2
theorem c__law_dice (F : DFun K mg "_law_dice" s__law_dice ["_law_script"]) (B : Bn mg) (G : Gs mg)  : DCal P w K mg base CX0 1 "_law_dice" sp__law_dice := by
  refine dok F sc__law_dice (fun ds M Q E h => (by obtain ⟨_, h⟩ := h; first | (obtain ⟨e, _⟩ := h; subst e; rfl) | (obtain ⟨_, e, _⟩ := h; subst e; rfl) | (obtain ⟨_, _, e, _⟩ := h; subst e; rfl) | (obtain ⟨_, _, _, e, _⟩ := h; subst e; rfl) | (obtain ⟨_, _, _, _, e, _⟩ := h; subst e; rfl) | (obtain ⟨_, _, _, _, _, e, _⟩ := h; subst e; rfl) | (obtain ⟨_, _, _, _, _, _, e, _⟩ := h; subst e; rfl) | (obtain ⟨_, _, _, _, _, _, _, e, _⟩ := h; subst e; rfl) | (obtain ⟨_, _, _, _, _, _, _, _, e, _⟩ := h; subst e; rfl) | (obtain ⟨_, _, _, _, _, _, _, _, _, e, _⟩ := h; subst e; rfl) | (obtain ⟨_, _, _, _, _, _, _, _, _, _, e, _⟩ := h; subst e; rfl) | (obtain ⟨_, _, _, _, _, _, _, _, _, _, _, e, _⟩ := h; subst e; rfl) | (obtain ⟨_, _, _, _, _, _, _, _, _, _, _, _, e, _⟩ := h; subst e; rfl) | (obtain ⟨_, _, _, _, _, _, _, _, _, _, _, _, _, e, _⟩ := h; subst e; rfl) | (obtain ⟨_, _, _, _, _, _, _, _, _, _, _, _, _, _, e, _⟩ := h; subst e; rfl) | (obtain ⟨_, _, _, _, _, _, _, _, _, _, _, _, _, _, _, e, _⟩ := h; subst e; rfl) | (obtain ⟨_, _, _, _, _, _, _, _, _, _, _, _, _, _, _, _, e, _⟩ := h; subst e; rfl) | (obtain ⟨_, _, _, _, _, _, _, _, _, _, _, _, _, _, _, _, _, e, _⟩ := h; subst e; rfl) | (obtain ⟨_, _, _, _, _, _, _, _, _, _, _, _, _, _, _, _, _, _, e, _⟩ := h; subst e; rfl) | (obtain ⟨_, _, _, _, _, _, _, _, _, _, _, _, _, _, _, _, _, _, _, e, _⟩ := h; subst e; rfl) | (obtain ⟨_, _, _, _, _, _, _, _, _, _, _, _, _, _, _, _, _, _, _, _, e, _⟩ := h; subst e; rfl) | (obtain ⟨_, _, _, _, _, _, _, _, _, _, _, _, _, _, _, _, _, _, _, _, _, e, _⟩ := h; subst e; rfl) | (obtain ⟨_, _, _, _, _, _, _, _, _, _, _, _, _, _, _, _, _, _, _, _, _, _, e, _⟩ := h; subst e; rfl) | (obtain ⟨_, _, _, _, _, _, _, _, _, _, _, _, _, _, _, _, _, _, _, _, _, _, _, e, _⟩ := h; subst e; rfl) | (obtain ⟨_, _, _, _, _, _, _, _, _, _, _, _, _, _, _, _, _, _, _, _, _, _, _, _, e, _⟩ := h; subst e; rfl) | (obtain ⟨_, _, _, _, _, _, _, _, _, _, _, _, _, _, _, _, _, _, _, _, _, _, _, _, _, e, _⟩ := h; subst e; rfl))) (fun f cdv A outer s H E F0 hr => ?_)
  have nd := (sc__law_dice).nd
  refine ⟨_, _, (db_one (ds_ret (de_lstM (da_cons (dx_lc (own := [("_law_cell", 1)]) rfl nd (di_seq (de_slice (de_var 0) do_none (do_some de_int))) (blkOk_by (N := ["_law_script", "_law_cell"]) (sc := defScope s__law_dice) (by decide +kernel)) (fun _ _ _ _ _ => ⟨_, (dg_name 1 nd), (gw_name (by decide))⟩) (fun _ _ _ _ _ => ⟨_, dts_nil⟩) (fun _ _ _ _ _ => ⟨_, (de_blt call_abs lc_abs B.abs (da_cons (de_bty call_int1 lc_int B.int (da_cons (de_var 1) da_nil)) da_nil))⟩)) (da_cons de_int (da_cons de_int (da_cons de_int (da_cons de_int da_nil)))))))), ?_⟩
  rintro ds M Q E ⟨ns, rfl, hl, q⟩
  simp only [dVar, dC, dOp, dTest, dII, dIC, dFld, dFldS, dMake, dProp, dLcM, toM, dppNil, dppCons, dMerge, dDisp, dCatL, dRep, dRepM, dExtend, dChain, dEq, dAnd, dOr, dNot, dIfE, dNext, dSeq, dDrop, dRet, dIfS, dNever, dFrz, hName, hNil, hCons, hTup, hSub, dAsg, dAug, dipI, dNil, dCons, dTup, dLst, dLstM, dIx, dSet, dCall, dwipe, dYes, jSeq, jRng1, jRng2, dCB, dLen, dList, dListM, dTuple, dAbs, dInt, dBM0, dBM, dAppend, dPop, dPopAt, dAndV, dNotV, dNeg, dIn, dNoPart, dPart, dSl, dSlM, dNewK, dIsi, dIsiT, dLc, dFor, dDc, dCallS, dRaise, dTry, dIsE, dSortD, dFrzE, jKeys, dIndexD, dEqS, dReprG, if_true, if_false, ite_true, ite_false, Bool.false_eq_true, reduceIte, Bool.not_true, Bool.not_false, List.getElem?_cons_zero, List.getElem?_cons_succ, List.set_cons_zero, List.set_cons_succ, List.map_cons, List.map_nil, List.replicate, List.cons_append, List.nil_append, List.length_cons, List.length_nil, dstart]
  have e : cutD (ns.map D.int) none (some 63) = ns.map D.int := by
    have h1 : HT.sIx (ns.map D.int).length 0 none = 0 := rfl
    have h2 : (ns.map D.int).length ≤ HT.sIx (ns.map D.int).length (ns.map D.int).length (some 63) := by
      rw [List.length_map]
      show ns.length ≤ min 63 ns.length
      omega
    unfold cutD
    rw [h1, List.drop_zero, List.take_of_length_le (by omega)]
  rw [e]
  refine ⟨by rw [List.length_map]; exact len_ok (by omega), fun i acc M' => M' = M ∧ ∃ ms : List Int, acc = ms.map .int, ⟨rfl, [], rfl⟩, ?_, ?_⟩
  · rintro i d acc M' hd ⟨rfl, ms, rfl⟩
    obtain ⟨x, hx, rfl⟩ := get_int hd
    simp only [dVar, dC, dOp, dTest, dII, dIC, dFld, dFldS, dMake, dProp, dLcM, toM, dppNil, dppCons, dMerge, dDisp, dCatL, dRep, dRepM, dExtend, dChain, dEq, dAnd, dOr, dNot, dIfE, dNext, dSeq, dDrop, dRet, dIfS, dNever, dFrz, hName, hNil, hCons, hTup, hSub, dAsg, dAug, dipI, dNil, dCons, dTup, dLst, dLstM, dIx, dSet, dCall, dwipe, dYes, jSeq, jRng1, jRng2, dCB, dLen, dList, dListM, dTuple, dAbs, dInt, dBM0, dBM, dAppend, dPop, dPopAt, dAndV, dNotV, dNeg, dIn, dNoPart, dPart, dSl, dSlM, dNewK, dIsi, dIsiT, dLc, dFor, dDc, dCallS, dRaise, dTry, dIsE, dSortD, dFrzE, jKeys, dIndexD, dEqS, dReprG, if_true, if_false, ite_true, ite_false, Bool.false_eq_true, reduceIte, Bool.not_true, Bool.not_false, List.getElem?_cons_zero, List.getElem?_cons_succ, List.set_cons_zero, List.set_cons_succ, List.map_cons, List.map_nil, List.replicate, List.cons_append, List.nil_append, List.length_cons, List.length_nil, dstart]
    exact ⟨trivial, ms ++ [_], by rw [List.map_append]; rfl⟩
  · rintro acc M' ⟨rfl, ms, rfl⟩
    refine ⟨by decide, fun p hp => fin_self (q p _ hp ⟨ms, 0, 0, 1, 0, mset_same, by decide, by decide⟩ (Agree.mset (by simp)))⟩
theorem sc__law_is_count : FnScope ["_law_thing", "_law_many"] ["_law_thing", "_law_many"] (defScope s__law_is_count) := ⟨rfl, rfl, rfl, by decide +kernel, rfl, by decide +kernel, by decide +kernel⟩
def sp__law_is_count : DSp := fun ds M Q _ => ∃ d n, ds = [d, .int n] ∧ anyD d = true ∧ Q (.bl (d.within 0 (n - 1))) M
theorem c__law_is_count (F : DFun K mg "_law_is_count" s__law_is_count ["_law_thing", "_law_many"]) (B : Bn mg) (G : Gs mg)  : DCal P w K mg base CX0 1 "_law_is_count" sp__law_is_count := by
  refine dok F sc__law_is_count (fun ds M Q E h => (by obtain ⟨_, h⟩ := h; first | (obtain ⟨e, _⟩ := h; subst e; rfl) | (obtain ⟨_, e, _⟩ := h; subst e; rfl) | (obtain ⟨_, _, e, _⟩ := h; subst e; rfl) | (obtain ⟨_, _, _, e, _⟩ := h; subst e; rfl) | (obtain ⟨_, _, _, _, e, _⟩ := h; subst e; rfl) | (obtain ⟨_, _, _, _, _, e, _⟩ := h; subst e; rfl) | (obtain ⟨_, _, _, _, _, _, e, _⟩ := h; subst e; rfl) | (obtain ⟨_, _, _, _, _, _, _, e, _⟩ := h; subst e; rfl) | (obtain ⟨_, _, _, _, _, _, _, _, e, _⟩ := h; subst e; rfl) | (obtain ⟨_, _, _, _, _, _, _, _, _, e, _⟩ := h; subst e; rfl) | (obtain ⟨_, _, _, _, _, _, _, _, _, _, e, _⟩ := h; subst e; rfl) | (obtain ⟨_, _, _, _, _, _, _, _, _, _, _, e, _⟩ := h; subst e; rfl) | (obtain ⟨_, _, _, _, _, _, _, _, _, _, _, _, e, _⟩ := h; subst e; rfl) | (obtain ⟨_, _, _, _, _, _, _, _, _, _, _, _, _, e, _⟩ := h; subst e; rfl) | (obtain ⟨_, _, _, _, _, _, _, _, _, _, _, _, _, _, e, _⟩ := h; subst e; rfl) | (obtain ⟨_, _, _, _, _, _, _, _, _, _, _, _, _, _, _, e, _⟩ := h; subst e; rfl) | (obtain ⟨_, _, _, _, _, _, _, _, _, _, _, _, _, _, _, _, e, _⟩ := h; subst e; rfl) | (obtain ⟨_, _, _, _, _, _, _, _, _, _, _, _, _, _, _, _, _, e, _⟩ := h; subst e; rfl) | (obtain ⟨_, _, _, _, _, _, _, _, _, _, _, _, _, _, _, _, _, _, e, _⟩ := h; subst e; rfl) | (obtain ⟨_, _, _, _, _, _, _, _, _, _, _, _, _, _, _, _, _, _, _, e, _⟩ := h; subst e; rfl) | (obtain ⟨_, _, _, _, _, _, _, _, _, _, _, _, _, _, _, _, _, _, _, _, e, _⟩ := h; subst e; rfl) | (obtain ⟨_, _, _, _, _, _, _, _, _, _, _, _, _, _, _, _, _, _, _, _, _, e, _⟩ := h; subst e; rfl) | (obtain ⟨_, _, _, _, _, _, _, _, _, _, _, _, _, _, _, _, _, _, _, _, _, _, e, _⟩ := h; subst e; rfl) | (obtain ⟨_, _, _, _, _, _, _, _, _, _, _, _, _, _, _, _, _, _, _, _, _, _, _, e, _⟩ := h; subst e; rfl) | (obtain ⟨_, _, _, _, _, _, _, _, _, _, _, _, _, _, _, _, _, _, _, _, _, _, _, _, e, _⟩ := h; subst e; rfl) | (obtain ⟨_, _, _, _, _, _, _, _, _, _, _, _, _, _, _, _, _, _, _, _, _, _, _, _, _, e, _⟩ := h; subst e; rfl))) (fun f cdv A outer s H E F0 hr => ?_)
  have nd := (sc__law_is_count).nd
  refine ⟨_, _, (db_one (ds_ret (de_and (de_isi B.isinstance (da_cons (de_var 0) (da_cons (de_ty (n := "int") B.int) da_nil))) (de_and (de_not (de_isi B.isinstance (da_cons (de_var 0) (da_cons (de_ty (n := "bool") B.bool) da_nil)))) (de_one (de_chain op_le (l2_II fun _ _ _ => .bl _) op_lt (l2_II fun _ _ _ => .bl _) de_int (de_var 0) (de_var 1))))))), ?_⟩
  rintro ds M Q E ⟨d, n, rfl, S, q⟩
  simp only [dVar, dC, dOp, dTest, dII, dIC, dFld, dFldS, dMake, dProp, dLcM, toM, dppNil, dppCons, dMerge, dDisp, dCatL, dRep, dRepM, dExtend, dChain, dEq, dAnd, dOr, dNot, dIfE, dNext, dSeq, dDrop, dRet, dIfS, dNever, dFrz, hName, hNil, hCons, hTup, hSub, dAsg, dAug, dipI, dNil, dCons, dTup, dLst, dLstM, dIx, dSet, dCall, dwipe, dYes, jSeq, jRng1, jRng2, dCB, dLen, dList, dListM, dTuple, dAbs, dInt, dBM0, dBM, dAppend, dPop, dPopAt, dAndV, dNotV, dNeg, dIn, dNoPart, dPart, dSl, dSlM, dNewK, dIsi, dIsiT, dLc, dFor, dDc, dCallS, dRaise, dTry, dIsE, dSortD, dFrzE, jKeys, dIndexD, dEqS, dReprG, if_true, if_false, ite_true, ite_false, Bool.false_eq_true, reduceIte, Bool.not_true, Bool.not_false, List.getElem?_cons_zero, List.getElem?_cons_succ, List.set_cons_zero, List.set_cons_succ, List.map_cons, List.map_nil, List.replicate, List.cons_append, List.nil_append, List.length_cons, List.length_nil, dstart]
  refine ⟨by decide +kernel, ?_⟩
  cases d with
  | int x =>
    refine ⟨"int", rfl, ?_⟩
    rw [if_pos (by decide +kernel)]
    refine ⟨by decide +kernel, "int", rfl, ?_⟩
    rw [if_pos (by decide +kernel)]
    have e0 : (D.int x).within 0 (n - 1) = (decide (0 ≤ x) && decide (x < n)) := by
      simp only [D.within]
      congr 1
      rw [decide_eq_decide]; omega
    rw [e0] at q
    by_cases h0 : 0 ≤ x
    · simp only [decide_eq_true h0, Bool.true_and] at q ⊢
      exact fin_self q
    · simp only [decide_eq_false h0, Bool.false_and] at q ⊢
      exact fin_self q
  | bl x =>
    refine ⟨"bool", rfl, ?_⟩
    rw [if_pos (by decide +kernel)]
    refine ⟨by decide +kernel, "bool", rfl, ?_⟩
    rw [if_neg (by decide +kernel)]
    exact fin_self q
  | non => exact ⟨_, rfl, by rw [if_neg (by decide +kernel)]; exact fin_self q⟩
  | str x => exact ⟨_, rfl, by rw [if_neg (by decide +kernel)]; exact fin_self q⟩
  | lst x => exact ⟨_, rfl, by rw [if_neg (by decide +kernel)]; exact fin_self q⟩
  | tup x => exact ⟨_, rfl, by rw [if_neg (by decide +kernel)]; exact fin_self q⟩
  | _ => cases S
theorem sc__law_is_log : FnScope ["_law_many", "_law_thing", "_law_entry"] ["_law_many", "_law_thing"] (defScope s__law_is_log) := ⟨rfl, rfl, rfl, by decide +kernel, rfl, by decide +kernel, by decide +kernel⟩
def sp__law_is_log : DSp := fun ds M Q _ => ∃ n o, ds = [.int n, o] ∧ LogSh o ∧ Q (.bl (logB n o)) M
theorem c__law_is_log (F : DFun K mg "_law_is_log" s__law_is_log ["_law_many", "_law_thing"]) (B : Bn mg) (G : Gs mg) (c__law_is_count : DCal P w K mg base CX0 1 "_law_is_count" sp__law_is_count) : DCal P w K mg base CX0 2 "_law_is_log" sp__law_is_log := by
  refine dok F sc__law_is_log (fun ds M Q E h => (by obtain ⟨_, h⟩ := h; first | (obtain ⟨e, _⟩ := h; subst e; rfl) | (obtain ⟨_, e, _⟩ := h; subst e; rfl) | (obtain ⟨_, _, e, _⟩ := h; subst e; rfl) | (obtain ⟨_, _, _, e, _⟩ := h; subst e; rfl) | (obtain ⟨_, _, _, _, e, _⟩ := h; subst e; rfl) | (obtain ⟨_, _, _, _, _, e, _⟩ := h; subst e; rfl) | (obtain ⟨_, _, _, _, _, _, e, _⟩ := h; subst e; rfl) | (obtain ⟨_, _, _, _, _, _, _, e, _⟩ := h; subst e; rfl) | (obtain ⟨_, _, _, _, _, _, _, _, e, _⟩ := h; subst e; rfl) | (obtain ⟨_, _, _, _, _, _, _, _, _, e, _⟩ := h; subst e; rfl) | (obtain ⟨_, _, _, _, _, _, _, _, _, _, e, _⟩ := h; subst e; rfl) | (obtain ⟨_, _, _, _, _, _, _, _, _, _, _, e, _⟩ := h; subst e; rfl) | (obtain ⟨_, _, _, _, _, _, _, _, _, _, _, _, e, _⟩ := h; subst e; rfl) | (obtain ⟨_, _, _, _, _, _, _, _, _, _, _, _, _, e, _⟩ := h; subst e; rfl) | (obtain ⟨_, _, _, _, _, _, _, _, _, _, _, _, _, _, e, _⟩ := h; subst e; rfl) | (obtain ⟨_, _, _, _, _, _, _, _, _, _, _, _, _, _, _, e, _⟩ := h; subst e; rfl) | (obtain ⟨_, _, _, _, _, _, _, _, _, _, _, _, _, _, _, _, e, _⟩ := h; subst e; rfl) | (obtain ⟨_, _, _, _, _, _, _, _, _, _, _, _, _, _, _, _, _, e, _⟩ := h; subst e; rfl) | (obtain ⟨_, _, _, _, _, _, _, _, _, _, _, _, _, _, _, _, _, _, e, _⟩ := h; subst e; rfl) | (obtain ⟨_, _, _, _, _, _, _, _, _, _, _, _, _, _, _, _, _, _, _, e, _⟩ := h; subst e; rfl) | (obtain ⟨_, _, _, _, _, _, _, _, _, _, _, _, _, _, _, _, _, _, _, _, e, _⟩ := h; subst e; rfl) | (obtain ⟨_, _, _, _, _, _, _, _, _, _, _, _, _, _, _, _, _, _, _, _, _, e, _⟩ := h; subst e; rfl) | (obtain ⟨_, _, _, _, _, _, _, _, _, _, _, _, _, _, _, _, _, _, _, _, _, _, e, _⟩ := h; subst e; rfl) | (obtain ⟨_, _, _, _, _, _, _, _, _, _, _, _, _, _, _, _, _, _, _, _, _, _, _, e, _⟩ := h; subst e; rfl) | (obtain ⟨_, _, _, _, _, _, _, _, _, _, _, _, _, _, _, _, _, _, _, _, _, _, _, _, e, _⟩ := h; subst e; rfl) | (obtain ⟨_, _, _, _, _, _, _, _, _, _, _, _, _, _, _, _, _, _, _, _, _, _, _, _, _, e, _⟩ := h; subst e; rfl))) (fun f cdv A outer s H E F0 hr => ?_)
  have nd := (sc__law_is_log).nd
  refine ⟨_, _, (db_cons (ds_if (DW.dt (dw_or (dt_not (dt_val (de_isiT B.isinstance (da_cons (de_var 1) (da_cons (de_tup (da_cons (de_ty (n := "list") B.list) (da_cons (de_ty (n := "tuple") B.tuple) da_nil))) da_nil))))) (dw_or1 (dt_gt (de_len B.len (da_cons (de_var 1) da_nil)) de_int)))) (db_one (ds_ret de_bl)) db_nil)
      (db_cons (ds_for PassesOwn.never rfl (di_seq (de_var 1)) (dg_name 2 nd) (db_cons (ds_if (DW.dt (dw_or (dt_not (dt_val (de_isi B.isinstance (da_cons (de_var 2) (da_cons (de_ty (n := "tuple") B.tuple) da_nil))))) (dw_or (dt_ne hr (de_len B.len (da_cons (de_var 2) da_nil)) de_int) (dw_or1 (dt_not (dt_val (de_isi B.isinstance (da_cons (de_ix hr (de_var 2) de_int) (da_cons (de_ty (n := "str") B.str) da_nil))))))))) (db_one (ds_ret de_bl)) db_nil)
      (db_one (ds_if (DW.dt (dw_or (dt_notIn hr (de_ix hr (de_var 2) de_int) (de_lst (da_cons de_str (da_cons de_str da_nil)))) (dw_or1 (dt_not (dt_val (de_call c__law_is_count hr (goes0A (E := DXK.no)) (da_cons (de_ix hr (de_var 2) de_int) (da_cons (de_var 0) da_nil)))))))) (db_one (ds_ret de_bl)) db_nil))))
      (db_one (ds_ret de_bl)))), ?_⟩
  rintro ds M Q E ⟨n, o, rfl, S, q⟩
  have seq : ∀ l : List D, (∀ e ∈ l, EntSh e) → (logB n o = l.all (entB n)) → dForI (hName 2) (dSeq (dIfS (dOr (dNot (dTest (dCB dIsi (dCons (dVar 2) (dCons (dC (D.ty "tuple")) dNil))))) (dOr (dTest (dOp (dEq true) (dCB dLen (dCons (dVar 2) dNil)) (dC (D.int 2)))) (dNot (dTest (dCB dIsi (dCons (dOp dIx (dVar 2) (dC (D.int 0))) (dCons (dC (D.ty "str")) dNil))))))) (dRet (dC (D.bl false))) dNext) (dIfS (dOr (dTest (dOp (dIn true) (dOp dIx (dVar 2) (dC (D.int 0))) (dLst (dCons (dC (D.str "order")) (dCons (dC (D.str "read")) dNil))))) (dNot (dTest (dCall sp__law_is_count DXK.no (dCons (dOp dIx (dVar 2) (dC (D.int 1))) (dCons (dVar 0) dNil)))))) (dRet (dC (D.bl false))) dNext)) { nx := dRet (dC (D.bl true)) { nx := fun x M1 => fin Q D.non M1, rt := fin Q }, rt := fin Q } [some (D.int n), some o, none] l M := fun l hl hb => by
    refine dForI_of (fun i γ M' => ∃ o2 : Option D, γ = [some (.int n), some o, o2] ∧ M' = M ∧ (l.take i).all (entB n) = true) ⟨none, rfl, rfl, rfl⟩ ?_ ?_
    · rintro i e γ M' he ⟨o2, rfl, rfl, ha⟩
      obtain ⟨h1, h2⟩ := hl e (List.mem_of_getElem? he)
      have no : entB n e = false → fin Q (.bl false) M' := fun h => fin_self (by
        have : l.all (entB n) = false := List.all_eq_false.mpr ⟨e, List.mem_of_getElem? he, by rw [h]; decide⟩
        rw [hb, this] at q; exact q)
      have yes : entB n e = true → (l.take (i + 1)).all (entB n) = true := fun h => by rw [take_snoc he, List.all_append, ha, List.all_cons, h]; rfl
      obtain ⟨T, hT, ht, _⟩ := any_ty (M := M') h1
      simp only [dVar, dC, dOp, dTest, dII, dIC, dFld, dFldS, dMake, dProp, dLcM, toM, dppNil, dppCons, dMerge, dDisp, dCatL, dRep, dRepM, dExtend, dChain, dEq, dAnd, dOr, dNot, dIfE, dNext, dSeq, dDrop, dRet, dIfS, dNever, dFrz, hName, hNil, hCons, hTup, hSub, dAsg, dAug, dipI, dNil, dCons, dTup, dLst, dLstM, dIx, dSet, dCall, dwipe, dYes, jSeq, jRng1, jRng2, dCB, dLen, dList, dListM, dTuple, dAbs, dInt, dBM0, dBM, dAppend, dPop, dPopAt, dAndV, dNotV, dNeg, dIn, dNoPart, dPart, dSl, dSlM, dNewK, dIsi, dIsiT, dLc, dFor, dDc, dCallS, dRaise, dTry, dIsE, dSortD, dFrzE, jKeys, dIndexD, dEqS, dReprG, if_true, if_false, ite_true, ite_false, Bool.false_eq_true, reduceIte, Bool.not_true, Bool.not_false, List.getElem?_cons_zero, List.getElem?_cons_succ, List.set_cons_zero, List.set_cons_succ, List.map_cons, List.map_nil, List.replicate, List.cons_append, List.nil_append, List.length_cons, List.length_nil, dstart]
      refine ⟨by decide +kernel, T, hT, ?_⟩
      cases c1 : isiT T "tuple" with
      | false =>
        simp only [if_true, if_false, ite_true, ite_false, Bool.false_eq_true, reduceIte, Bool.not_true, Bool.not_false, List.getElem?_cons_zero, List.getElem?_cons_succ, List.set_cons_zero, List.set_cons_succ, List.map_cons, List.map_nil, List.replicate, List.cons_append, List.nil_append, List.length_cons, List.length_nil, dstart]
        refine no ?_
        cases e with
        | tup l => rw [ht.mpr ⟨l, rfl⟩] at c1; cases c1
        | _ => rfl
      | true =>
        obtain ⟨es, rfl⟩ := ht.mp c1
        simp only [if_true, if_false, ite_true, ite_false, Bool.false_eq_true, reduceIte, Bool.not_true, Bool.not_false, List.getElem?_cons_zero, List.getElem?_cons_succ, List.set_cons_zero, List.set_cons_succ, List.map_cons, List.map_nil, List.replicate, List.cons_append, List.nil_append, List.length_cons, List.length_nil, dstart]
        refine ⟨es.length, by simp only [lenV], rfl, rfl, ?_⟩
        rw [D.eq_int]
        by_cases hl2 : es.length = 2
        rotate_left
        · rw [show (((es.length : Nat) : Int) == 2) = false by rw [beq_eq_false_iff_ne]; omega]
          simp only [if_true, if_false, ite_true, ite_false, Bool.false_eq_true, reduceIte, Bool.not_true, Bool.not_false, List.getElem?_cons_zero, List.getElem?_cons_succ, List.set_cons_zero, List.set_cons_succ, List.map_cons, List.map_nil, List.replicate, List.cons_append, List.nil_append, List.length_cons, List.length_nil, dstart]
          refine no ?_
          match es, hl2 with
          | [], _ => rfl
          | [a], _ => cases a <;> rfl
          | [a, t], h => exact absurd rfl h
          | a :: b :: c :: l, _ => cases a <;> rfl
        rw [show (((es.length : Nat) : Int) == 2) = true by rw [hl2]; rfl]
        obtain ⟨a, t, rfl⟩ : ∃ a t, es = [a, t] := by
          match es, hl2 with
          | [a, t], _ => exact ⟨a, t, rfl⟩
        obtain ⟨aa, at'⟩ := h2 a t rfl
        obtain ⟨Ta, hTa, _, hta⟩ := any_ty (M := M') aa
        simp only [if_true, if_false, ite_true, ite_false, Bool.false_eq_true, reduceIte, Bool.not_true, Bool.not_false, List.getElem?_cons_zero, List.getElem?_cons_succ, List.set_cons_zero, List.set_cons_succ, List.map_cons, List.map_nil, List.replicate, List.cons_append, List.nil_append, List.length_cons, List.length_nil, dstart]
        refine ⟨a, ixT_at (k := 0) rfl rfl, by decide +kernel, Ta, hTa, ?_⟩
        cases cs : isiT Ta "str" with
        | false =>
          simp only [if_true, if_false, ite_true, ite_false, Bool.false_eq_true, reduceIte, Bool.not_true, Bool.not_false, List.getElem?_cons_zero, List.getElem?_cons_succ, List.set_cons_zero, List.set_cons_succ, List.map_cons, List.map_nil, List.replicate, List.cons_append, List.nil_append, List.length_cons, List.length_nil, dstart]
          refine no ?_
          cases a with
          | str x => rw [hta.mpr ⟨x, rfl⟩] at cs; cases cs
          | _ => rfl
        | true =>
          obtain ⟨x, rfl⟩ := hta.mp cs
          simp only [if_true, if_false, ite_true, ite_false, Bool.false_eq_true, reduceIte, Bool.not_true, Bool.not_false, List.getElem?_cons_zero, List.getElem?_cons_succ, List.set_cons_zero, List.set_cons_succ, List.map_cons, List.map_nil, List.replicate, List.cons_append, List.nil_append, List.length_cons, List.length_nil, dstart]
          refine ⟨.str x, ixT_at (k := 0) rfl rfl, by decide, _, (in_words (M := M') aa : _), ?_⟩
          cases hk : (decide (x = "order") || decide (x = "read")) with
          | false =>
            simp only [if_true, if_false, ite_true, ite_false, Bool.false_eq_true, reduceIte, Bool.not_true, Bool.not_false, List.getElem?_cons_zero, List.getElem?_cons_succ, List.set_cons_zero, List.set_cons_succ, List.map_cons, List.map_nil, List.replicate, List.cons_append, List.nil_append, List.length_cons, List.length_nil, dstart]
            exact no (by simp only [entB, hk, Bool.false_and])
          | true =>
            simp only [if_true, if_false, ite_true, ite_false, Bool.false_eq_true, reduceIte, Bool.not_true, Bool.not_false, List.getElem?_cons_zero, List.getElem?_cons_succ, List.set_cons_zero, List.set_cons_succ, List.map_cons, List.map_nil, List.replicate, List.cons_append, List.nil_append, List.length_cons, List.length_nil, dstart]
            refine ⟨t, ixT_at (k := 1) rfl rfl, t, n, rfl, at', ?_⟩
            cases hw : t.within 0 (n - 1) with
            | false =>
              simp only [if_true, if_false, ite_true, ite_false, Bool.false_eq_true, reduceIte, Bool.not_true, Bool.not_false, List.getElem?_cons_zero, List.getElem?_cons_succ, List.set_cons_zero, List.set_cons_succ, List.map_cons, List.map_nil, List.replicate, List.cons_append, List.nil_append, List.length_cons, List.length_nil, dstart]
              exact no (by simp only [entB, hk, hw, Bool.true_and])
            | true =>
              simp only [if_true, if_false, ite_true, ite_false, Bool.false_eq_true, reduceIte, Bool.not_true, Bool.not_false, List.getElem?_cons_zero, List.getElem?_cons_succ, List.set_cons_zero, List.set_cons_succ, List.map_cons, List.map_nil, List.replicate, List.cons_append, List.nil_append, List.length_cons, List.length_nil, dstart]
              exact ⟨_, rfl, (by first | rfl | trivial), yes (by simp only [entB, hk, hw, Bool.true_and])⟩
    · rintro γ M' ⟨o2, rfl, rfl, ha⟩
      rw [List.take_length] at ha
      rw [hb, ha] at q
      simp only [dVar, dC, dOp, dTest, dII, dIC, dFld, dFldS, dMake, dProp, dLcM, toM, dppNil, dppCons, dMerge, dDisp, dCatL, dRep, dRepM, dExtend, dChain, dEq, dAnd, dOr, dNot, dIfE, dNext, dSeq, dDrop, dRet, dIfS, dNever, dFrz, hName, hNil, hCons, hTup, hSub, dAsg, dAug, dipI, dNil, dCons, dTup, dLst, dLstM, dIx, dSet, dCall, dwipe, dYes, jSeq, jRng1, jRng2, dCB, dLen, dList, dListM, dTuple, dAbs, dInt, dBM0, dBM, dAppend, dPop, dPopAt, dAndV, dNotV, dNeg, dIn, dNoPart, dPart, dSl, dSlM, dNewK, dIsi, dIsiT, dLc, dFor, dDc, dCallS, dRaise, dTry, dIsE, dSortD, dFrzE, jKeys, dIndexD, dEqS, dReprG, if_true, if_false, ite_true, ite_false, Bool.false_eq_true, reduceIte, Bool.not_true, Bool.not_false, List.getElem?_cons_zero, List.getElem?_cons_succ, List.set_cons_zero, List.set_cons_succ, List.map_cons, List.map_nil, List.replicate, List.cons_append, List.nil_append, List.length_cons, List.length_nil, dstart]
      exact fin_self q
  simp only [dVar, dC, dOp, dTest, dII, dIC, dFld, dFldS, dMake, dProp, dLcM, toM, dppNil, dppCons, dMerge, dDisp, dCatL, dRep, dRepM, dExtend, dChain, dEq, dAnd, dOr, dNot, dIfE, dNext, dSeq, dDrop, dRet, dIfS, dNever, dFrz, hName, hNil, hCons, hTup, hSub, dAsg, dAug, dipI, dNil, dCons, dTup, dLst, dLstM, dIx, dSet, dCall, dwipe, dYes, jSeq, jRng1, jRng2, dCB, dLen, dList, dListM, dTuple, dAbs, dInt, dBM0, dBM, dAppend, dPop, dPopAt, dAndV, dNotV, dNeg, dIn, dNoPart, dPart, dSl, dSlM, dNewK, dIsi, dIsiT, dLc, dFor, dDc, dCallS, dRaise, dTry, dIsE, dSortD, dFrzE, jKeys, dIndexD, dEqS, dReprG, if_true, if_false, ite_true, ite_false, Bool.false_eq_true, reduceIte, Bool.not_true, Bool.not_false, List.getElem?_cons_zero, List.getElem?_cons_succ, List.set_cons_zero, List.set_cons_succ, List.map_cons, List.map_nil, List.replicate, List.cons_append, List.nil_append, List.length_cons, List.length_nil, dstart]
  refine ⟨by decide, _, rfl, by decide +kernel, ?_⟩
  have big : ∀ l : List D, LogSh (.lst l) → ¬ l.length ≤ 40 → (decide (l.length ≤ 40) && l.all (entB n)) = false := fun l _ h => by rw [decide_eq_false h, Bool.false_and]
  cases o with
  | lst l =>
    refine ⟨"list", rfl, ?_⟩
    rw [if_neg (by decide +kernel)]
    refine ⟨l.length, by simp only [lenV], ?_⟩
    by_cases h40 : l.length ≤ 40
    · rw [if_neg (by simp; omega)]
      exact seq l S.2 (by simp only [logB, decide_eq_true h40, Bool.true_and])
    · rw [if_pos (by simp; omega)]
      exact fin_self (by have := q; simp only [logB, decide_eq_false h40, Bool.false_and] at this; exact this)
  | tup l =>
    refine ⟨"tuple", rfl, ?_⟩
    rw [if_neg (by decide +kernel)]
    refine ⟨l.length, by simp only [lenV], ?_⟩
    by_cases h40 : l.length ≤ 40
    · rw [if_neg (by simp; omega)]
      exact seq l S.2 (by simp only [logB, decide_eq_true h40, Bool.true_and])
    · rw [if_pos (by simp; omega)]
      exact fin_self (by have := q; simp only [logB, decide_eq_false h40, Bool.false_and] at this; exact this)
  | non => exact ⟨_, rfl, by rw [if_pos (by decide +kernel)]; exact fin_self q⟩
  | bl x => exact ⟨_, rfl, by rw [if_pos (by decide +kernel)]; exact fin_self q⟩
  | int x => exact ⟨_, rfl, by rw [if_pos (by decide +kernel)]; exact fin_self q⟩
  | str x => exact ⟨_, rfl, by rw [if_pos (by decide +kernel)]; exact fin_self q⟩
  | dk a x => exact ⟨_, rfl, by rw [if_pos (by decide +kernel)]; exact fin_self q⟩
  | _ => exact S.elim
theorem sc__law_rows : FnScope ["_law_size", "_law_pairs_here", "_law_found", "_law_one", "_law_two", "_law_number", "_law_row"] ["_law_size", "_law_pairs_here"] (defScope s__law_rows) := ⟨rfl, rfl, rfl, by decide +kernel, rfl, by decide +kernel, by decide +kernel⟩
def sp__law_rows : DSp := fun ds M Q _ => ∃ (n : Int) (ps : List (Int × Int)), ds = [.int n, .tup (ps.map prD)] ∧ 0 ≤ n ∧ n ≤ 10000 ∧ ps.length ≤ 1000000 ∧ PrsOk n ps ∧ Q (.lst (rowsL n ps)) M
theorem c__law_rows (F : DFun K mg "_law_rows" s__law_rows ["_law_size", "_law_pairs_here"]) (B : Bn mg) (G : Gs mg)  : DCal P w K mg base CX0 1 "_law_rows" sp__law_rows := by
  refine dok F sc__law_rows (fun ds M Q E h => (by obtain ⟨_, h⟩ := h; first | (obtain ⟨e, _⟩ := h; subst e; rfl) | (obtain ⟨_, e, _⟩ := h; subst e; rfl) | (obtain ⟨_, _, e, _⟩ := h; subst e; rfl) | (obtain ⟨_, _, _, e, _⟩ := h; subst e; rfl) | (obtain ⟨_, _, _, _, e, _⟩ := h; subst e; rfl) | (obtain ⟨_, _, _, _, _, e, _⟩ := h; subst e; rfl) | (obtain ⟨_, _, _, _, _, _, e, _⟩ := h; subst e; rfl) | (obtain ⟨_, _, _, _, _, _, _, e, _⟩ := h; subst e; rfl) | (obtain ⟨_, _, _, _, _, _, _, _, e, _⟩ := h; subst e; rfl) | (obtain ⟨_, _, _, _, _, _, _, _, _, e, _⟩ := h; subst e; rfl) | (obtain ⟨_, _, _, _, _, _, _, _, _, _, e, _⟩ := h; subst e; rfl) | (obtain ⟨_, _, _, _, _, _, _, _, _, _, _, e, _⟩ := h; subst e; rfl) | (obtain ⟨_, _, _, _, _, _, _, _, _, _, _, _, e, _⟩ := h; subst e; rfl) | (obtain ⟨_, _, _, _, _, _, _, _, _, _, _, _, _, e, _⟩ := h; subst e; rfl) | (obtain ⟨_, _, _, _, _, _, _, _, _, _, _, _, _, _, e, _⟩ := h; subst e; rfl) | (obtain ⟨_, _, _, _, _, _, _, _, _, _, _, _, _, _, _, e, _⟩ := h; subst e; rfl) | (obtain ⟨_, _, _, _, _, _, _, _, _, _, _, _, _, _, _, _, e, _⟩ := h; subst e; rfl) | (obtain ⟨_, _, _, _, _, _, _, _, _, _, _, _, _, _, _, _, _, e, _⟩ := h; subst e; rfl) | (obtain ⟨_, _, _, _, _, _, _, _, _, _, _, _, _, _, _, _, _, _, e, _⟩ := h; subst e; rfl) | (obtain ⟨_, _, _, _, _, _, _, _, _, _, _, _, _, _, _, _, _, _, _, e, _⟩ := h; subst e; rfl) | (obtain ⟨_, _, _, _, _, _, _, _, _, _, _, _, _, _, _, _, _, _, _, _, e, _⟩ := h; subst e; rfl) | (obtain ⟨_, _, _, _, _, _, _, _, _, _, _, _, _, _, _, _, _, _, _, _, _, e, _⟩ := h; subst e; rfl) | (obtain ⟨_, _, _, _, _, _, _, _, _, _, _, _, _, _, _, _, _, _, _, _, _, _, e, _⟩ := h; subst e; rfl) | (obtain ⟨_, _, _, _, _, _, _, _, _, _, _, _, _, _, _, _, _, _, _, _, _, _, _, e, _⟩ := h; subst e; rfl) | (obtain ⟨_, _, _, _, _, _, _, _, _, _, _, _, _, _, _, _, _, _, _, _, _, _, _, _, e, _⟩ := h; subst e; rfl) | (obtain ⟨_, _, _, _, _, _, _, _, _, _, _, _, _, _, _, _, _, _, _, _, _, _, _, _, _, e, _⟩ := h; subst e; rfl))) (fun f cdv A outer s H E F0 hr => ?_)
  have nd := (sc__law_rows).nd
  refine ⟨_, _, (db_cons (dx_setLc 2 (own := [("_law_number", 5)]) rfl nd (sw_true rfl rfl rfl (by decide +kernel)) (di_range1 B.range (da_cons (de_var 0) da_nil)) (blkOk_by (N := ["_law_size", "_law_pairs_here", "_law_found", "_law_one", "_law_two", "_law_number", "_law_row"]) (sc := defScope s__law_rows) (by decide +kernel)) (fun _ _ _ _ _ => ⟨_, (dg_name 5 nd), (gw_name (by decide))⟩) (fun _ _ _ _ _ => ⟨_, dts_nil⟩) (fun _ _ _ _ _ => ⟨_, (de_lstM da_nil)⟩))
      (db_cons (ds_for PassesOwn.never rfl (di_seq (de_var 1)) (dg_tup (n := 2) rfl (dgs_cons (dg_name 3 nd) (dgs_cons (dg_name 4 nd) dgs_nil))) (db_cons (ds_expr (de_append (de_ix hr (de_var 2) (de_var 3)) (da_cons (de_var 4) da_nil)))
      (db_one (ds_expr (de_append (de_ix hr (de_var 2) (de_var 4)) (da_cons (de_var 3) da_nil))))))
      (db_one (ds_ret (dx_lc (own := [("_law_row", 6)]) rfl nd (di_seq (de_var 2)) (blkOk_by (N := ["_law_size", "_law_pairs_here", "_law_found", "_law_one", "_law_two", "_law_number", "_law_row"]) (sc := defScope s__law_rows) (by decide +kernel)) (fun _ _ _ _ _ => ⟨_, (dg_name 6 nd), (gw_name (by decide))⟩) (fun _ _ _ _ _ => ⟨_, dts_nil⟩) (fun _ _ _ _ _ => ⟨_, (de_sortI B.sorted (da_cons (de_var 6) da_nil))⟩)))))), ?_⟩
  rintro ds M Q E ⟨n, ps, rfl, h0, hn, hz, h, q⟩
  simp only [dVar, dC, dOp, dTest, dII, dIC, dFld, dFldS, dMake, dProp, dLcM, toM, dppNil, dppCons, dMerge, dDisp, dCatL, dRep, dRepM, dExtend, dChain, dEq, dAnd, dOr, dNot, dIfE, dNext, dSeq, dDrop, dRet, dIfS, dNever, dFrz, hName, hNil, hCons, hTup, hSub, dAsg, dAug, dipI, dNil, dCons, dTup, dLst, dLstM, dIx, dSet, dCall, dwipe, dYes, jSeq, jRng1, jRng2, dCB, dLen, dList, dListM, dTuple, dAbs, dInt, dBM0, dBM, dAppend, dPop, dPopAt, dAndV, dNotV, dNeg, dIn, dNoPart, dPart, dSl, dSlM, dNewK, dIsi, dIsiT, dLc, dFor, dDc, dCallS, dRaise, dTry, dIsE, dSortD, dFrzE, jKeys, dIndexD, dEqS, dReprG, if_true, if_false, ite_true, ite_false, Bool.false_eq_true, reduceIte, Bool.not_true, Bool.not_false, List.getElem?_cons_zero, List.getElem?_cons_succ, List.set_cons_zero, List.set_cons_succ, List.map_cons, List.map_nil, List.replicate, List.cons_append, List.nil_append, List.length_cons, List.length_nil, dstart]
  refine ⟨by omega, by rw [rgD_len]; exact len_ok (by omega), lcI_fresh (fun d M Q h γ => h _) fun as M1 R ho hf => ?_⟩
  rw [rgD_len] at R
  have has : as.length = n.toNat := by rw [R.len]; simp
  refine dForI_of (fun i γ M' => ∃ o1 o2, γ = [some (.int n), some (.tup (ps.map prD)), some (.lst (as.map .ref)), o1, o2, none, none] ∧ RowsAt M' as ((List.range n.toNat).map fun (j : Nat) => (nbr (ps.take i) (j : Int)).map .int) ∧ ∀ p, p ∉ as → M' p = M p) ?_ ?_ ?_
  · refine ⟨none, none, rfl, ?_, ho⟩
    have e : (List.range n.toNat).map (fun (j : Nat) => (nbr (ps.take 0) (j : Int)).map D.int) = List.replicate n.toNat [] := by
      apply List.ext_getElem?
      intro j
      simp only [List.take_zero, nbr, List.flatMap_nil, List.map_nil, List.getElem?_map, List.getElem?_replicate]
      by_cases hj : j < n.toNat
      · rw [List.getElem?_range hj, if_pos hj]; rfl
      · rw [List.getElem?_eq_none (by simpa using hj), if_neg hj]; rfl
    rw [e]; exact R
  · rintro i d γ M2 hd ⟨o1, o2, rfl, R2, ho2⟩
    obtain ⟨⟨a, b⟩, hp, rfl⟩ := get_pr hd
    obtain ⟨k1, k2, k3⟩ := h.ok _ (List.mem_of_getElem? hp)
    simp only at k1 k2 k3
    have hi := (List.getElem?_eq_some_iff.mp hp).1
    have tl : (ps.take i).length ≤ ps.length := by rw [List.length_take]; omega
    obtain ⟨x, hx, mx, R3⟩ := R2.push (k := a.toNat) (d := .int b) (g := fun (j : Nat) => (nbr (ps.take i) (j : Int) ++ (if (j : Int) = a then [b] else [])).map .int) (by omega) (fun j => by
      by_cases e : j = a.toNat
      · have e2 : (j : Int) = a := by omega
        simp [e, e2, show ((a.toNat : Nat) : Int) = a by omega]
      · have e2 : ¬ (j : Int) = a := by omega
        simp [e, e2])
    simp only [dVar, dC, dOp, dTest, dII, dIC, dFld, dFldS, dMake, dProp, dLcM, toM, dppNil, dppCons, dMerge, dDisp, dCatL, dRep, dRepM, dExtend, dChain, dEq, dAnd, dOr, dNot, dIfE, dNext, dSeq, dDrop, dRet, dIfS, dNever, dFrz, hName, hNil, hCons, hTup, hSub, dAsg, dAug, dipI, dNil, dCons, dTup, dLst, dLstM, dIx, dSet, dCall, dwipe, dYes, jSeq, jRng1, jRng2, dCB, dLen, dList, dListM, dTuple, dAbs, dInt, dBM0, dBM, dAppend, dPop, dPopAt, dAndV, dNotV, dNeg, dIn, dNoPart, dPart, dSl, dSlM, dNewK, dIsi, dIsiT, dLc, dFor, dDc, dCallS, dRaise, dTry, dIsE, dSortD, dFrzE, jKeys, dIndexD, dEqS, dReprG, if_true, if_false, ite_true, ite_false, Bool.false_eq_true, reduceIte, Bool.not_true, Bool.not_false, List.getElem?_cons_zero, List.getElem?_cons_succ, List.set_cons_zero, List.set_cons_succ, List.map_cons, List.map_nil, List.replicate, List.cons_append, List.nil_append, List.length_cons, List.length_nil, dstart, prD]
    refine ⟨trivial, .ref x, ref_at (by omega) hx, by simp only [tyD, mx], ?_⟩
    simp only [mx]
    have l1 := nbr_len (ps.take i) (a.toNat : Nat)
    refine ⟨len_lt (by rw [List.length_map]; omega), ?_⟩
    obtain ⟨y, hy, my, R4⟩ := R3.push (k := b.toNat) (d := .int a) (g := fun (j : Nat) => (nbr (ps.take (i + 1)) (j : Int)).map .int) (by omega) (fun j => by
      rw [take_succ_of hp, nbr_snoc]
      by_cases e : j = b.toNat
      · have e2 : (j : Int) = b := by omega
        have e3 : ¬ (j : Int) = a := by omega
        have e4 : ¬ a = (j : Int) := by omega
        simp [e, show ((b.toNat : Nat) : Int) = b by omega, show ¬ b = a by omega, show ¬ a = b by omega]
      · have e2 : ¬ b = (j : Int) := by omega
        by_cases e3 : (j : Int) = a
        · simp [e, e3, show ¬ b = a by omega, show ¬ a.toNat = b.toNat by omega]
        · have e4 : ¬ a = (j : Int) := by omega
          simp [e, e2, e3, e4])
    refine ⟨.ref y, ref_at (by omega) hy, by simp only [tyD, my], ?_⟩
    simp only [my]
    have l2 := nbr_len (ps.take i) (b.toNat : Nat)
    have e5 : ¬ ((b.toNat : Nat) : Int) = a := by omega
    refine ⟨len_lt (by rw [List.length_map, if_neg e5, List.append_nil]; omega), _, _, rfl, R4, fun p hp' => ?_⟩
    rw [mset_ne fun z => hp' (by rw [z]; exact List.mem_of_getElem? hy), mset_ne fun z => hp' (by rw [z]; exact List.mem_of_getElem? hx)]
    exact ho2 p hp'
  · rintro γ M2 ⟨o1, o2, rfl, R2, ho2⟩
    rw [List.length_map, List.take_length] at R2
    simp only [dVar, dC, dOp, dTest, dII, dIC, dFld, dFldS, dMake, dProp, dLcM, toM, dppNil, dppCons, dMerge, dDisp, dCatL, dRep, dRepM, dExtend, dChain, dEq, dAnd, dOr, dNot, dIfE, dNext, dSeq, dDrop, dRet, dIfS, dNever, dFrz, hName, hNil, hCons, hTup, hSub, dAsg, dAug, dipI, dNil, dCons, dTup, dLst, dLstM, dIx, dSet, dCall, dwipe, dYes, jSeq, jRng1, jRng2, dCB, dLen, dList, dListM, dTuple, dAbs, dInt, dBM0, dBM, dAppend, dPop, dPopAt, dAndV, dNotV, dNeg, dIn, dNoPart, dPart, dSl, dSlM, dNewK, dIsi, dIsiT, dLc, dFor, dDc, dCallS, dRaise, dTry, dIsE, dSortD, dFrzE, jKeys, dIndexD, dEqS, dReprG, if_true, if_false, ite_true, ite_false, Bool.false_eq_true, reduceIte, Bool.not_true, Bool.not_false, List.getElem?_cons_zero, List.getElem?_cons_succ, List.set_cons_zero, List.set_cons_succ, List.map_cons, List.map_nil, List.replicate, List.cons_append, List.nil_append, List.length_cons, List.length_nil, dstart]
    refine ⟨by rw [List.length_map, has]; exact len_ok (by omega), dLcI_idx (fun k => .lst ((srt (nbr ps (k : Int))).map .int)) (fun k d hd Q2 q2 => ?_) ?_⟩
    · rw [List.getElem?_map] at hd
      obtain ⟨a, ha, rfl⟩ := Option.map_eq_some_iff.mp hd
      obtain ⟨r, hr1, hr2⟩ := R2.at' k a ha
      have hk : k < n.toNat := by rw [← has]; exact (List.getElem?_eq_some_iff.mp ha).1
      rw [List.getElem?_map, List.getElem?_range hk] at hr1
      cases hr1
      simp only [dVar, dC, dOp, dTest, dII, dIC, dFld, dFldS, dMake, dProp, dLcM, toM, dppNil, dppCons, dMerge, dDisp, dCatL, dRep, dRepM, dExtend, dChain, dEq, dAnd, dOr, dNot, dIfE, dNext, dSeq, dDrop, dRet, dIfS, dNever, dFrz, hName, hNil, hCons, hTup, hSub, dAsg, dAug, dipI, dNil, dCons, dTup, dLst, dLstM, dIx, dSet, dCall, dwipe, dYes, jSeq, jRng1, jRng2, dCB, dLen, dList, dListM, dTuple, dAbs, dInt, dBM0, dBM, dAppend, dPop, dPopAt, dAndV, dNotV, dNeg, dIn, dNoPart, dPart, dSl, dSlM, dNewK, dIsi, dIsiT, dLc, dFor, dDc, dCallS, dRaise, dTry, dIsE, dSortD, dFrzE, jKeys, dIndexD, dEqS, dReprG, if_true, if_false, ite_true, ite_false, Bool.false_eq_true, reduceIte, Bool.not_true, Bool.not_false, List.getElem?_cons_zero, List.getElem?_cons_succ, List.set_cons_zero, List.set_cons_succ, List.map_cons, List.map_nil, List.replicate, List.cons_append, List.nil_append, List.length_cons, List.length_nil, dstart]
      exact dSortI_srt _ (.inr ⟨a, rfl, hr2⟩) q2
    · have e : (List.range (as.map D.ref).length).map (fun (k : Nat) => D.lst ((srt (nbr ps (k : Int))).map .int)) = rowsL n ps := by
        rw [List.length_map, has, rowsL, rowsOf, List.map_map]; rfl
      rw [e]
      refine fin_less (M2 := M) (fun p o hp => ?_) q
      rw [ho2 p fun z => ?_]
      · exact hp
      · rw [hf p z] at hp; cases hp
theorem sc__law_log : FnScope ["_law_dice_here", "_law_many", "_law_ties", "_law_size", "_law_rows_here", "_law_here", "_law_found", "_law_turn", "_law_kind", "_law_there"] ["_law_dice_here", "_law_many", "_law_ties", "_law_size"] (defScope s__law_log) := ⟨rfl, rfl, rfl, by decide +kernel, rfl, by decide +kernel, by decide +kernel⟩
def sp__law_log : DSp := fun ds M Q _ => ∃ (p : Addr) (n z : Int) (ps : List (Int × Int)), ds = [.ref p, .int n, .tup (ps.map prD), .int z] ∧ DiL M p ∧ 1 ≤ n ∧ n ≤ 8 ∧ PrsOk n ps ∧ 0 ≤ z ∧ z ≤ 40 ∧ ∀ (es : List (Bool × Int)) l M2, DiL M2 p → Ext M M2 [p] → M l = none → M2 l = some (.lst (es.map entD)) → (es.length : Int) = z → (∀ e ∈ es, 0 ≤ e.2 ∧ e.2 < n) → Q (.ref l) M2
theorem c__law_log (F : DFun K mg "_law_log" s__law_log ["_law_dice_here", "_law_many", "_law_ties", "_law_size"]) (B : Bn mg) (G : Gs mg) (c__law_draw : DCal P w K mg base CX0 1 "_law_draw" sp__law_draw) (c__law_rows : DCal P w K mg base CX0 1 "_law_rows" sp__law_rows) : DCal P w K mg base CX0 2 "_law_log" sp__law_log := by
  refine dok F sc__law_log (fun ds M Q E h => (by obtain ⟨_, h⟩ := h; first | (obtain ⟨e, _⟩ := h; subst e; rfl) | (obtain ⟨_, e, _⟩ := h; subst e; rfl) | (obtain ⟨_, _, e, _⟩ := h; subst e; rfl) | (obtain ⟨_, _, _, e, _⟩ := h; subst e; rfl) | (obtain ⟨_, _, _, _, e, _⟩ := h; subst e; rfl) | (obtain ⟨_, _, _, _, _, e, _⟩ := h; subst e; rfl) | (obtain ⟨_, _, _, _, _, _, e, _⟩ := h; subst e; rfl) | (obtain ⟨_, _, _, _, _, _, _, e, _⟩ := h; subst e; rfl) | (obtain ⟨_, _, _, _, _, _, _, _, e, _⟩ := h; subst e; rfl) | (obtain ⟨_, _, _, _, _, _, _, _, _, e, _⟩ := h; subst e; rfl) | (obtain ⟨_, _, _, _, _, _, _, _, _, _, e, _⟩ := h; subst e; rfl) | (obtain ⟨_, _, _, _, _, _, _, _, _, _, _, e, _⟩ := h; subst e; rfl) | (obtain ⟨_, _, _, _, _, _, _, _, _, _, _, _, e, _⟩ := h; subst e; rfl) | (obtain ⟨_, _, _, _, _, _, _, _, _, _, _, _, _, e, _⟩ := h; subst e; rfl) | (obtain ⟨_, _, _, _, _, _, _, _, _, _, _, _, _, _, e, _⟩ := h; subst e; rfl) | (obtain ⟨_, _, _, _, _, _, _, _, _, _, _, _, _, _, _, e, _⟩ := h; subst e; rfl) | (obtain ⟨_, _, _, _, _, _, _, _, _, _, _, _, _, _, _, _, e, _⟩ := h; subst e; rfl) | (obtain ⟨_, _, _, _, _, _, _, _, _, _, _, _, _, _, _, _, _, e, _⟩ := h; subst e; rfl) | (obtain ⟨_, _, _, _, _, _, _, _, _, _, _, _, _, _, _, _, _, _, e, _⟩ := h; subst e; rfl) | (obtain ⟨_, _, _, _, _, _, _, _, _, _, _, _, _, _, _, _, _, _, _, e, _⟩ := h; subst e; rfl) | (obtain ⟨_, _, _, _, _, _, _, _, _, _, _, _, _, _, _, _, _, _, _, _, e, _⟩ := h; subst e; rfl) | (obtain ⟨_, _, _, _, _, _, _, _, _, _, _, _, _, _, _, _, _, _, _, _, _, e, _⟩ := h; subst e; rfl) | (obtain ⟨_, _, _, _, _, _, _, _, _, _, _, _, _, _, _, _, _, _, _, _, _, _, e, _⟩ := h; subst e; rfl) | (obtain ⟨_, _, _, _, _, _, _, _, _, _, _, _, _, _, _, _, _, _, _, _, _, _, _, e, _⟩ := h; subst e; rfl) | (obtain ⟨_, _, _, _, _, _, _, _, _, _, _, _, _, _, _, _, _, _, _, _, _, _, _, _, e, _⟩ := h; subst e; rfl) | (obtain ⟨_, _, _, _, _, _, _, _, _, _, _, _, _, _, _, _, _, _, _, _, _, _, _, _, _, e, _⟩ := h; subst e; rfl))) (fun f cdv A outer s H E F0 hr => ?_)
  have nd := (sc__law_log).nd
  refine ⟨_, _, (db_cons (ds_set 4 nd (de_call c__law_rows hr (goes0A (E := DXK.no)) (da_cons (de_var 1) (da_cons (de_var 2) da_nil))))
      (db_cons (ds_set 5 nd (de_call c__law_draw hr (goes0A (E := DXK.no)) (da_cons (de_var 0) (da_cons (de_var 1) da_nil))))
      (db_cons (ds_set 6 nd (de_lstM da_nil))
      (db_cons (ds_for PassesOwn.never rfl (di_range1 B.range (da_cons (de_var 3) da_nil)) (dg_name 7 nd) (db_cons (ds_set 8 nd (de_call c__law_draw hr (goes0A (E := DXK.no)) (da_cons (de_var 0) (da_cons de_int da_nil))))
      (db_one (ds_if (dt_eq hr (de_var 8) de_int) (db_one (ds_expr (de_append (de_var 6) (da_cons (de_tup (da_cons (de_ix hr (de_lst (da_cons de_str (da_cons de_str da_nil))) (de_call c__law_draw hr (goes0A (E := DXK.no)) (da_cons (de_var 0) (da_cons de_int da_nil)))) (da_cons (de_call c__law_draw hr (goes0A (E := DXK.no)) (da_cons (de_var 0) (da_cons (de_var 1) da_nil))) da_nil))) da_nil)))) (db_one (ds_if (DW.dt (dw_or (dt_lt (de_var 8) de_int) (dw_or1 (dt_eq hr (de_len B.len (da_cons (de_ix hr (de_var 4) (de_var 5)) da_nil)) de_int)))) (db_one (ds_expr (de_append (de_var 6) (da_cons (de_tup (da_cons de_str (da_cons (de_var 5) da_nil))) da_nil)))) (db_cons (ds_set 9 nd (de_ix hr (de_ix hr (de_var 4) (de_var 5)) (de_call c__law_draw hr (goes0A (E := DXK.no)) (da_cons (de_var 0) (da_cons (de_len B.len (da_cons (de_ix hr (de_var 4) (de_var 5)) da_nil)) da_nil)))))
      (db_cons (ds_expr (de_append (de_var 6) (da_cons (de_tup (da_cons de_str (da_cons (de_var 9) da_nil))) da_nil)))
      (db_one (ds_set 5 nd (de_ix hr (de_lst (da_cons (de_var 5) (da_cons (de_var 9) da_nil))) (de_call c__law_draw hr (goes0A (E := DXK.no)) (da_cons (de_var 0) (da_cons de_int da_nil))))))))))))))
      (db_one (ds_ret (de_var 6))))))), ?_⟩
  rintro ds M Q E ⟨p, n, z, ps, rfl, hp, n1, n8, okp, z0, z1, q⟩
  have l28 := okp.len28 n8
  refine dSeq_then (fun γ' M' => γ' = [some (.ref p), some (.int n), some (.tup (ps.map prD)), some (.int z), some (.lst (rowsL n ps)), none, none, none, none, none] ∧ M' = M) (fun nx hn => ?_) (fun γ1 M1 h => ?_)
  · simp only [dVar, dC, dOp, dTest, dII, dIC, dFld, dFldS, dMake, dProp, dLcM, toM, dppNil, dppCons, dMerge, dDisp, dCatL, dRep, dRepM, dExtend, dChain, dEq, dAnd, dOr, dNot, dIfE, dNext, dSeq, dDrop, dRet, dIfS, dNever, dFrz, hName, hNil, hCons, hTup, hSub, dAsg, dAug, dipI, dNil, dCons, dTup, dLst, dLstM, dIx, dSet, dCall, dwipe, dYes, jSeq, jRng1, jRng2, dCB, dLen, dList, dListM, dTuple, dAbs, dInt, dBM0, dBM, dAppend, dPop, dPopAt, dAndV, dNotV, dNeg, dIn, dNoPart, dPart, dSl, dSlM, dNewK, dIsi, dIsiT, dLc, dFor, dDc, dCallS, dRaise, dTry, dIsE, dSortD, dFrzE, jKeys, dIndexD, dEqS, dReprG, if_true, if_false, ite_true, ite_false, Bool.false_eq_true, reduceIte, Bool.not_true, Bool.not_false, List.getElem?_cons_zero, List.getElem?_cons_succ, List.set_cons_zero, List.set_cons_succ, List.map_cons, List.map_nil, List.replicate, List.cons_append, List.nil_append, List.length_cons, List.length_nil, dstart]
    exact ⟨n, ps, rfl, by omega, by omega, by omega, okp, hn _ _ ⟨rfl, rfl⟩⟩
  obtain ⟨rfl, rfl⟩ := h
  refine dSeq_then (fun γ' M' => ∃ h : Int, γ' = [some (.ref p), some (.int n), some (.tup (ps.map prD)), some (.int z), some (.lst (rowsL n ps)), some (.int h), none, none, none, none] ∧ 0 ≤ h ∧ h < n ∧ DiL M' p ∧ Agree M1 M' [p]) (fun nx hn => ?_) (fun γ2 M2 h => ?_)
  · simp only [dVar, dC, dOp, dTest, dII, dIC, dFld, dFldS, dMake, dProp, dLcM, toM, dppNil, dppCons, dMerge, dDisp, dCatL, dRep, dRepM, dExtend, dChain, dEq, dAnd, dOr, dNot, dIfE, dNext, dSeq, dDrop, dRet, dIfS, dNever, dFrz, hName, hNil, hCons, hTup, hSub, dAsg, dAug, dipI, dNil, dCons, dTup, dLst, dLstM, dIx, dSet, dCall, dwipe, dYes, jSeq, jRng1, jRng2, dCB, dLen, dList, dListM, dTuple, dAbs, dInt, dBM0, dBM, dAppend, dPop, dPopAt, dAndV, dNotV, dNeg, dIn, dNoPart, dPart, dSl, dSlM, dNewK, dIsi, dIsiT, dLc, dFor, dDc, dCallS, dRaise, dTry, dIsE, dSortD, dFrzE, jKeys, dIndexD, dEqS, dReprG, if_true, if_false, ite_true, ite_false, Bool.false_eq_true, reduceIte, Bool.not_true, Bool.not_false, List.getElem?_cons_zero, List.getElem?_cons_succ, List.set_cons_zero, List.set_cons_succ, List.map_cons, List.map_nil, List.replicate, List.cons_append, List.nil_append, List.length_cons, List.length_nil, dstart]
    exact ⟨p, n, rfl, hp, n1, by omega, fun r M2 r0 r1 d2 a2 => hn _ _ ⟨r, rfl, r0, r1, d2, a2⟩⟩
  obtain ⟨h, rfl, h0, h1, d2, a2⟩ := h
  refine dSeq_then (fun γ' M' => ∃ l, γ' = [some (.ref p), some (.int n), some (.tup (ps.map prD)), some (.int z), some (.lst (rowsL n ps)), some (.int h), some (.ref l), none, none, none] ∧ M1 l = none ∧ l ≠ p ∧ M' l = some (.lst []) ∧ DiL M' p ∧ Ext M1 M' [p]) (fun nx hn => ?_) (fun γ3 M3 hh => ?_)
  · simp only [dVar, dC, dOp, dTest, dII, dIC, dFld, dFldS, dMake, dProp, dLcM, toM, dppNil, dppCons, dMerge, dDisp, dCatL, dRep, dRepM, dExtend, dChain, dEq, dAnd, dOr, dNot, dIfE, dNext, dSeq, dDrop, dRet, dIfS, dNever, dFrz, hName, hNil, hCons, hTup, hSub, dAsg, dAug, dipI, dNil, dCons, dTup, dLst, dLstM, dIx, dSet, dCall, dwipe, dYes, jSeq, jRng1, jRng2, dCB, dLen, dList, dListM, dTuple, dAbs, dInt, dBM0, dBM, dAppend, dPop, dPopAt, dAndV, dNotV, dNeg, dIn, dNoPart, dPart, dSl, dSlM, dNewK, dIsi, dIsiT, dLc, dFor, dDc, dCallS, dRaise, dTry, dIsE, dSortD, dFrzE, jKeys, dIndexD, dEqS, dReprG, if_true, if_false, ite_true, ite_false, Bool.false_eq_true, reduceIte, Bool.not_true, Bool.not_false, List.getElem?_cons_zero, List.getElem?_cons_succ, List.set_cons_zero, List.set_cons_succ, List.map_cons, List.map_nil, List.replicate, List.cons_append, List.nil_append, List.length_cons, List.length_nil, dstart]
    refine ⟨by decide, fun l hl => ?_⟩
    have hl0 := a2.ext.fresh (by simpa using d2.some hl) hl
    exact hn _ _ ⟨l, rfl, hl0, d2.some hl, mset_same, d2.mset (d2.some hl), a2.ext.mset hl0⟩
  obtain ⟨l, rfl, hl, nlp, hl3, d3, e3⟩ := hh
  refine dSeq_then (fun γ' M' => ∃ (o7 o8 o9 : Option D) (h : Int) (es : List (Bool × Int)), γ' = [some (.ref p), some (.int n), some (.tup (ps.map prD)), some (.int z), some (.lst (rowsL n ps)), some (.int h), some (.ref l), o7, o8, o9] ∧ M' l = some (.lst (es.map entD)) ∧ DiL M' p ∧ Ext M1 M' [p] ∧ (es.length : Int) = z ∧ ∀ e ∈ es, 0 ≤ e.2 ∧ e.2 < n) (fun nx hn => ?_) (fun γ4 M4 hh => ?_)
  · simp only [dFor, jRng1, dCons, dNil, dVar, hName, if_true, if_false, ite_true, ite_false, Bool.false_eq_true, reduceIte, Bool.not_true, Bool.not_false, List.getElem?_cons_zero, List.getElem?_cons_succ, List.set_cons_zero, List.set_cons_succ, List.map_cons, List.map_nil, List.replicate, List.cons_append, List.nil_append, List.length_cons, List.length_nil, dstart]
    refine ⟨by omega, dForI_of (fun k γ M' => ∃ (o7 o8 o9 : Option D) (h : Int) (es : List (Bool × Int)), γ = [some (.ref p), some (.int n), some (.tup (ps.map prD)), some (.int z), some (.lst (rowsL n ps)), some (.int h), some (.ref l), o7, o8, o9] ∧ 0 ≤ h ∧ h < n ∧ M' l = some (.lst (es.map entD)) ∧ DiL M' p ∧ Ext M1 M' [p] ∧ es.length = k ∧ ∀ e ∈ es, 0 ≤ e.2 ∧ e.2 < n) ⟨none, none, none, h, [], rfl, h0, h1, hl3, d3, e3, rfl, fun _ h => (by cases h)⟩ ?_ ?_⟩
    · clear h0 h1 h d2 a2 hl3 d3 e3
      rintro k e γ M' he ⟨o7, o8, o9, h, es, rfl, h0, h1, hl3, d3, e3, ek, er⟩
      obtain ⟨hk, rfl⟩ := rgD_get he
      have put : ∀ (M2 : Mp) (en : Bool × Int), M2 l = some (.lst (es.map entD)) → 0 ≤ en.2 → en.2 < n → DiL M2 p → Ext M1 M2 [p] → (mset M2 l (.lst (es.map entD ++ [entD en]))) l = some (.lst ((es ++ [en]).map entD)) ∧ DiL (mset M2 l (.lst (es.map entD ++ [entD en]))) p ∧ Ext M1 (mset M2 l (.lst (es.map entD ++ [entD en]))) [p] ∧ (es ++ [en]).length = k + 1 ∧ ∀ e ∈ es ++ [en], 0 ≤ e.2 ∧ e.2 < n := fun M2 en hm e0 e1 d e => by
        refine ⟨by rw [mset_same, List.map_append]; rfl, d.mset nlp, e.mset hl, by simp [ek], fun x hx => ?_⟩
        rcases List.mem_append.mp hx with z | z
        · exact er x z
        · rw [List.mem_singleton.mp z]; exact ⟨e0, e1⟩
      have lz : (es.map entD).length < sizeLine := len_lt (by rw [List.length_map]; omega)
      refine dSeq_then (fun γ' M2 => ∃ kd : Int, γ' = [some (.ref p), some (.int n), some (.tup (ps.map prD)), some (.int z), some (.lst (rowsL n ps)), some (.int h), some (.ref l), some (.int (0 + (k : Int))), some (.int kd), o9] ∧ DiL M2 p ∧ Ext M1 M2 [p] ∧ M2 l = some (.lst (es.map entD))) (fun nx hn => ?_) (fun γ5 M5 hh => ?_)
      · simp only [dVar, dC, dOp, dTest, dII, dIC, dFld, dFldS, dMake, dProp, dLcM, toM, dppNil, dppCons, dMerge, dDisp, dCatL, dRep, dRepM, dExtend, dChain, dEq, dAnd, dOr, dNot, dIfE, dNext, dSeq, dDrop, dRet, dIfS, dNever, dFrz, hName, hNil, hCons, hTup, hSub, dAsg, dAug, dipI, dNil, dCons, dTup, dLst, dLstM, dIx, dSet, dCall, dwipe, dYes, jSeq, jRng1, jRng2, dCB, dLen, dList, dListM, dTuple, dAbs, dInt, dBM0, dBM, dAppend, dPop, dPopAt, dAndV, dNotV, dNeg, dIn, dNoPart, dPart, dSl, dSlM, dNewK, dIsi, dIsiT, dLc, dFor, dDc, dCallS, dRaise, dTry, dIsE, dSortD, dFrzE, jKeys, dIndexD, dEqS, dReprG, if_true, if_false, ite_true, ite_false, Bool.false_eq_true, reduceIte, Bool.not_true, Bool.not_false, List.getElem?_cons_zero, List.getElem?_cons_succ, List.set_cons_zero, List.set_cons_succ, List.map_cons, List.map_nil, List.replicate, List.cons_append, List.nil_append, List.length_cons, List.length_nil, dstart]
        exact ⟨p, 12, rfl, d3, by decide, by decide, fun r M2 r0 r1 d2 a2 => hn _ _ ⟨r, rfl, d2, e3.trans a2.ext, (a2 l (by simpa using nlp)).trans hl3⟩⟩
      clear d3 e3 hl3
      obtain ⟨kd, rfl, d3, e3, hl3⟩ := hh
      have rg : dIxV M5 (.lst (rowsL n ps)) (.int h) = some (.lst ((srt (nbr ps h)).map .int)) := rowsL_get h0 h1
      simp only [dVar, dC, dOp, dTest, dII, dIC, dFld, dFldS, dMake, dProp, dLcM, toM, dppNil, dppCons, dMerge, dDisp, dCatL, dRep, dRepM, dExtend, dChain, dEq, dAnd, dOr, dNot, dIfE, dNext, dSeq, dDrop, dRet, dIfS, dNever, dFrz, hName, hNil, hCons, hTup, hSub, dAsg, dAug, dipI, dNil, dCons, dTup, dLst, dLstM, dIx, dSet, dCall, dwipe, dYes, jSeq, jRng1, jRng2, dCB, dLen, dList, dListM, dTuple, dAbs, dInt, dBM0, dBM, dAppend, dPop, dPopAt, dAndV, dNotV, dNeg, dIn, dNoPart, dPart, dSl, dSlM, dNewK, dIsi, dIsiT, dLc, dFor, dDc, dCallS, dRaise, dTry, dIsE, dSortD, dFrzE, jKeys, dIndexD, dEqS, dReprG, if_true, if_false, ite_true, ite_false, Bool.false_eq_true, reduceIte, Bool.not_true, Bool.not_false, List.getElem?_cons_zero, List.getElem?_cons_succ, List.set_cons_zero, List.set_cons_succ, List.map_cons, List.map_nil, List.replicate, List.cons_append, List.nil_append, List.length_cons, List.length_nil, dstart]
      have ne_ : l ∉ [p] := by simpa using nlp
      refine ⟨rfl, rfl, ?_⟩
      rw [D.eq_int]
      by_cases k0 : kd = 0
      · rw [beq_iff_eq.mpr k0]
        simp only [tyD, hl3, if_true, if_false, ite_true, ite_false, Bool.false_eq_true, reduceIte, Bool.not_true, Bool.not_false, List.getElem?_cons_zero, List.getElem?_cons_succ, List.set_cons_zero, List.set_cons_succ, List.map_cons, List.map_nil, List.replicate, List.cons_append, List.nil_append, List.length_cons, List.length_nil, dstart]
        refine ⟨trivial, by decide, p, 2, rfl, d3, by decide, by decide, fun r M2 r0 r1 d2 a2 => ?_⟩
        obtain ⟨w, ew⟩ : ∃ w : Bool, ∀ M', dIxV M' (.lst [.str "order", .str "read"]) (.int r) = some (.str (if w = true then "order" else "read")) := by
          rcases (by omega : r = 0 ∨ r = 1) with rfl | rfl
          · exact ⟨true, fun _ => ixL_at (k := 0) (by decide) rfl⟩
          · exact ⟨false, fun _ => ixL_at (k := 1) (by decide) rfl⟩
        refine ⟨_, ew _, p, n, rfl, d2, n1, by omega, fun c M3 c0 c1 d4 a4 => ⟨by decide, ?_⟩⟩
        have hl6 : M3 l = some (.lst (es.map entD)) := (a4 l ne_).trans ((a2 l ne_).trans hl3)
        simp only [hl6]
        obtain ⟨p1, p2, p3, p4, p5⟩ := put M3 (w, c) hl6 c0 c1 d4 ((e3.trans a2.ext).trans a4.ext)
        exact ⟨lz, _, _, _, h, es ++ [(w, c)], rfl, h0, h1, p1, p2, p3, p4, p5⟩
      rw [beq_eq_false_iff_ne.mpr k0]
      simp only [if_true, if_false, ite_true, ite_false, Bool.false_eq_true, reduceIte, Bool.not_true, Bool.not_false, List.getElem?_cons_zero, List.getElem?_cons_succ, List.set_cons_zero, List.set_cons_succ, List.map_cons, List.map_nil, List.replicate, List.cons_append, List.nil_append, List.length_cons, List.length_nil, dstart]
      by_cases k4 : kd < 4
      · simp only [decide_eq_true k4, if_true, if_false, ite_true, ite_false, Bool.false_eq_true, reduceIte, Bool.not_true, Bool.not_false, List.getElem?_cons_zero, List.getElem?_cons_succ, List.set_cons_zero, List.set_cons_succ, List.map_cons, List.map_nil, List.replicate, List.cons_append, List.nil_append, List.length_cons, List.length_nil, dstart]
        simp only [tyD, hl3]
        obtain ⟨p1, p2, p3, p4, p5⟩ := put M5 (false, h) hl3 h0 h1 d3 e3
        exact ⟨trivial, by decide, lz, _, _, _, h, es ++ [(false, h)], rfl, h0, h1, p1, p2, p3, p4, p5⟩
      simp only [decide_eq_false k4, if_true, if_false, ite_true, ite_false, Bool.false_eq_true, reduceIte, Bool.not_true, Bool.not_false, List.getElem?_cons_zero, List.getElem?_cons_succ, List.set_cons_zero, List.set_cons_succ, List.map_cons, List.map_nil, List.replicate, List.cons_append, List.nil_append, List.length_cons, List.length_nil, dstart]
      refine ⟨_, rg, (srt (nbr ps h)).length, by simp only [lenV, List.length_map], rfl, rfl, ?_⟩
      rw [D.eq_int]
      by_cases r0 : (srt (nbr ps h)).length = 0
      · rw [beq_iff_eq.mpr (by omega)]
        simp only [if_true, if_false, ite_true, ite_false, Bool.false_eq_true, reduceIte, Bool.not_true, Bool.not_false, List.getElem?_cons_zero, List.getElem?_cons_succ, List.set_cons_zero, List.set_cons_succ, List.map_cons, List.map_nil, List.replicate, List.cons_append, List.nil_append, List.length_cons, List.length_nil, dstart]
        simp only [tyD, hl3]
        obtain ⟨p1, p2, p3, p4, p5⟩ := put M5 (false, h) hl3 h0 h1 d3 e3
        exact ⟨trivial, by decide, lz, _, _, _, h, es ++ [(false, h)], rfl, h0, h1, p1, p2, p3, p4, p5⟩
      rw [beq_eq_false_iff_ne.mpr (by omega)]
      simp only [if_true, if_false, ite_true, ite_false, Bool.false_eq_true, reduceIte, Bool.not_true, Bool.not_false, List.getElem?_cons_zero, List.getElem?_cons_succ, List.set_cons_zero, List.set_cons_succ, List.map_cons, List.map_nil, List.replicate, List.cons_append, List.nil_append, List.length_cons, List.length_nil, dstart]
      have sl : (srt (nbr ps h)).length ≤ 56 := by rw [srt_length]; have := nbr_len ps h; omega
      refine ⟨_, rg, _, rg, (srt (nbr ps h)).length, by simp only [lenV, List.length_map], p, _, rfl, d3, by omega, by omega, fun r M2 r1 r2 d2 a2 => ?_⟩
      have hr : r.toNat < (srt (nbr ps h)).length := by omega
      have e1 : (srt (nbr ps h))[r.toNat]? = some (srt (nbr ps h))[r.toNat] := List.getElem?_eq_getElem hr
      generalize (srt (nbr ps h))[r.toNat] = t at e1
      have tr := nbr_ok okp (srt_mem.mp (List.mem_of_getElem? e1))
      have hl6 : M2 l = some (.lst (es.map entD)) := (a2 l ne_).trans hl3
      refine ⟨.int t, ixL_at (k := r.toNat) (by omega) (by rw [List.getElem?_map, e1]; rfl), ?_⟩
      simp only [tyD, hl6]
      obtain ⟨p1, p2, p3, p4, p5⟩ := put M2 (true, t) hl6 tr.1 tr.2 d2 (e3.trans a2.ext)
      refine ⟨trivial, by decide, lz, by decide, p, 2, rfl, p2, by decide, by decide, fun r M3 r3 r4 d4 a4 => ?_⟩
      obtain ⟨g, eg, g0, g1⟩ : ∃ g : Int, (∀ M', dIxV M' (.lst [.int h, .int t]) (.int r) = some (.int g)) ∧ 0 ≤ g ∧ g < n := by
        rcases (by omega : r = 0 ∨ r = 1) with rfl | rfl
        · exact ⟨h, fun _ => ixL_at (k := 0) (by decide) rfl, h0, h1⟩
        · exact ⟨t, fun _ => ixL_at (k := 1) (by decide) rfl, tr.1, tr.2⟩
      exact ⟨_, eg _, _, _, _, g, es ++ [(true, t)], rfl, g0, g1, (a4 l ne_).trans p1, d4, p3.trans a4.ext, p4, p5⟩
    · rintro γ M' ⟨o7, o8, o9, h, es, rfl, h0, h1, hl3, d3, e3, ek, er⟩
      rw [rgD_len] at ek
      exact hn _ _ ⟨o7, o8, o9, h, es, rfl, hl3, d3, e3, by omega, er⟩
  obtain ⟨o7, o8, o9, h, es, rfl, hl4, d4, e4, el, er⟩ := hh
  simp only [dVar, dC, dOp, dTest, dII, dIC, dFld, dFldS, dMake, dProp, dLcM, toM, dppNil, dppCons, dMerge, dDisp, dCatL, dRep, dRepM, dExtend, dChain, dEq, dAnd, dOr, dNot, dIfE, dNext, dSeq, dDrop, dRet, dIfS, dNever, dFrz, hName, hNil, hCons, hTup, hSub, dAsg, dAug, dipI, dNil, dCons, dTup, dLst, dLstM, dIx, dSet, dCall, dwipe, dYes, jSeq, jRng1, jRng2, dCB, dLen, dList, dListM, dTuple, dAbs, dInt, dBM0, dBM, dAppend, dPop, dPopAt, dAndV, dNotV, dNeg, dIn, dNoPart, dPart, dSl, dSlM, dNewK, dIsi, dIsiT, dLc, dFor, dDc, dCallS, dRaise, dTry, dIsE, dSortD, dFrzE, jKeys, dIndexD, dEqS, dReprG, if_true, if_false, ite_true, ite_false, Bool.false_eq_true, reduceIte, Bool.not_true, Bool.not_false, List.getElem?_cons_zero, List.getElem?_cons_succ, List.set_cons_zero, List.set_cons_succ, List.map_cons, List.map_nil, List.replicate, List.cons_append, List.nil_append, List.length_cons, List.length_nil, dstart]
  exact fin_self (q es l M4 d4 e4 hl hl4 el er)
theorem sc_is_integer : FnScope ["thing"] ["thing"] (defScope s_is_integer) := ⟨rfl, rfl, rfl, by decide +kernel, rfl, by decide +kernel, by decide +kernel⟩
def sp_is_integer : DSp := fun ds M Q _ => ∃ d, ds = [d] ∧ (tyN M d).isSome = true ∧ Q (.bl d.isInt) M
theorem c_is_integer (F : DFun K mg "is_integer" s_is_integer ["thing"]) (B : Bn mg) (G : Gs mg)  : DCal P w K mg base CX0 1 "is_integer" sp_is_integer := by
  refine dok F sc_is_integer (fun ds M Q E h => (by obtain ⟨_, h⟩ := h; first | (obtain ⟨e, _⟩ := h; subst e; rfl) | (obtain ⟨_, e, _⟩ := h; subst e; rfl) | (obtain ⟨_, _, e, _⟩ := h; subst e; rfl) | (obtain ⟨_, _, _, e, _⟩ := h; subst e; rfl) | (obtain ⟨_, _, _, _, e, _⟩ := h; subst e; rfl) | (obtain ⟨_, _, _, _, _, e, _⟩ := h; subst e; rfl) | (obtain ⟨_, _, _, _, _, _, e, _⟩ := h; subst e; rfl) | (obtain ⟨_, _, _, _, _, _, _, e, _⟩ := h; subst e; rfl) | (obtain ⟨_, _, _, _, _, _, _, _, e, _⟩ := h; subst e; rfl) | (obtain ⟨_, _, _, _, _, _, _, _, _, e, _⟩ := h; subst e; rfl) | (obtain ⟨_, _, _, _, _, _, _, _, _, _, e, _⟩ := h; subst e; rfl) | (obtain ⟨_, _, _, _, _, _, _, _, _, _, _, e, _⟩ := h; subst e; rfl) | (obtain ⟨_, _, _, _, _, _, _, _, _, _, _, _, e, _⟩ := h; subst e; rfl) | (obtain ⟨_, _, _, _, _, _, _, _, _, _, _, _, _, e, _⟩ := h; subst e; rfl) | (obtain ⟨_, _, _, _, _, _, _, _, _, _, _, _, _, _, e, _⟩ := h; subst e; rfl) | (obtain ⟨_, _, _, _, _, _, _, _, _, _, _, _, _, _, _, e, _⟩ := h; subst e; rfl) | (obtain ⟨_, _, _, _, _, _, _, _, _, _, _, _, _, _, _, _, e, _⟩ := h; subst e; rfl) | (obtain ⟨_, _, _, _, _, _, _, _, _, _, _, _, _, _, _, _, _, e, _⟩ := h; subst e; rfl) | (obtain ⟨_, _, _, _, _, _, _, _, _, _, _, _, _, _, _, _, _, _, e, _⟩ := h; subst e; rfl) | (obtain ⟨_, _, _, _, _, _, _, _, _, _, _, _, _, _, _, _, _, _, _, e, _⟩ := h; subst e; rfl) | (obtain ⟨_, _, _, _, _, _, _, _, _, _, _, _, _, _, _, _, _, _, _, _, e, _⟩ := h; subst e; rfl) | (obtain ⟨_, _, _, _, _, _, _, _, _, _, _, _, _, _, _, _, _, _, _, _, _, e, _⟩ := h; subst e; rfl) | (obtain ⟨_, _, _, _, _, _, _, _, _, _, _, _, _, _, _, _, _, _, _, _, _, _, e, _⟩ := h; subst e; rfl) | (obtain ⟨_, _, _, _, _, _, _, _, _, _, _, _, _, _, _, _, _, _, _, _, _, _, _, e, _⟩ := h; subst e; rfl) | (obtain ⟨_, _, _, _, _, _, _, _, _, _, _, _, _, _, _, _, _, _, _, _, _, _, _, _, e, _⟩ := h; subst e; rfl) | (obtain ⟨_, _, _, _, _, _, _, _, _, _, _, _, _, _, _, _, _, _, _, _, _, _, _, _, _, e, _⟩ := h; subst e; rfl))) (fun f cdv A outer s H E F0 hr => ?_)
  have nd := (sc_is_integer).nd
  refine ⟨_, _, (db_one (ds_ret (de_and (de_isi B.isinstance (da_cons (de_var 0) (da_cons (de_ty (n := "int") B.int) da_nil))) (de_one (de_not (de_isi B.isinstance (da_cons (de_var 0) (da_cons (de_ty (n := "bool") B.bool) da_nil)))))))), ?_⟩
  rintro ds M Q E ⟨d, rfl, h, q⟩
  simp only [dVar, dC, dOp, dTest, dII, dIC, dFld, dFldS, dMake, dProp, dLcM, toM, dppNil, dppCons, dMerge, dDisp, dCatL, dRep, dRepM, dExtend, dChain, dEq, dAnd, dOr, dNot, dIfE, dNext, dSeq, dDrop, dRet, dIfS, dNever, dFrz, hName, hNil, hCons, hTup, hSub, dAsg, dAug, dipI, dNil, dCons, dTup, dLst, dLstM, dIx, dSet, dCall, dwipe, dYes, jSeq, jRng1, jRng2, dCB, dLen, dList, dListM, dTuple, dAbs, dInt, dBM0, dBM, dAppend, dPop, dPopAt, dAndV, dNotV, dNeg, dIn, dNoPart, dPart, dSl, dSlM, dNewK, dIsi, dIsiT, dLc, dFor, dDc, dCallS, dRaise, dTry, dIsE, dSortD, dFrzE, jKeys, dIndexD, dEqS, dReprG, if_true, if_false, ite_true, ite_false, Bool.false_eq_true, reduceIte, Bool.not_true, Bool.not_false, List.getElem?_cons_zero, List.getElem?_cons_succ, List.set_cons_zero, List.set_cons_succ, List.map_cons, List.map_nil, List.replicate, List.cons_append, List.nil_append, List.length_cons, List.length_nil, dstart]
  obtain ⟨T, hT⟩ := Option.isSome_iff_exists.mp h
  obtain ⟨e1, e2⟩ := ty_int hT
  refine ⟨by decide +kernel, T, hT, ?_⟩
  rw [e1]
  cases d <;> first
    | exact ⟨by decide +kernel, T, hT, by rw [e2]; exact fin_self q⟩
    | exact fin_self q
theorem sc_is_within : FnScope ["thing", "least", "most"] ["thing", "least", "most"] (defScope s_is_within) := ⟨rfl, rfl, rfl, by decide +kernel, rfl, by decide +kernel, by decide +kernel⟩
def sp_is_within : DSp := fun ds M Q _ => ∃ d a b, ds = [d, .int a, .int b] ∧ (tyN M d).isSome = true ∧ Q (.bl (d.within a b)) M
theorem c_is_within (F : DFun K mg "is_within" s_is_within ["thing", "least", "most"]) (B : Bn mg) (G : Gs mg) (c_is_integer : DCal P w K mg base CX0 1 "is_integer" sp_is_integer) : DCal P w K mg base CX0 2 "is_within" sp_is_within := by
  refine dok F sc_is_within (fun ds M Q E h => (by obtain ⟨_, h⟩ := h; first | (obtain ⟨e, _⟩ := h; subst e; rfl) | (obtain ⟨_, e, _⟩ := h; subst e; rfl) | (obtain ⟨_, _, e, _⟩ := h; subst e; rfl) | (obtain ⟨_, _, _, e, _⟩ := h; subst e; rfl) | (obtain ⟨_, _, _, _, e, _⟩ := h; subst e; rfl) | (obtain ⟨_, _, _, _, _, e, _⟩ := h; subst e; rfl) | (obtain ⟨_, _, _, _, _, _, e, _⟩ := h; subst e; rfl) | (obtain ⟨_, _, _, _, _, _, _, e, _⟩ := h; subst e; rfl) | (obtain ⟨_, _, _, _, _, _, _, _, e, _⟩ := h; subst e; rfl) | (obtain ⟨_, _, _, _, _, _, _, _, _, e, _⟩ := h; subst e; rfl) | (obtain ⟨_, _, _, _, _, _, _, _, _, _, e, _⟩ := h; subst e; rfl) | (obtain ⟨_, _, _, _, _, _, _, _, _, _, _, e, _⟩ := h; subst e; rfl) | (obtain ⟨_, _, _, _, _, _, _, _, _, _, _, _, e, _⟩ := h; subst e; rfl) | (obtain ⟨_, _, _, _, _, _, _, _, _, _, _, _, _, e, _⟩ := h; subst e; rfl) | (obtain ⟨_, _, _, _, _, _, _, _, _, _, _, _, _, _, e, _⟩ := h; subst e; rfl) | (obtain ⟨_, _, _, _, _, _, _, _, _, _, _, _, _, _, _, e, _⟩ := h; subst e; rfl) | (obtain ⟨_, _, _, _, _, _, _, _, _, _, _, _, _, _, _, _, e, _⟩ := h; subst e; rfl) | (obtain ⟨_, _, _, _, _, _, _, _, _, _, _, _, _, _, _, _, _, e, _⟩ := h; subst e; rfl) | (obtain ⟨_, _, _, _, _, _, _, _, _, _, _, _, _, _, _, _, _, _, e, _⟩ := h; subst e; rfl) | (obtain ⟨_, _, _, _, _, _, _, _, _, _, _, _, _, _, _, _, _, _, _, e, _⟩ := h; subst e; rfl) | (obtain ⟨_, _, _, _, _, _, _, _, _, _, _, _, _, _, _, _, _, _, _, _, e, _⟩ := h; subst e; rfl) | (obtain ⟨_, _, _, _, _, _, _, _, _, _, _, _, _, _, _, _, _, _, _, _, _, e, _⟩ := h; subst e; rfl) | (obtain ⟨_, _, _, _, _, _, _, _, _, _, _, _, _, _, _, _, _, _, _, _, _, _, e, _⟩ := h; subst e; rfl) | (obtain ⟨_, _, _, _, _, _, _, _, _, _, _, _, _, _, _, _, _, _, _, _, _, _, _, e, _⟩ := h; subst e; rfl) | (obtain ⟨_, _, _, _, _, _, _, _, _, _, _, _, _, _, _, _, _, _, _, _, _, _, _, _, e, _⟩ := h; subst e; rfl) | (obtain ⟨_, _, _, _, _, _, _, _, _, _, _, _, _, _, _, _, _, _, _, _, _, _, _, _, _, e, _⟩ := h; subst e; rfl))) (fun f cdv A outer s H E F0 hr => ?_)
  have nd := (sc_is_within).nd
  refine ⟨_, _, (db_one (ds_ret (de_and (de_call c_is_integer hr (goes0A (E := DXK.no)) (da_cons (de_var 0) da_nil)) (de_one (de_chain op_le (l2_II fun _ _ _ => .bl _) op_le (l2_II fun _ _ _ => .bl _) (de_var 1) (de_var 0) (de_var 2)))))), ?_⟩
  rintro ds M Q E ⟨d, a, b, rfl, h, q⟩
  simp only [dVar, dC, dOp, dTest, dII, dIC, dFld, dFldS, dMake, dProp, dLcM, toM, dppNil, dppCons, dMerge, dDisp, dCatL, dRep, dRepM, dExtend, dChain, dEq, dAnd, dOr, dNot, dIfE, dNext, dSeq, dDrop, dRet, dIfS, dNever, dFrz, hName, hNil, hCons, hTup, hSub, dAsg, dAug, dipI, dNil, dCons, dTup, dLst, dLstM, dIx, dSet, dCall, dwipe, dYes, jSeq, jRng1, jRng2, dCB, dLen, dList, dListM, dTuple, dAbs, dInt, dBM0, dBM, dAppend, dPop, dPopAt, dAndV, dNotV, dNeg, dIn, dNoPart, dPart, dSl, dSlM, dNewK, dIsi, dIsiT, dLc, dFor, dDc, dCallS, dRaise, dTry, dIsE, dSortD, dFrzE, jKeys, dIndexD, dEqS, dReprG, if_true, if_false, ite_true, ite_false, Bool.false_eq_true, reduceIte, Bool.not_true, Bool.not_false, List.getElem?_cons_zero, List.getElem?_cons_succ, List.set_cons_zero, List.set_cons_succ, List.map_cons, List.map_nil, List.replicate, List.cons_append, List.nil_append, List.length_cons, List.length_nil, dstart]
  refine ⟨d, rfl, h, ?_⟩
  cases d with
  | int i =>
    simp only [D.isInt, if_true, D.within] at q ⊢
    by_cases e : a ≤ i
    · simp only [e, decide_true, Bool.true_and] at q ⊢; exact fin_self q
    · simp only [e, decide_false, Bool.false_and] at q ⊢; exact fin_self q
  | _ => exact fin_self q
theorem sc_is_index : FnScope ["thing", "many"] ["thing", "many"] (defScope s_is_index) := ⟨rfl, rfl, rfl, by decide +kernel, rfl, by decide +kernel, by decide +kernel⟩
def sp_is_index : DSp := fun ds M Q _ => ∃ d n, ds = [d, .int n] ∧ (tyN M d).isSome = true ∧ Q (.bl (d.within 0 (n - 1))) M
theorem c_is_index (F : DFun K mg "is_index" s_is_index ["thing", "many"]) (B : Bn mg) (G : Gs mg) (c_is_within : DCal P w K mg base CX0 2 "is_within" sp_is_within) : DCal P w K mg base CX0 3 "is_index" sp_is_index := by
  refine dok F sc_is_index (fun ds M Q E h => (by obtain ⟨_, h⟩ := h; first | (obtain ⟨e, _⟩ := h; subst e; rfl) | (obtain ⟨_, e, _⟩ := h; subst e; rfl) | (obtain ⟨_, _, e, _⟩ := h; subst e; rfl) | (obtain ⟨_, _, _, e, _⟩ := h; subst e; rfl) | (obtain ⟨_, _, _, _, e, _⟩ := h; subst e; rfl) | (obtain ⟨_, _, _, _, _, e, _⟩ := h; subst e; rfl) | (obtain ⟨_, _, _, _, _, _, e, _⟩ := h; subst e; rfl) | (obtain ⟨_, _, _, _, _, _, _, e, _⟩ := h; subst e; rfl) | (obtain ⟨_, _, _, _, _, _, _, _, e, _⟩ := h; subst e; rfl) | (obtain ⟨_, _, _, _, _, _, _, _, _, e, _⟩ := h; subst e; rfl) | (obtain ⟨_, _, _, _, _, _, _, _, _, _, e, _⟩ := h; subst e; rfl) | (obtain ⟨_, _, _, _, _, _, _, _, _, _, _, e, _⟩ := h; subst e; rfl) | (obtain ⟨_, _, _, _, _, _, _, _, _, _, _, _, e, _⟩ := h; subst e; rfl) | (obtain ⟨_, _, _, _, _, _, _, _, _, _, _, _, _, e, _⟩ := h; subst e; rfl) | (obtain ⟨_, _, _, _, _, _, _, _, _, _, _, _, _, _, e, _⟩ := h; subst e; rfl) | (obtain ⟨_, _, _, _, _, _, _, _, _, _, _, _, _, _, _, e, _⟩ := h; subst e; rfl) | (obtain ⟨_, _, _, _, _, _, _, _, _, _, _, _, _, _, _, _, e, _⟩ := h; subst e; rfl) | (obtain ⟨_, _, _, _, _, _, _, _, _, _, _, _, _, _, _, _, _, e, _⟩ := h; subst e; rfl) | (obtain ⟨_, _, _, _, _, _, _, _, _, _, _, _, _, _, _, _, _, _, e, _⟩ := h; subst e; rfl) | (obtain ⟨_, _, _, _, _, _, _, _, _, _, _, _, _, _, _, _, _, _, _, e, _⟩ := h; subst e; rfl) | (obtain ⟨_, _, _, _, _, _, _, _, _, _, _, _, _, _, _, _, _, _, _, _, e, _⟩ := h; subst e; rfl) | (obtain ⟨_, _, _, _, _, _, _, _, _, _, _, _, _, _, _, _, _, _, _, _, _, e, _⟩ := h; subst e; rfl) | (obtain ⟨_, _, _, _, _, _, _, _, _, _, _, _, _, _, _, _, _, _, _, _, _, _, e, _⟩ := h; subst e; rfl) | (obtain ⟨_, _, _, _, _, _, _, _, _, _, _, _, _, _, _, _, _, _, _, _, _, _, _, e, _⟩ := h; subst e; rfl) | (obtain ⟨_, _, _, _, _, _, _, _, _, _, _, _, _, _, _, _, _, _, _, _, _, _, _, _, e, _⟩ := h; subst e; rfl) | (obtain ⟨_, _, _, _, _, _, _, _, _, _, _, _, _, _, _, _, _, _, _, _, _, _, _, _, _, e, _⟩ := h; subst e; rfl))) (fun f cdv A outer s H E F0 hr => ?_)
  have nd := (sc_is_index).nd
  refine ⟨_, _, (db_one (ds_ret (de_call c_is_within hr (goes0A (E := DXK.no)) (da_cons (de_var 0) (da_cons de_int (da_cons (de_sub (de_var 1) de_int) da_nil)))))), ?_⟩
  rintro ds M Q E ⟨d, n, rfl, h, q⟩
  simp only [dVar, dC, dOp, dTest, dII, dIC, dFld, dFldS, dMake, dProp, dLcM, toM, dppNil, dppCons, dMerge, dDisp, dCatL, dRep, dRepM, dExtend, dChain, dEq, dAnd, dOr, dNot, dIfE, dNext, dSeq, dDrop, dRet, dIfS, dNever, dFrz, hName, hNil, hCons, hTup, hSub, dAsg, dAug, dipI, dNil, dCons, dTup, dLst, dLstM, dIx, dSet, dCall, dwipe, dYes, jSeq, jRng1, jRng2, dCB, dLen, dList, dListM, dTuple, dAbs, dInt, dBM0, dBM, dAppend, dPop, dPopAt, dAndV, dNotV, dNeg, dIn, dNoPart, dPart, dSl, dSlM, dNewK, dIsi, dIsiT, dLc, dFor, dDc, dCallS, dRaise, dTry, dIsE, dSortD, dFrzE, jKeys, dIndexD, dEqS, dReprG, if_true, if_false, ite_true, ite_false, Bool.false_eq_true, reduceIte, Bool.not_true, Bool.not_false, List.getElem?_cons_zero, List.getElem?_cons_succ, List.set_cons_zero, List.set_cons_succ, List.map_cons, List.map_nil, List.replicate, List.cons_append, List.nil_append, List.length_cons, List.length_nil, dstart]
  exact ⟨d, 0, n - 1, rfl, h, fin_self q⟩
theorem sc_Book_size : FnScope ["self"] ["self"] (defScope s_Book_size) := ⟨rfl, rfl, rfl, by decide +kernel, rfl, by decide +kernel, by decide +kernel⟩
def sp_Book_size (C_TB : Addr) : DSp := fun ds M Q _ => ∃ p n ps d, ds = [.ref p] ∧ BookAt C_TB M p n ps d ∧ Q (.int n) M
theorem c_Book_size {f : Addr} {C_TB : Addr} (F : DMet K "size" "Book.size" s_Book_size f ["self"]) (B : Bn mg) (G : Gs mg) (TB : Cl_TB K mg C_TB) : ∃ fd, FnOk P w K mg base CX0 1 f fd ["self"] (liftSp K (sp_Book_size C_TB)) ∧ Binds K fd ["self"] [] := by
  refine dokM F sc_Book_size (fun ds M Q E h => (by obtain ⟨_, h⟩ := h; first | (obtain ⟨e, _⟩ := h; subst e; rfl) | (obtain ⟨_, e, _⟩ := h; subst e; rfl) | (obtain ⟨_, _, e, _⟩ := h; subst e; rfl) | (obtain ⟨_, _, _, e, _⟩ := h; subst e; rfl) | (obtain ⟨_, _, _, _, e, _⟩ := h; subst e; rfl) | (obtain ⟨_, _, _, _, _, e, _⟩ := h; subst e; rfl) | (obtain ⟨_, _, _, _, _, _, e, _⟩ := h; subst e; rfl) | (obtain ⟨_, _, _, _, _, _, _, e, _⟩ := h; subst e; rfl) | (obtain ⟨_, _, _, _, _, _, _, _, e, _⟩ := h; subst e; rfl) | (obtain ⟨_, _, _, _, _, _, _, _, _, e, _⟩ := h; subst e; rfl) | (obtain ⟨_, _, _, _, _, _, _, _, _, _, e, _⟩ := h; subst e; rfl) | (obtain ⟨_, _, _, _, _, _, _, _, _, _, _, e, _⟩ := h; subst e; rfl) | (obtain ⟨_, _, _, _, _, _, _, _, _, _, _, _, e, _⟩ := h; subst e; rfl) | (obtain ⟨_, _, _, _, _, _, _, _, _, _, _, _, _, e, _⟩ := h; subst e; rfl) | (obtain ⟨_, _, _, _, _, _, _, _, _, _, _, _, _, _, e, _⟩ := h; subst e; rfl) | (obtain ⟨_, _, _, _, _, _, _, _, _, _, _, _, _, _, _, e, _⟩ := h; subst e; rfl) | (obtain ⟨_, _, _, _, _, _, _, _, _, _, _, _, _, _, _, _, e, _⟩ := h; subst e; rfl) | (obtain ⟨_, _, _, _, _, _, _, _, _, _, _, _, _, _, _, _, _, e, _⟩ := h; subst e; rfl) | (obtain ⟨_, _, _, _, _, _, _, _, _, _, _, _, _, _, _, _, _, _, e, _⟩ := h; subst e; rfl) | (obtain ⟨_, _, _, _, _, _, _, _, _, _, _, _, _, _, _, _, _, _, _, e, _⟩ := h; subst e; rfl) | (obtain ⟨_, _, _, _, _, _, _, _, _, _, _, _, _, _, _, _, _, _, _, _, e, _⟩ := h; subst e; rfl) | (obtain ⟨_, _, _, _, _, _, _, _, _, _, _, _, _, _, _, _, _, _, _, _, _, e, _⟩ := h; subst e; rfl) | (obtain ⟨_, _, _, _, _, _, _, _, _, _, _, _, _, _, _, _, _, _, _, _, _, _, e, _⟩ := h; subst e; rfl) | (obtain ⟨_, _, _, _, _, _, _, _, _, _, _, _, _, _, _, _, _, _, _, _, _, _, _, e, _⟩ := h; subst e; rfl) | (obtain ⟨_, _, _, _, _, _, _, _, _, _, _, _, _, _, _, _, _, _, _, _, _, _, _, _, e, _⟩ := h; subst e; rfl) | (obtain ⟨_, _, _, _, _, _, _, _, _, _, _, _, _, _, _, _, _, _, _, _, _, _, _, _, _, e, _⟩ := h; subst e; rfl))) (fun cdv A outer s H E F0 hr => ?_)
  have nd := (sc_Book_size).nd
  refine ⟨_, _, (db_one (ds_ret (de_fld TB.cl TB.n_kept_size (de_var 0)))), ?_⟩
  rintro ds M Q E ⟨p, n, ps, d, rfl, W, q⟩
  simp only [dVar, dC, dOp, dTest, dII, dIC, dFld, dFldS, dMake, dProp, dLcM, toM, dppNil, dppCons, dMerge, dDisp, dCatL, dRep, dRepM, dExtend, dChain, dEq, dAnd, dOr, dNot, dIfE, dNext, dSeq, dDrop, dRet, dIfS, dNever, dFrz, hName, hNil, hCons, hTup, hSub, dAsg, dAug, dipI, dNil, dCons, dTup, dLst, dLstM, dIx, dSet, dCall, dwipe, dYes, jSeq, jRng1, jRng2, dCB, dLen, dList, dListM, dTuple, dAbs, dInt, dBM0, dBM, dAppend, dPop, dPopAt, dAndV, dNotV, dNeg, dIn, dNoPart, dPart, dSl, dSlM, dNewK, dIsi, dIsiT, dLc, dFor, dDc, dCallS, dRaise, dTry, dIsE, dSortD, dFrzE, jKeys, dIndexD, dEqS, dReprG, if_true, if_false, ite_true, ite_false, Bool.false_eq_true, reduceIte, Bool.not_true, Bool.not_false, List.getElem?_cons_zero, List.getElem?_cons_succ, List.set_cons_zero, List.set_cons_succ, List.map_cons, List.map_nil, List.replicate, List.cons_append, List.nil_append, List.length_cons, List.length_nil, dstart, W.ob]
  exact ⟨trivial, _, fb_size n ps d, fin_self q⟩
theorem sc_is_entry : FnScope ["book", "thing"] ["book", "thing"] (defScope s_is_entry) := ⟨rfl, rfl, rfl, by decide +kernel, rfl, by decide +kernel, by decide +kernel⟩
def sp_is_entry (C_TB : Addr) : DSp := fun ds M Q _ => ∃ b n ps d e, ds = [.ref b, e] ∧ BookAt C_TB M b n ps d ∧ EntSh e ∧ Q (.bl (entB n e)) M
theorem c_is_entry {C_TB : Addr} (F : DFun K mg "is_entry" s_is_entry ["book", "thing"]) (B : Bn mg) (G : Gs mg) (TB : Cl_TB K mg C_TB) (c_is_index : DCal P w K mg base CX0 3 "is_index" sp_is_index) (KT_WORDS : GT K mg "WORDS" [.str "order", .str "read"]) (TB_p_size : DPr P w K mg base 1 C_TB "size" (sp_Book_size C_TB)) : DCal P w K mg base CX0 4 "is_entry" (sp_is_entry C_TB) := by
  obtain ⟨aT_WORDS, xT_WORDS, gT_WORDS, kT_WORDS, rT_WORDS⟩ := KT_WORDS.ex
  refine dok F sc_is_entry (fun ds M Q E h => (by obtain ⟨_, h⟩ := h; first | (obtain ⟨e, _⟩ := h; subst e; rfl) | (obtain ⟨_, e, _⟩ := h; subst e; rfl) | (obtain ⟨_, _, e, _⟩ := h; subst e; rfl) | (obtain ⟨_, _, _, e, _⟩ := h; subst e; rfl) | (obtain ⟨_, _, _, _, e, _⟩ := h; subst e; rfl) | (obtain ⟨_, _, _, _, _, e, _⟩ := h; subst e; rfl) | (obtain ⟨_, _, _, _, _, _, e, _⟩ := h; subst e; rfl) | (obtain ⟨_, _, _, _, _, _, _, e, _⟩ := h; subst e; rfl) | (obtain ⟨_, _, _, _, _, _, _, _, e, _⟩ := h; subst e; rfl) | (obtain ⟨_, _, _, _, _, _, _, _, _, e, _⟩ := h; subst e; rfl) | (obtain ⟨_, _, _, _, _, _, _, _, _, _, e, _⟩ := h; subst e; rfl) | (obtain ⟨_, _, _, _, _, _, _, _, _, _, _, e, _⟩ := h; subst e; rfl) | (obtain ⟨_, _, _, _, _, _, _, _, _, _, _, _, e, _⟩ := h; subst e; rfl) | (obtain ⟨_, _, _, _, _, _, _, _, _, _, _, _, _, e, _⟩ := h; subst e; rfl) | (obtain ⟨_, _, _, _, _, _, _, _, _, _, _, _, _, _, e, _⟩ := h; subst e; rfl) | (obtain ⟨_, _, _, _, _, _, _, _, _, _, _, _, _, _, _, e, _⟩ := h; subst e; rfl) | (obtain ⟨_, _, _, _, _, _, _, _, _, _, _, _, _, _, _, _, e, _⟩ := h; subst e; rfl) | (obtain ⟨_, _, _, _, _, _, _, _, _, _, _, _, _, _, _, _, _, e, _⟩ := h; subst e; rfl) | (obtain ⟨_, _, _, _, _, _, _, _, _, _, _, _, _, _, _, _, _, _, e, _⟩ := h; subst e; rfl) | (obtain ⟨_, _, _, _, _, _, _, _, _, _, _, _, _, _, _, _, _, _, _, e, _⟩ := h; subst e; rfl) | (obtain ⟨_, _, _, _, _, _, _, _, _, _, _, _, _, _, _, _, _, _, _, _, e, _⟩ := h; subst e; rfl) | (obtain ⟨_, _, _, _, _, _, _, _, _, _, _, _, _, _, _, _, _, _, _, _, _, e, _⟩ := h; subst e; rfl) | (obtain ⟨_, _, _, _, _, _, _, _, _, _, _, _, _, _, _, _, _, _, _, _, _, _, e, _⟩ := h; subst e; rfl) | (obtain ⟨_, _, _, _, _, _, _, _, _, _, _, _, _, _, _, _, _, _, _, _, _, _, _, e, _⟩ := h; subst e; rfl) | (obtain ⟨_, _, _, _, _, _, _, _, _, _, _, _, _, _, _, _, _, _, _, _, _, _, _, _, e, _⟩ := h; subst e; rfl) | (obtain ⟨_, _, _, _, _, _, _, _, _, _, _, _, _, _, _, _, _, _, _, _, _, _, _, _, _, e, _⟩ := h; subst e; rfl))) (fun f cdv A outer s H E F0 hr => ?_)
  have nd := (sc_is_entry).nd
  refine ⟨_, _, (db_cons (ds_if (DW.dt (dw_or (dt_not (dt_val (de_isi B.isinstance (da_cons (de_var 1) (da_cons (de_ty (n := "tuple") B.tuple) da_nil))))) (dw_or (dt_ne hr (de_len B.len (da_cons (de_var 1) da_nil)) de_int) (dw_or1 (dt_not (dt_val (de_isi B.isinstance (da_cons (de_ix hr (de_var 1) de_int) (da_cons (de_ty (n := "str") B.str) da_nil))))))))) (db_one (ds_ret de_bl)) db_nil)
      (db_one (ds_ret (de_and (de_in hr (de_ix hr (de_var 1) de_int) (de_globK gT_WORDS kT_WORDS rT_WORDS)) (de_one (de_call c_is_index hr (goes0A (E := DXK.no)) (da_cons (de_ix hr (de_var 1) de_int) (da_cons (de_prop TB.cl TB_p_size hr (de_var 0)) da_nil)))))))), ?_⟩
  rintro ds M Q E ⟨b, n, ps, d, e, rfl, B, S, q⟩
  obtain ⟨T, hT, ht, _⟩ := any_ty (M := M) S.1
  simp only [dVar, dC, dOp, dTest, dII, dIC, dFld, dFldS, dMake, dProp, dLcM, toM, dppNil, dppCons, dMerge, dDisp, dCatL, dRep, dRepM, dExtend, dChain, dEq, dAnd, dOr, dNot, dIfE, dNext, dSeq, dDrop, dRet, dIfS, dNever, dFrz, hName, hNil, hCons, hTup, hSub, dAsg, dAug, dipI, dNil, dCons, dTup, dLst, dLstM, dIx, dSet, dCall, dwipe, dYes, jSeq, jRng1, jRng2, dCB, dLen, dList, dListM, dTuple, dAbs, dInt, dBM0, dBM, dAppend, dPop, dPopAt, dAndV, dNotV, dNeg, dIn, dNoPart, dPart, dSl, dSlM, dNewK, dIsi, dIsiT, dLc, dFor, dDc, dCallS, dRaise, dTry, dIsE, dSortD, dFrzE, jKeys, dIndexD, dEqS, dReprG, if_true, if_false, ite_true, ite_false, Bool.false_eq_true, reduceIte, Bool.not_true, Bool.not_false, List.getElem?_cons_zero, List.getElem?_cons_succ, List.set_cons_zero, List.set_cons_succ, List.map_cons, List.map_nil, List.replicate, List.cons_append, List.nil_append, List.length_cons, List.length_nil, dstart]
  refine ⟨by decide +kernel, T, hT, ?_⟩
  cases h1 : isiT T "tuple" with
  | false =>
    have e0 : entB n e = false := by
      cases e with
      | tup l => rw [ht.mpr ⟨l, rfl⟩] at h1; cases h1
      | _ => rfl
    simp only [if_true, if_false, ite_true, ite_false, Bool.false_eq_true, reduceIte, Bool.not_true, Bool.not_false, List.getElem?_cons_zero, List.getElem?_cons_succ, List.set_cons_zero, List.set_cons_succ, List.map_cons, List.map_nil, List.replicate, List.cons_append, List.nil_append, List.length_cons, List.length_nil, dstart]
    rw [e0] at q
    exact fin_self q
  | true =>
    obtain ⟨l, rfl⟩ := ht.mp h1
    simp only [if_true, if_false, ite_true, ite_false, Bool.false_eq_true, reduceIte, Bool.not_true, Bool.not_false, List.getElem?_cons_zero, List.getElem?_cons_succ, List.set_cons_zero, List.set_cons_succ, List.map_cons, List.map_nil, List.replicate, List.cons_append, List.nil_append, List.length_cons, List.length_nil, dstart]
    refine ⟨l.length, by simp only [lenV], rfl, rfl, ?_⟩
    rw [D.eq_int]
    by_cases hl : l.length = 2
    · rw [show (((l.length : Nat) : Int) == 2) = true by rw [hl]; rfl]
      simp only [if_true, if_false, ite_true, ite_false, Bool.false_eq_true, reduceIte, Bool.not_true, Bool.not_false, List.getElem?_cons_zero, List.getElem?_cons_succ, List.set_cons_zero, List.set_cons_succ, List.map_cons, List.map_nil, List.replicate, List.cons_append, List.nil_append, List.length_cons, List.length_nil, dstart]
      obtain ⟨a, t, rfl⟩ : ∃ a t, l = [a, t] := by
        match l, hl with
        | [a, t], _ => exact ⟨a, t, rfl⟩
      obtain ⟨sa, st⟩ := S.2 a t rfl
      obtain ⟨Ta, hTa, _, hs⟩ := any_ty (M := M) sa
      refine ⟨a, ixT_at (k := 0) rfl rfl, by decide +kernel, Ta, hTa, ?_⟩
      cases h2 : isiT Ta "str" with
      | false =>
        have e0 : entB n (.tup [a, t]) = false := by
          cases a with
          | str x => rw [hs.mpr ⟨x, rfl⟩] at h2; cases h2
          | _ => rfl
        simp only [if_true, if_false, ite_true, ite_false, Bool.false_eq_true, reduceIte, Bool.not_true, Bool.not_false, List.getElem?_cons_zero, List.getElem?_cons_succ, List.set_cons_zero, List.set_cons_succ, List.map_cons, List.map_nil, List.replicate, List.cons_append, List.nil_append, List.length_cons, List.length_nil, dstart]
        rw [e0] at q
        exact fin_self q
      | true =>
        obtain ⟨x, rfl⟩ := hs.mp h2
        simp only [if_true, if_false, ite_true, ite_false, Bool.false_eq_true, reduceIte, Bool.not_true, Bool.not_false, List.getElem?_cons_zero, List.getElem?_cons_succ, List.set_cons_zero, List.set_cons_succ, List.map_cons, List.map_nil, List.replicate, List.cons_append, List.nil_append, List.length_cons, List.length_nil, dstart]
        refine ⟨.str x, ixT_at (k := 0) rfl rfl, _, in_words sa, ?_⟩
        have e0 : entB n (.tup [.str x, t]) = ((decide (x = "order") || decide (x = "read")) && t.within 0 (n - 1)) := rfl
        rw [e0] at q
        cases h3 : (decide (x = "order") || decide (x = "read")) with
        | false =>
          rw [h3] at q
          simp only [if_true, if_false, ite_true, ite_false, Bool.false_eq_true, reduceIte, Bool.not_true, Bool.not_false, List.getElem?_cons_zero, List.getElem?_cons_succ, List.set_cons_zero, List.set_cons_succ, List.map_cons, List.map_nil, List.replicate, List.cons_append, List.nil_append, List.length_cons, List.length_nil, dstart]
          exact fin_self q
        | true =>
          rw [h3] at q
          simp only [if_true, if_false, ite_true, ite_false, Bool.false_eq_true, reduceIte, Bool.not_true, Bool.not_false, List.getElem?_cons_zero, List.getElem?_cons_succ, List.set_cons_zero, List.set_cons_succ, List.map_cons, List.map_nil, List.replicate, List.cons_append, List.nil_append, List.length_cons, List.length_nil, dstart]
          refine ⟨t, ixT_at (k := 1) rfl rfl, ⟨_, B.ob⟩, b, n, ps, d, rfl, B, t, n, rfl, any_some st, ?_⟩
          exact fin_self q
    · rw [show (((l.length : Nat) : Int) == 2) = false by rw [beq_eq_false_iff_ne]; omega]
      have e0 : entB n (.tup l) = false := by
        match l, hl with
        | [], _ => rfl
        | [a], _ => cases a <;> rfl
        | [a, t], h => exact absurd rfl h
        | a :: b :: c :: l, _ => cases a <;> rfl
      simp only [if_true, if_false, ite_true, ite_false, Bool.false_eq_true, reduceIte, Bool.not_true, Bool.not_false, List.getElem?_cons_zero, List.getElem?_cons_succ, List.set_cons_zero, List.set_cons_succ, List.map_cons, List.map_nil, List.replicate, List.cons_append, List.nil_append, List.length_cons, List.length_nil, dstart]
      rw [e0] at q
      exact fin_self q
theorem sc_check_log : FnScope ["book", "log", "entry"] ["book", "log"] (defScope s_check_log) := ⟨rfl, rfl, rfl, by decide +kernel, rfl, by decide +kernel, by decide +kernel⟩
def sp_check_log (C_TB E_NoLog : Addr) : DSp := fun ds M Q E => ∃ b n ps d th, ds = [.ref b, th] ∧ BookAt C_TB M b n ps d ∧ LogSh th ∧ (logB n th = true → Q .non M) ∧ (logB n th = false → E (.ref E_NoLog) none M)
theorem c_check_log {C_TB E_NoLog : Addr} (F : DFun K mg "check_log" s_check_log ["book", "log"]) (B : Bn mg) (G : Gs mg) (c_is_entry : DCal P w K mg base CX0 4 "is_entry" (sp_is_entry C_TB)) (XC_NoLog : ExCls K mg "NoLog" E_NoLog) : DCal P w K mg base (L2N.CX P w) 5 "check_log" (sp_check_log C_TB E_NoLog) := by
  obtain ⟨t_MOST_ENTRIES, g_MOST_ENTRIES⟩ := G.MOST_ENTRIES
  refine dokX F sc_check_log (fun ds M Q E h => (by obtain ⟨_, h⟩ := h; first | (obtain ⟨e, _⟩ := h; subst e; rfl) | (obtain ⟨_, e, _⟩ := h; subst e; rfl) | (obtain ⟨_, _, e, _⟩ := h; subst e; rfl) | (obtain ⟨_, _, _, e, _⟩ := h; subst e; rfl) | (obtain ⟨_, _, _, _, e, _⟩ := h; subst e; rfl) | (obtain ⟨_, _, _, _, _, e, _⟩ := h; subst e; rfl) | (obtain ⟨_, _, _, _, _, _, e, _⟩ := h; subst e; rfl) | (obtain ⟨_, _, _, _, _, _, _, e, _⟩ := h; subst e; rfl) | (obtain ⟨_, _, _, _, _, _, _, _, e, _⟩ := h; subst e; rfl) | (obtain ⟨_, _, _, _, _, _, _, _, _, e, _⟩ := h; subst e; rfl) | (obtain ⟨_, _, _, _, _, _, _, _, _, _, e, _⟩ := h; subst e; rfl) | (obtain ⟨_, _, _, _, _, _, _, _, _, _, _, e, _⟩ := h; subst e; rfl) | (obtain ⟨_, _, _, _, _, _, _, _, _, _, _, _, e, _⟩ := h; subst e; rfl) | (obtain ⟨_, _, _, _, _, _, _, _, _, _, _, _, _, e, _⟩ := h; subst e; rfl) | (obtain ⟨_, _, _, _, _, _, _, _, _, _, _, _, _, _, e, _⟩ := h; subst e; rfl) | (obtain ⟨_, _, _, _, _, _, _, _, _, _, _, _, _, _, _, e, _⟩ := h; subst e; rfl) | (obtain ⟨_, _, _, _, _, _, _, _, _, _, _, _, _, _, _, _, e, _⟩ := h; subst e; rfl) | (obtain ⟨_, _, _, _, _, _, _, _, _, _, _, _, _, _, _, _, _, e, _⟩ := h; subst e; rfl) | (obtain ⟨_, _, _, _, _, _, _, _, _, _, _, _, _, _, _, _, _, _, e, _⟩ := h; subst e; rfl) | (obtain ⟨_, _, _, _, _, _, _, _, _, _, _, _, _, _, _, _, _, _, _, e, _⟩ := h; subst e; rfl) | (obtain ⟨_, _, _, _, _, _, _, _, _, _, _, _, _, _, _, _, _, _, _, _, e, _⟩ := h; subst e; rfl) | (obtain ⟨_, _, _, _, _, _, _, _, _, _, _, _, _, _, _, _, _, _, _, _, _, e, _⟩ := h; subst e; rfl) | (obtain ⟨_, _, _, _, _, _, _, _, _, _, _, _, _, _, _, _, _, _, _, _, _, _, e, _⟩ := h; subst e; rfl) | (obtain ⟨_, _, _, _, _, _, _, _, _, _, _, _, _, _, _, _, _, _, _, _, _, _, _, e, _⟩ := h; subst e; rfl) | (obtain ⟨_, _, _, _, _, _, _, _, _, _, _, _, _, _, _, _, _, _, _, _, _, _, _, _, e, _⟩ := h; subst e; rfl) | (obtain ⟨_, _, _, _, _, _, _, _, _, _, _, _, _, _, _, _, _, _, _, _, _, _, _, _, _, e, _⟩ := h; subst e; rfl))) (fun f cdv A outer s H E F0 E1 hr hE => ?_)
  have nd := (sc_check_log).nd
  have tk : L2N.Takes (cxOf (L2N.CX P w) P w K mg base ["book", "log", "entry"] "check_log" (defScope s_check_log) f cdv A outer s H E) (lXW K F0 fun _ => E1) := takesX (L2N.takes_of rfl rfl rfl rfl) hE
  refine ⟨_, _, (db_cons (ds_if (DW.dt (dw_or (dt_not (dt_val (de_isiT B.isinstance (da_cons (de_var 1) (da_cons (de_tup (da_cons (de_ty (n := "list") B.list) (da_cons (de_ty (n := "tuple") B.tuple) da_nil))) da_nil))))) (dw_or1 (dt_gt (de_len B.len (da_cons (de_var 1) da_nil)) (de_globI g_MOST_ENTRIES))))) (db_one (ds_raise XC_NoLog rfl tk)) db_nil)
      (db_one (ds_if (dt_not (dt_val (de_blt (cr_all rfl) lc_flags B.all (da_cons (dx_lc (own := [("entry", 2)]) rfl nd (di_seq (de_var 1)) (blkOk_by (N := ["book", "log", "entry"]) (sc := defScope s_check_log) (by decide +kernel)) (fun _ _ _ _ _ => ⟨_, (dg_name 2 nd), (gw_name (by decide))⟩) (fun _ _ _ _ _ => ⟨_, dts_nil⟩) (fun _ _ _ _ _ => ⟨_, (de_call c_is_entry hr (goes0A (E := DXK.no)) (da_cons (de_var 0) (da_cons (de_var 2) da_nil)))⟩)) da_nil)))) (db_one (ds_raise XC_NoLog rfl tk)) db_nil))), ?_⟩
  rintro ds M Q ⟨b, n, ps, d, th, rfl, B, S, q1, q2⟩
  have seq : ∀ l : List D, (∀ e ∈ l, EntSh e) → ∀ (k : Bool → Mp → Prop), k (l.all (entB n)) M → dLcI (hName 2) dYes (dCall (sp_is_entry C_TB) DXK.no (dCons (dVar 0) (dCons (dVar 2) dNil))) [2] [some (.ref b), some th, none] l M fun x M1 => dFlags (fun bs => bs.all id) [x] M1 fun x M' => match x with
      | .bl v => k v M'
      | _ => False := fun l hl k hk => by
    refine dLcI_map (fun e => .bl (entB n e)) (fun i e he Q2 q2 => ?_) ?_
    · simp only [dVar, dC, dOp, dTest, dII, dIC, dFld, dFldS, dMake, dProp, dLcM, toM, dppNil, dppCons, dMerge, dDisp, dCatL, dRep, dRepM, dExtend, dChain, dEq, dAnd, dOr, dNot, dIfE, dNext, dSeq, dDrop, dRet, dIfS, dNever, dFrz, hName, hNil, hCons, hTup, hSub, dAsg, dAug, dipI, dNil, dCons, dTup, dLst, dLstM, dIx, dSet, dCall, dwipe, dYes, jSeq, jRng1, jRng2, dCB, dLen, dList, dListM, dTuple, dAbs, dInt, dBM0, dBM, dAppend, dPop, dPopAt, dAndV, dNotV, dNeg, dIn, dNoPart, dPart, dSl, dSlM, dNewK, dIsi, dIsiT, dLc, dFor, dDc, dCallS, dRaise, dTry, dIsE, dSortD, dFrzE, jKeys, dIndexD, dEqS, dReprG, if_true, if_false, ite_true, ite_false, Bool.false_eq_true, reduceIte, Bool.not_true, Bool.not_false, List.getElem?_cons_zero, List.getElem?_cons_succ, List.set_cons_zero, List.set_cons_succ, List.map_cons, List.map_nil, List.replicate, List.cons_append, List.nil_append, List.length_cons, List.length_nil, dstart]
      exact ⟨b, n, ps, d, e, rfl, B, hl e (List.mem_of_getElem? he), q2⟩
    · unfold dFlags
      refine ⟨l.map (entB n), by rw [List.map_map]; rfl, ?_⟩
      have e1 : (l.map (entB n)).all id = l.all (entB n) := by rw [List.all_map]; rfl
      simp only [e1]
      exact hk
  simp only [dVar, dC, dOp, dTest, dII, dIC, dFld, dFldS, dMake, dProp, dLcM, toM, dppNil, dppCons, dMerge, dDisp, dCatL, dRep, dRepM, dExtend, dChain, dEq, dAnd, dOr, dNot, dIfE, dNext, dSeq, dDrop, dRet, dIfS, dNever, dFrz, hName, hNil, hCons, hTup, hSub, dAsg, dAug, dipI, dNil, dCons, dTup, dLst, dLstM, dIx, dSet, dCall, dwipe, dYes, jSeq, jRng1, jRng2, dCB, dLen, dList, dListM, dTuple, dAbs, dInt, dBM0, dBM, dAppend, dPop, dPopAt, dAndV, dNotV, dNeg, dIn, dNoPart, dPart, dSl, dSlM, dNewK, dIsi, dIsiT, dLc, dFor, dDc, dCallS, dRaise, dTry, dIsE, dSortD, dFrzE, jKeys, dIndexD, dEqS, dReprG, if_true, if_false, ite_true, ite_false, Bool.false_eq_true, reduceIte, Bool.not_true, Bool.not_false, List.getElem?_cons_zero, List.getElem?_cons_succ, List.set_cons_zero, List.set_cons_succ, List.map_cons, List.map_nil, List.replicate, List.cons_append, List.nil_append, List.length_cons, List.length_nil, dstart]
  refine ⟨by decide, _, rfl, by decide +kernel, ?_⟩
  cases th with
  | lst l =>
    refine ⟨"list", rfl, ?_⟩
    rw [if_neg (by decide +kernel)]
    refine ⟨l.length, by simp only [lenV], ?_⟩
    by_cases h40 : l.length ≤ 40
    · rw [if_neg (by simp; omega)]
      refine ⟨len_ok (by omega), seq l S.2 (fun v M' => if (!v) = true then E1 (.ref E_NoLog) none M' else fin Q .non M') ?_⟩
      have e0 : logB n (.lst l) = l.all (entB n) := by simp only [logB, decide_eq_true h40, Bool.true_and]
      rw [e0] at q1 q2
      cases hb : l.all (entB n) with
      | true => simp only [if_true, if_false, ite_true, ite_false, Bool.false_eq_true, reduceIte, Bool.not_true, Bool.not_false, List.getElem?_cons_zero, List.getElem?_cons_succ, List.set_cons_zero, List.set_cons_succ, List.map_cons, List.map_nil, List.replicate, List.cons_append, List.nil_append, List.length_cons, List.length_nil, dstart]; exact fin_self (q1 hb)
      | false => simp only [if_true, if_false, ite_true, ite_false, Bool.false_eq_true, reduceIte, Bool.not_true, Bool.not_false, List.getElem?_cons_zero, List.getElem?_cons_succ, List.set_cons_zero, List.set_cons_succ, List.map_cons, List.map_nil, List.replicate, List.cons_append, List.nil_append, List.length_cons, List.length_nil, dstart]; exact q2 hb
    · rw [if_pos (decide_eq_true (by omega))]
      exact q2 (by simp only [logB, decide_eq_false h40, Bool.false_and])
  | tup l =>
    refine ⟨"tuple", rfl, ?_⟩
    rw [if_neg (by decide +kernel)]
    refine ⟨l.length, by simp only [lenV], ?_⟩
    by_cases h40 : l.length ≤ 40
    · rw [if_neg (by simp; omega)]
      refine ⟨len_ok (by omega), seq l S.2 (fun v M' => if (!v) = true then E1 (.ref E_NoLog) none M' else fin Q .non M') ?_⟩
      have e0 : logB n (.tup l) = l.all (entB n) := by simp only [logB, decide_eq_true h40, Bool.true_and]
      rw [e0] at q1 q2
      cases hb : l.all (entB n) with
      | true => simp only [if_true, if_false, ite_true, ite_false, Bool.false_eq_true, reduceIte, Bool.not_true, Bool.not_false, List.getElem?_cons_zero, List.getElem?_cons_succ, List.set_cons_zero, List.set_cons_succ, List.map_cons, List.map_nil, List.replicate, List.cons_append, List.nil_append, List.length_cons, List.length_nil, dstart]; exact fin_self (q1 hb)
      | false => simp only [if_true, if_false, ite_true, ite_false, Bool.false_eq_true, reduceIte, Bool.not_true, Bool.not_false, List.getElem?_cons_zero, List.getElem?_cons_succ, List.set_cons_zero, List.set_cons_succ, List.map_cons, List.map_nil, List.replicate, List.cons_append, List.nil_append, List.length_cons, List.length_nil, dstart]; exact q2 hb
    · rw [if_pos (decide_eq_true (by omega))]
      exact q2 (by simp only [logB, decide_eq_false h40, Bool.false_and])
  | non => refine ⟨_, rfl, ?_⟩; rw [if_pos (by decide +kernel)]; exact q2 rfl
  | bl x => refine ⟨_, rfl, ?_⟩; rw [if_pos (by decide +kernel)]; exact q2 rfl
  | int x => refine ⟨_, rfl, ?_⟩; rw [if_pos (by decide +kernel)]; exact q2 rfl
  | str x => refine ⟨_, rfl, ?_⟩; rw [if_pos (by decide +kernel)]; exact q2 rfl
  | dk x y => refine ⟨_, rfl, ?_⟩; rw [if_pos (by decide +kernel)]; exact q2 rfl
  | _ => exact S.elim
theorem sc_tied_of : FnScope ["book"] ["book"] (defScope s_tied_of) := ⟨rfl, rfl, rfl, by decide +kernel, rfl, by decide +kernel, by decide +kernel⟩
def sp_tied_of (C_TB : Addr) : DSp := fun ds M Q _ => ∃ p n ps d, ds = [.ref p] ∧ BookAt C_TB M p n ps d ∧ Q (.lst (rowsD n ps)) M
theorem c_tied_of {C_TB : Addr} (F : DFun K mg "tied_of" s_tied_of ["book"]) (B : Bn mg) (G : Gs mg) (TB : Cl_TB K mg C_TB) : DCal P w K mg base CX0 1 "tied_of" (sp_tied_of C_TB) := by
  refine dok F sc_tied_of (fun ds M Q E h => (by obtain ⟨_, h⟩ := h; first | (obtain ⟨e, _⟩ := h; subst e; rfl) | (obtain ⟨_, e, _⟩ := h; subst e; rfl) | (obtain ⟨_, _, e, _⟩ := h; subst e; rfl) | (obtain ⟨_, _, _, e, _⟩ := h; subst e; rfl) | (obtain ⟨_, _, _, _, e, _⟩ := h; subst e; rfl) | (obtain ⟨_, _, _, _, _, e, _⟩ := h; subst e; rfl) | (obtain ⟨_, _, _, _, _, _, e, _⟩ := h; subst e; rfl) | (obtain ⟨_, _, _, _, _, _, _, e, _⟩ := h; subst e; rfl) | (obtain ⟨_, _, _, _, _, _, _, _, e, _⟩ := h; subst e; rfl) | (obtain ⟨_, _, _, _, _, _, _, _, _, e, _⟩ := h; subst e; rfl) | (obtain ⟨_, _, _, _, _, _, _, _, _, _, e, _⟩ := h; subst e; rfl) | (obtain ⟨_, _, _, _, _, _, _, _, _, _, _, e, _⟩ := h; subst e; rfl) | (obtain ⟨_, _, _, _, _, _, _, _, _, _, _, _, e, _⟩ := h; subst e; rfl) | (obtain ⟨_, _, _, _, _, _, _, _, _, _, _, _, _, e, _⟩ := h; subst e; rfl) | (obtain ⟨_, _, _, _, _, _, _, _, _, _, _, _, _, _, e, _⟩ := h; subst e; rfl) | (obtain ⟨_, _, _, _, _, _, _, _, _, _, _, _, _, _, _, e, _⟩ := h; subst e; rfl) | (obtain ⟨_, _, _, _, _, _, _, _, _, _, _, _, _, _, _, _, e, _⟩ := h; subst e; rfl) | (obtain ⟨_, _, _, _, _, _, _, _, _, _, _, _, _, _, _, _, _, e, _⟩ := h; subst e; rfl) | (obtain ⟨_, _, _, _, _, _, _, _, _, _, _, _, _, _, _, _, _, _, e, _⟩ := h; subst e; rfl) | (obtain ⟨_, _, _, _, _, _, _, _, _, _, _, _, _, _, _, _, _, _, _, e, _⟩ := h; subst e; rfl) | (obtain ⟨_, _, _, _, _, _, _, _, _, _, _, _, _, _, _, _, _, _, _, _, e, _⟩ := h; subst e; rfl) | (obtain ⟨_, _, _, _, _, _, _, _, _, _, _, _, _, _, _, _, _, _, _, _, _, e, _⟩ := h; subst e; rfl) | (obtain ⟨_, _, _, _, _, _, _, _, _, _, _, _, _, _, _, _, _, _, _, _, _, _, e, _⟩ := h; subst e; rfl) | (obtain ⟨_, _, _, _, _, _, _, _, _, _, _, _, _, _, _, _, _, _, _, _, _, _, _, e, _⟩ := h; subst e; rfl) | (obtain ⟨_, _, _, _, _, _, _, _, _, _, _, _, _, _, _, _, _, _, _, _, _, _, _, _, e, _⟩ := h; subst e; rfl) | (obtain ⟨_, _, _, _, _, _, _, _, _, _, _, _, _, _, _, _, _, _, _, _, _, _, _, _, _, e, _⟩ := h; subst e; rfl))) (fun f cdv A outer s H E F0 hr => ?_)
  have nd := (sc_tied_of).nd
  refine ⟨_, _, (db_one (ds_ret (de_ix hr (de_fld TB.cl TB.n_kept_facts (de_var 0)) de_str))), ?_⟩
  rintro ds M Q E ⟨p, n, ps, d, rfl, W, q⟩
  simp only [dVar, dC, dOp, dTest, dII, dIC, dFld, dFldS, dMake, dProp, dLcM, toM, dppNil, dppCons, dMerge, dDisp, dCatL, dRep, dRepM, dExtend, dChain, dEq, dAnd, dOr, dNot, dIfE, dNext, dSeq, dDrop, dRet, dIfS, dNever, dFrz, hName, hNil, hCons, hTup, hSub, dAsg, dAug, dipI, dNil, dCons, dTup, dLst, dLstM, dIx, dSet, dCall, dwipe, dYes, jSeq, jRng1, jRng2, dCB, dLen, dList, dListM, dTuple, dAbs, dInt, dBM0, dBM, dAppend, dPop, dPopAt, dAndV, dNotV, dNeg, dIn, dNoPart, dPart, dSl, dSlM, dNewK, dIsi, dIsiT, dLc, dFor, dDc, dCallS, dRaise, dTry, dIsE, dSortD, dFrzE, jKeys, dIndexD, dEqS, dReprG, if_true, if_false, ite_true, ite_false, Bool.false_eq_true, reduceIte, Bool.not_true, Bool.not_false, List.getElem?_cons_zero, List.getElem?_cons_succ, List.set_cons_zero, List.set_cons_succ, List.map_cons, List.map_nil, List.replicate, List.cons_append, List.nil_append, List.length_cons, List.length_nil, dstart, W.ob]
  exact ⟨trivial, .ref d, fb_facts n ps d, .lst (rowsD n ps), by rw [ix_dK W.fc, dval_cons, if_pos rfl], fin_self q⟩
theorem sc_behind_entry : FnScope ["book", "contents", "entry", "word", "content", "found", "other"] ["book", "contents", "entry"] (defScope s_behind_entry) := ⟨rfl, rfl, rfl, by decide +kernel, rfl, by decide +kernel, by decide +kernel⟩
def sp_behind_entry (C_TB : Addr) : DSp := fun ds M Q _ => ∃ b n ps d ks e, ds = [.ref b, conD ks, entD e] ∧ BookAt C_TB M b n ps d ∧ ks.Nodup ∧ (∀ x ∈ ks, 0 ≤ x ∧ x < n) ∧ 0 ≤ e.2 ∧ e.2 < n ∧ ∀ (r : Addr) (ks2 : List Int), M r = none → ks2.Nodup → (∀ x, x ∈ ks2 ↔ Beh ps e ks x) → Q (.ref r) (mset M r (.dK (ks2.map kvT)))
theorem c_behind_entry {C_TB : Addr} (F : DFun K mg "behind_entry" s_behind_entry ["book", "contents", "entry"]) (B : Bn mg) (G : Gs mg) (c_tied_of : DCal P w K mg base CX0 1 "tied_of" (sp_tied_of C_TB)) : DCal P w K mg base CX0 2 "behind_entry" (sp_behind_entry C_TB) := by
  refine dok F sc_behind_entry (fun ds M Q E h => (by obtain ⟨_, h⟩ := h; first | (obtain ⟨e, _⟩ := h; subst e; rfl) | (obtain ⟨_, e, _⟩ := h; subst e; rfl) | (obtain ⟨_, _, e, _⟩ := h; subst e; rfl) | (obtain ⟨_, _, _, e, _⟩ := h; subst e; rfl) | (obtain ⟨_, _, _, _, e, _⟩ := h; subst e; rfl) | (obtain ⟨_, _, _, _, _, e, _⟩ := h; subst e; rfl) | (obtain ⟨_, _, _, _, _, _, e, _⟩ := h; subst e; rfl) | (obtain ⟨_, _, _, _, _, _, _, e, _⟩ := h; subst e; rfl) | (obtain ⟨_, _, _, _, _, _, _, _, e, _⟩ := h; subst e; rfl) | (obtain ⟨_, _, _, _, _, _, _, _, _, e, _⟩ := h; subst e; rfl) | (obtain ⟨_, _, _, _, _, _, _, _, _, _, e, _⟩ := h; subst e; rfl) | (obtain ⟨_, _, _, _, _, _, _, _, _, _, _, e, _⟩ := h; subst e; rfl) | (obtain ⟨_, _, _, _, _, _, _, _, _, _, _, _, e, _⟩ := h; subst e; rfl) | (obtain ⟨_, _, _, _, _, _, _, _, _, _, _, _, _, e, _⟩ := h; subst e; rfl) | (obtain ⟨_, _, _, _, _, _, _, _, _, _, _, _, _, _, e, _⟩ := h; subst e; rfl) | (obtain ⟨_, _, _, _, _, _, _, _, _, _, _, _, _, _, _, e, _⟩ := h; subst e; rfl) | (obtain ⟨_, _, _, _, _, _, _, _, _, _, _, _, _, _, _, _, e, _⟩ := h; subst e; rfl) | (obtain ⟨_, _, _, _, _, _, _, _, _, _, _, _, _, _, _, _, _, e, _⟩ := h; subst e; rfl) | (obtain ⟨_, _, _, _, _, _, _, _, _, _, _, _, _, _, _, _, _, _, e, _⟩ := h; subst e; rfl) | (obtain ⟨_, _, _, _, _, _, _, _, _, _, _, _, _, _, _, _, _, _, _, e, _⟩ := h; subst e; rfl) | (obtain ⟨_, _, _, _, _, _, _, _, _, _, _, _, _, _, _, _, _, _, _, _, e, _⟩ := h; subst e; rfl) | (obtain ⟨_, _, _, _, _, _, _, _, _, _, _, _, _, _, _, _, _, _, _, _, _, e, _⟩ := h; subst e; rfl) | (obtain ⟨_, _, _, _, _, _, _, _, _, _, _, _, _, _, _, _, _, _, _, _, _, _, e, _⟩ := h; subst e; rfl) | (obtain ⟨_, _, _, _, _, _, _, _, _, _, _, _, _, _, _, _, _, _, _, _, _, _, _, e, _⟩ := h; subst e; rfl) | (obtain ⟨_, _, _, _, _, _, _, _, _, _, _, _, _, _, _, _, _, _, _, _, _, _, _, _, e, _⟩ := h; subst e; rfl) | (obtain ⟨_, _, _, _, _, _, _, _, _, _, _, _, _, _, _, _, _, _, _, _, _, _, _, _, _, e, _⟩ := h; subst e; rfl))) (fun f cdv A outer s H E F0 hr => ?_)
  have nd := (sc_behind_entry).nd
  refine ⟨_, _, (db_cons (ds_asg (de_var 2) (dg_tup (n := 2) rfl (dgs_cons (dg_name 3 nd) (dgs_cons (dg_name 4 nd) dgs_nil))))
      (db_cons (ds_if (dt_eq hr (de_var 3) de_str) (db_one (ds_ret (de_ifExp (dt_in hr (de_var 4) (de_var 1)) (de_disp (dpp_cons (de_var 4) de_bl dpp_nil)) de_newK))) db_nil)
      (db_cons (ds_set 5 nd de_newK)
      (db_cons (ds_forL PassesOwn.never rfl (dil_keys (de_var 1)) (dg_name 6 nd) (db_one (ds_if (dt_in hr (de_var 4) (de_ix hr (de_call c_tied_of hr (goes0A (E := DXK.no)) (da_cons (de_var 0) da_nil)) (de_var 6))) (db_cons (ds_put hr (de_var 5) (de_var 6) de_bl)
      (db_one (ds_put hr (de_var 5) (de_var 4) de_bl))) db_nil)))
      (db_one (ds_ret (de_var 5))))))), ?_⟩
  rintro ds M Q E ⟨b, n, ps, d, ks, ⟨w, c⟩, rfl, B, nd, rg, c0, c1, q⟩
  have kl : ks.length ≤ 8 := by
    have := nodup_len nd (m := allOf n) fun x hx => allOf_mem.mpr (rg x hx)
    rw [allOf_len] at this
    have := B.ok.hi
    omega
  simp only [entD]
  refine dSeq_then (fun γ' M' => γ' = [some (.ref b), some (conD ks), some (.tup [.str (if w = true then "order" else "read"), .int c]), some (.str (if w = true then "order" else "read")), some (.int c), none, none] ∧ M' = M) (fun nx hn => ?_) (fun γ1 M1 h => ?_)
  · simp only [dVar, dC, dOp, dTest, dII, dIC, dFld, dFldS, dMake, dProp, dLcM, toM, dppNil, dppCons, dMerge, dDisp, dCatL, dRep, dRepM, dExtend, dChain, dEq, dAnd, dOr, dNot, dIfE, dNext, dSeq, dDrop, dRet, dIfS, dNever, dFrz, hName, hNil, hCons, hTup, hSub, dAsg, dAug, dipI, dNil, dCons, dTup, dLst, dLstM, dIx, dSet, dCall, dwipe, dYes, jSeq, jRng1, jRng2, dCB, dLen, dList, dListM, dTuple, dAbs, dInt, dBM0, dBM, dAppend, dPop, dPopAt, dAndV, dNotV, dNeg, dIn, dNoPart, dPart, dSl, dSlM, dNewK, dIsi, dIsiT, dLc, dFor, dDc, dCallS, dRaise, dTry, dIsE, dSortD, dFrzE, jKeys, dIndexD, dEqS, dReprG, if_true, if_false, ite_true, ite_false, Bool.false_eq_true, reduceIte, Bool.not_true, Bool.not_false, List.getElem?_cons_zero, List.getElem?_cons_succ, List.set_cons_zero, List.set_cons_succ, List.map_cons, List.map_nil, List.replicate, List.cons_append, List.nil_append, List.length_cons, List.length_nil, dstart]
    exact ⟨trivial, hn _ _ ⟨rfl, rfl⟩⟩
  obtain ⟨rfl, rfl⟩ := h
  refine dSeq_then (fun γ' M' => γ' = [some (.ref b), some (conD ks), some (.tup [.str (if w = true then "order" else "read"), .int c]), some (.str (if w = true then "order" else "read")), some (.int c), none, none] ∧ M' = M1 ∧ w = true) (fun nx hn => ?_) (fun γ2 M2 h => ?_)
  · simp only [dVar, dC, dOp, dTest, dII, dIC, dFld, dFldS, dMake, dProp, dLcM, toM, dppNil, dppCons, dMerge, dDisp, dCatL, dRep, dRepM, dExtend, dChain, dEq, dAnd, dOr, dNot, dIfE, dNext, dSeq, dDrop, dRet, dIfS, dNever, dFrz, hName, hNil, hCons, hTup, hSub, dAsg, dAug, dipI, dNil, dCons, dTup, dLst, dLstM, dIx, dSet, dCall, dwipe, dYes, jSeq, jRng1, jRng2, dCB, dLen, dList, dListM, dTuple, dAbs, dInt, dBM0, dBM, dAppend, dPop, dPopAt, dAndV, dNotV, dNeg, dIn, dNoPart, dPart, dSl, dSlM, dNewK, dIsi, dIsiT, dLc, dFor, dDc, dCallS, dRaise, dTry, dIsE, dSortD, dFrzE, jKeys, dIndexD, dEqS, dReprG, if_true, if_false, ite_true, ite_false, Bool.false_eq_true, reduceIte, Bool.not_true, Bool.not_false, List.getElem?_cons_zero, List.getElem?_cons_succ, List.set_cons_zero, List.set_cons_succ, List.map_cons, List.map_nil, List.replicate, List.cons_append, List.nil_append, List.length_cons, List.length_nil, dstart]
    refine ⟨by cases w <;> decide +kernel, by decide +kernel, ?_⟩
    cases w with
    | true =>
      have e : D.eq (.str (if (true : Bool) = true then "order" else "read")) (.str "read") = false := by rw [D.eq_str]; decide +kernel
      rw [if_neg (by rw [e]; exact Bool.false_ne_true)]
      exact hn _ _ ⟨rfl, rfl, rfl⟩
    | false =>
      have e : D.eq (.str (if (false : Bool) = true then "order" else "read")) (.str "read") = true := by rw [D.eq_str]; decide +kernel
      rw [if_pos e]
      refine ⟨_, con_has, ?_⟩
      by_cases hc : c ∈ ks
      · simp only [decide_eq_true hc, if_true]
        exact fun r hr => ⟨_, rfl, fun _ => ⟨by decide, fin_self (q r [c] hr (by simp) fun x => by unfold Beh; simp [hc])⟩⟩
      · simp only [decide_eq_false hc, Bool.false_eq_true, if_false]
        exact fun r hr => fin_self (q r [] hr (by simp) fun x => by unfold Beh; simp [hc])
  obtain ⟨rfl, rfl, rfl⟩ := h
  have eqg : (if (true : Bool) = true then ("order" : Str) else "read") = "order" := rfl
  rw [eqg]
  refine dSeq_then (fun γ' M' => ∃ r, γ' = [some (.ref b), some (conD ks), some (.tup [.str "order", .int c]), some (.str "order"), some (.int c), some (.ref r), none] ∧ M2 r = none ∧ M' = mset M2 r (.dK [])) (fun nx hn => ?_) (fun γ3 M3 h => ?_)
  · simp only [dVar, dC, dOp, dTest, dII, dIC, dFld, dFldS, dMake, dProp, dLcM, toM, dppNil, dppCons, dMerge, dDisp, dCatL, dRep, dRepM, dExtend, dChain, dEq, dAnd, dOr, dNot, dIfE, dNext, dSeq, dDrop, dRet, dIfS, dNever, dFrz, hName, hNil, hCons, hTup, hSub, dAsg, dAug, dipI, dNil, dCons, dTup, dLst, dLstM, dIx, dSet, dCall, dwipe, dYes, jSeq, jRng1, jRng2, dCB, dLen, dList, dListM, dTuple, dAbs, dInt, dBM0, dBM, dAppend, dPop, dPopAt, dAndV, dNotV, dNeg, dIn, dNoPart, dPart, dSl, dSlM, dNewK, dIsi, dIsiT, dLc, dFor, dDc, dCallS, dRaise, dTry, dIsE, dSortD, dFrzE, jKeys, dIndexD, dEqS, dReprG, if_true, if_false, ite_true, ite_false, Bool.false_eq_true, reduceIte, Bool.not_true, Bool.not_false, List.getElem?_cons_zero, List.getElem?_cons_succ, List.set_cons_zero, List.set_cons_succ, List.map_cons, List.map_nil, List.replicate, List.cons_append, List.nil_append, List.length_cons, List.length_nil, dstart]
    exact fun r hr => hn _ _ ⟨r, rfl, hr, rfl⟩
  obtain ⟨r, rfl, hr, rfl⟩ := h
  have ex : ∀ o, Ext M2 (mset M2 r o) [] := fun o => (Ext.refl M2 []).mset hr
  refine dSeq_then (fun γ' M' => ∃ (o6 : Option D) (k2 : List Int), γ' = [some (.ref b), some (conD ks), some (.tup [.str "order", .int c]), some (.str "order"), some (.int c), some (.ref r), o6] ∧ M' = mset M2 r (.dK (k2.map kvT)) ∧ k2.Nodup ∧ ∀ x, x ∈ k2 ↔ Beh ps (true, c) ks x) (fun nx hn => ?_) (fun γ4 M4 h => ?_)
  · have ei : (ks.map fun x => (.inl x : Key)).map keyD = ks.map .int := by rw [List.map_map]; rfl
    show dForI _ _ _ _ ((ks.map fun x => (.inl x : Key)).map keyD) _
    rw [ei]
    refine dForI_of (fun i γ M' => ∃ (o6 : Option D) (k2 : List Int), γ = [some (.ref b), some (conD ks), some (.tup [.str "order", .int c]), some (.str "order"), some (.int c), some (.ref r), o6] ∧ M' = mset M2 r (.dK (k2.map kvT)) ∧ k2.Nodup ∧ (∀ x, x ∈ k2 ↔ Beh ps (true, c) (ks.take i) x) ∧ k2.length ≤ 2 * i) ⟨none, [], rfl, rfl, by simp, fun x => by unfold Beh; simp, by simp⟩ ?_ ?_
    · rintro i e γ M' he ⟨o6, k2, rfl, rfl, nd2, mem, len⟩
      obtain ⟨x, hx, rfl⟩ := get_int he
      have hi := (List.getElem?_eq_some_iff.mp hx).1
      have xr := rg x (List.mem_of_getElem? hx)
      have B2 := B.ext (ex (.dK (k2.map kvT))) (by simp) (by simp)
      have et := take_succ_of hx
      simp only [dVar, dC, dOp, dTest, dII, dIC, dFld, dFldS, dMake, dProp, dLcM, toM, dppNil, dppCons, dMerge, dDisp, dCatL, dRep, dRepM, dExtend, dChain, dEq, dAnd, dOr, dNot, dIfE, dNext, dSeq, dDrop, dRet, dIfS, dNever, dFrz, hName, hNil, hCons, hTup, hSub, dAsg, dAug, dipI, dNil, dCons, dTup, dLst, dLstM, dIx, dSet, dCall, dwipe, dYes, jSeq, jRng1, jRng2, dCB, dLen, dList, dListM, dTuple, dAbs, dInt, dBM0, dBM, dAppend, dPop, dPopAt, dAndV, dNotV, dNeg, dIn, dNoPart, dPart, dSl, dSlM, dNewK, dIsi, dIsiT, dLc, dFor, dDc, dCallS, dRaise, dTry, dIsE, dSortD, dFrzE, jKeys, dIndexD, dEqS, dReprG, if_true, if_false, ite_true, ite_false, Bool.false_eq_true, reduceIte, Bool.not_true, Bool.not_false, List.getElem?_cons_zero, List.getElem?_cons_succ, List.set_cons_zero, List.set_cons_succ, List.map_cons, List.map_nil, List.replicate, List.cons_append, List.nil_append, List.length_cons, List.length_nil, dstart]
      refine ⟨b, n, ps, d, rfl, B2, .tup ((srt (nbr ps x)).map .int), rowsD_get xr.1 xr.2, decide (c ∈ srt (nbr ps x)), by simp only [inV', ok_int, D.ok, okL_int, and_self, if_true, any_int], ?_⟩
      by_cases hc : c ∈ nbr ps x
      · rw [decide_eq_true (srt_mem.mpr hc)]
        simp only [if_true, if_false, ite_true, ite_false, Bool.false_eq_true, reduceIte, Bool.not_true, Bool.not_false, List.getElem?_cons_zero, List.getElem?_cons_succ, List.set_cons_zero, List.set_cons_succ, List.map_cons, List.map_nil, List.replicate, List.cons_append, List.nil_append, List.length_cons, List.length_nil, dstart]
        obtain ⟨k3, s3, m3, n3, l3⟩ := store_kvT (x := x) (mset_same (M := M2) (a := r) (o := .dK (k2.map kvT))) (by omega)
        refine ⟨_, s3, ?_⟩
        obtain ⟨k4, s4, m4, n4, l4⟩ := store_kvT (x := c) (mset_same (M := mset M2 r (.dK (k2.map kvT))) (a := r) (o := .dK (k3.map kvT))) (by omega)
        refine ⟨_, s4, _, k4, rfl, by rw [mset_mset, mset_mset], n4 (n3 nd2), fun y => ?_, by omega⟩
        rw [m4, m3, mem, et]
        unfold Beh
        simp only [if_true, List.mem_append, List.mem_singleton]
        constructor
        · rintro ((⟨o, h1, h2, h3⟩ | h) | h)
          · exact ⟨o, .inl h1, h2, h3⟩
          · exact ⟨x, .inr rfl, hc, .inl h⟩
          · exact ⟨x, .inr rfl, hc, .inr h⟩
        · rintro ⟨o, h1 | rfl, h2, h3⟩
          · exact .inl (.inl ⟨o, h1, h2, h3⟩)
          · rcases h3 with h | h
            · exact .inl (.inr h)
            · exact .inr h
      · rw [decide_eq_false fun z => hc (srt_mem.mp z)]
        simp only [if_true, if_false, ite_true, ite_false, Bool.false_eq_true, reduceIte, Bool.not_true, Bool.not_false, List.getElem?_cons_zero, List.getElem?_cons_succ, List.set_cons_zero, List.set_cons_succ, List.map_cons, List.map_nil, List.replicate, List.cons_append, List.nil_append, List.length_cons, List.length_nil, dstart]
        refine ⟨_, k2, rfl, rfl, nd2, fun y => ?_, by omega⟩
        rw [mem, et]
        unfold Beh
        simp only [if_true, List.mem_append, List.mem_singleton]
        constructor
        · rintro ⟨o, h1, h2, h3⟩; exact ⟨o, .inl h1, h2, h3⟩
        · rintro ⟨o, h1 | rfl, h2, h3⟩
          · exact ⟨o, h1, h2, h3⟩
          · exact absurd h2 hc
    · rintro γ M' ⟨o6, k2, rfl, rfl, nd2, mem, len⟩
      rw [List.length_map, List.take_length] at mem
      exact hn _ _ ⟨o6, k2, rfl, rfl, nd2, mem⟩
  obtain ⟨o6, k2, rfl, rfl, nd2, mem⟩ := h
  simp only [dVar, dC, dOp, dTest, dII, dIC, dFld, dFldS, dMake, dProp, dLcM, toM, dppNil, dppCons, dMerge, dDisp, dCatL, dRep, dRepM, dExtend, dChain, dEq, dAnd, dOr, dNot, dIfE, dNext, dSeq, dDrop, dRet, dIfS, dNever, dFrz, hName, hNil, hCons, hTup, hSub, dAsg, dAug, dipI, dNil, dCons, dTup, dLst, dLstM, dIx, dSet, dCall, dwipe, dYes, jSeq, jRng1, jRng2, dCB, dLen, dList, dListM, dTuple, dAbs, dInt, dBM0, dBM, dAppend, dPop, dPopAt, dAndV, dNotV, dNeg, dIn, dNoPart, dPart, dSl, dSlM, dNewK, dIsi, dIsiT, dLc, dFor, dDc, dCallS, dRaise, dTry, dIsE, dSortD, dFrzE, jKeys, dIndexD, dEqS, dReprG, if_true, if_false, ite_true, ite_false, Bool.false_eq_true, reduceIte, Bool.not_true, Bool.not_false, List.getElem?_cons_zero, List.getElem?_cons_succ, List.set_cons_zero, List.set_cons_succ, List.map_cons, List.map_nil, List.replicate, List.cons_append, List.nil_append, List.length_cons, List.length_nil, dstart]
  exact fin_self (q r k2 hr nd2 mem)
theorem sc_standings_behind : FnScope ["book", "first", "log", "found", "entry"] ["book", "first", "log"] (defScope s_standings_behind) := ⟨rfl, rfl, rfl, by decide +kernel, rfl, by decide +kernel, by decide +kernel⟩
def sp_standings_behind (C_TB : Addr) : DSp := fun ds M Q _ => ∃ b n ps d f th es, ds = [.ref b, .int f, th] ∧ isLg th es ∧ BookAt C_TB M b n ps d ∧ 0 ≤ f ∧ f < n ∧ es.length ≤ 40 ∧ (∀ e ∈ es, 0 ≤ e.2 ∧ e.2 < n) ∧ ∀ ks : List Int, ks.Nodup → (∀ x, x ∈ ks ↔ fwd ps (fun x => x = f) es x) → Q (.lst ((srt ks).map .int)) M
theorem c_standings_behind {C_TB : Addr} (F : DFun K mg "standings_behind" s_standings_behind ["book", "first", "log"]) (B : Bn mg) (G : Gs mg) (c_behind_entry : DCal P w K mg base CX0 2 "behind_entry" (sp_behind_entry C_TB)) : DCal P w K mg base CX0 3 "standings_behind" (sp_standings_behind C_TB) := by
  refine dok F sc_standings_behind (fun ds M Q E h => (by obtain ⟨_, h⟩ := h; first | (obtain ⟨e, _⟩ := h; subst e; rfl) | (obtain ⟨_, e, _⟩ := h; subst e; rfl) | (obtain ⟨_, _, e, _⟩ := h; subst e; rfl) | (obtain ⟨_, _, _, e, _⟩ := h; subst e; rfl) | (obtain ⟨_, _, _, _, e, _⟩ := h; subst e; rfl) | (obtain ⟨_, _, _, _, _, e, _⟩ := h; subst e; rfl) | (obtain ⟨_, _, _, _, _, _, e, _⟩ := h; subst e; rfl) | (obtain ⟨_, _, _, _, _, _, _, e, _⟩ := h; subst e; rfl) | (obtain ⟨_, _, _, _, _, _, _, _, e, _⟩ := h; subst e; rfl) | (obtain ⟨_, _, _, _, _, _, _, _, _, e, _⟩ := h; subst e; rfl) | (obtain ⟨_, _, _, _, _, _, _, _, _, _, e, _⟩ := h; subst e; rfl) | (obtain ⟨_, _, _, _, _, _, _, _, _, _, _, e, _⟩ := h; subst e; rfl) | (obtain ⟨_, _, _, _, _, _, _, _, _, _, _, _, e, _⟩ := h; subst e; rfl) | (obtain ⟨_, _, _, _, _, _, _, _, _, _, _, _, _, e, _⟩ := h; subst e; rfl) | (obtain ⟨_, _, _, _, _, _, _, _, _, _, _, _, _, _, e, _⟩ := h; subst e; rfl) | (obtain ⟨_, _, _, _, _, _, _, _, _, _, _, _, _, _, _, e, _⟩ := h; subst e; rfl) | (obtain ⟨_, _, _, _, _, _, _, _, _, _, _, _, _, _, _, _, e, _⟩ := h; subst e; rfl) | (obtain ⟨_, _, _, _, _, _, _, _, _, _, _, _, _, _, _, _, _, e, _⟩ := h; subst e; rfl) | (obtain ⟨_, _, _, _, _, _, _, _, _, _, _, _, _, _, _, _, _, _, e, _⟩ := h; subst e; rfl) | (obtain ⟨_, _, _, _, _, _, _, _, _, _, _, _, _, _, _, _, _, _, _, e, _⟩ := h; subst e; rfl) | (obtain ⟨_, _, _, _, _, _, _, _, _, _, _, _, _, _, _, _, _, _, _, _, e, _⟩ := h; subst e; rfl) | (obtain ⟨_, _, _, _, _, _, _, _, _, _, _, _, _, _, _, _, _, _, _, _, _, e, _⟩ := h; subst e; rfl) | (obtain ⟨_, _, _, _, _, _, _, _, _, _, _, _, _, _, _, _, _, _, _, _, _, _, e, _⟩ := h; subst e; rfl) | (obtain ⟨_, _, _, _, _, _, _, _, _, _, _, _, _, _, _, _, _, _, _, _, _, _, _, e, _⟩ := h; subst e; rfl) | (obtain ⟨_, _, _, _, _, _, _, _, _, _, _, _, _, _, _, _, _, _, _, _, _, _, _, _, e, _⟩ := h; subst e; rfl) | (obtain ⟨_, _, _, _, _, _, _, _, _, _, _, _, _, _, _, _, _, _, _, _, _, _, _, _, _, e, _⟩ := h; subst e; rfl))) (fun f cdv A outer s H E F0 hr => ?_)
  have nd := (sc_standings_behind).nd
  refine ⟨_, _, (db_cons (ds_set 3 nd (de_frzA (de_disp (dpp_cons (de_var 1) de_bl dpp_nil))))
      (db_cons (ds_for PassesOwn.never rfl (di_seq (de_var 2)) (dg_name 4 nd) (db_one (ds_set 3 nd (de_frzA (de_call c_behind_entry hr (goes0A (E := DXK.no)) (da_cons (de_var 0) (da_cons (de_var 3) (da_cons (de_var 4) da_nil))))))))
      (db_one (ds_ret (de_sortD B.sorted (da_cons (de_var 3) da_nil)))))), ?_⟩
  rintro ds M Q E ⟨b, n, ps, d, f, th, es, rfl, hth, B, f0, f1, e40, er, q⟩
  refine dSeq_then (fun γ' M' => γ' = [some (.ref b), some (.int f), some th, some (conD [f]), none] ∧ M' = M) (fun nx hn => ?_) (fun γ1 M1 h => ?_)
  · simp only [dVar, dC, dOp, dTest, dII, dIC, dFld, dFldS, dMake, dProp, dLcM, toM, dppNil, dppCons, dMerge, dDisp, dCatL, dRep, dRepM, dExtend, dChain, dEq, dAnd, dOr, dNot, dIfE, dNext, dSeq, dDrop, dRet, dIfS, dNever, dFrz, hName, hNil, hCons, hTup, hSub, dAsg, dAug, dipI, dNil, dCons, dTup, dLst, dLstM, dIx, dSet, dCall, dwipe, dYes, jSeq, jRng1, jRng2, dCB, dLen, dList, dListM, dTuple, dAbs, dInt, dBM0, dBM, dAppend, dPop, dPopAt, dAndV, dNotV, dNeg, dIn, dNoPart, dPart, dSl, dSlM, dNewK, dIsi, dIsiT, dLc, dFor, dDc, dCallS, dRaise, dTry, dIsE, dSortD, dFrzE, jKeys, dIndexD, dEqS, dReprG, if_true, if_false, ite_true, ite_false, Bool.false_eq_true, reduceIte, Bool.not_true, Bool.not_false, List.getElem?_cons_zero, List.getElem?_cons_succ, List.set_cons_zero, List.set_cons_succ, List.map_cons, List.map_nil, List.replicate, List.cons_append, List.nil_append, List.length_cons, List.length_nil, dstart]
    refine fun r hr => ⟨_, rfl, fun _ => ⟨by decide, conD [f], M, ?_, hn _ _ ⟨rfl, rfl⟩⟩⟩
    rw [show dput ([] : List (Key × D)) (.inl f) (.bl true) = [f].map kvT from rfl]
    simp only [frzV, mset_same, con_eq, mdel_mset hr]
  obtain ⟨rfl, rfl⟩ := h
  have hl : (es.map entD).length ≤ sizeLine := by rw [List.length_map]; exact len_ok (by omega)
  refine dSeq_then (fun γ' M' => ∃ (o4 : Option D) (ks : List Int), γ' = [some (.ref b), some (.int f), some th, some (conD ks), o4] ∧ M' = M1 ∧ ks.Nodup ∧ (∀ x ∈ ks, 0 ≤ x ∧ x < n) ∧ ∀ x, x ∈ ks ↔ fwd ps (fun x => x = f) es x) (fun nx hn => ?_) (fun γ2 M2 h => ?_)
  · have goal : dForI (hName 4) (dAsg (dFrzE (dCall (sp_behind_entry C_TB) DXK.no (dCons (dVar 0) (dCons (dVar 3) (dCons (dVar 4) dNil))))) (hName 3)) { nx := nx, rt := fin Q } [some (.ref b), some (.int f), some th, some (conD [f]), none] (es.map entD) M1 := by
      refine dForI_of (fun i γ M' => ∃ (o4 : Option D) (ks : List Int), γ = [some (.ref b), some (.int f), some th, some (conD ks), o4] ∧ M' = M1 ∧ ks.Nodup ∧ (∀ x ∈ ks, 0 ≤ x ∧ x < n) ∧ ∀ x, x ∈ ks ↔ fwd ps (fun x => x = f) (es.take i) x) ⟨none, [f], rfl, rfl, by simp, fun x hx => by rw [List.mem_singleton.mp hx]; exact ⟨f0, f1⟩, fun x => by simp [fwd]⟩ ?_ ?_
      · rintro i e γ M' he ⟨o4, ks, rfl, rfl, nd, rg, mem⟩
        obtain ⟨en, hen, rfl⟩ := get_ent he
        have hr := er _ (List.mem_of_getElem? hen)
        simp only [dVar, dC, dOp, dTest, dII, dIC, dFld, dFldS, dMake, dProp, dLcM, toM, dppNil, dppCons, dMerge, dDisp, dCatL, dRep, dRepM, dExtend, dChain, dEq, dAnd, dOr, dNot, dIfE, dNext, dSeq, dDrop, dRet, dIfS, dNever, dFrz, hName, hNil, hCons, hTup, hSub, dAsg, dAug, dipI, dNil, dCons, dTup, dLst, dLstM, dIx, dSet, dCall, dwipe, dYes, jSeq, jRng1, jRng2, dCB, dLen, dList, dListM, dTuple, dAbs, dInt, dBM0, dBM, dAppend, dPop, dPopAt, dAndV, dNotV, dNeg, dIn, dNoPart, dPart, dSl, dSlM, dNewK, dIsi, dIsiT, dLc, dFor, dDc, dCallS, dRaise, dTry, dIsE, dSortD, dFrzE, jKeys, dIndexD, dEqS, dReprG, if_true, if_false, ite_true, ite_false, Bool.false_eq_true, reduceIte, Bool.not_true, Bool.not_false, List.getElem?_cons_zero, List.getElem?_cons_succ, List.set_cons_zero, List.set_cons_succ, List.map_cons, List.map_nil, List.replicate, List.cons_append, List.nil_append, List.length_cons, List.length_nil, dstart]
        refine ⟨b, n, ps, d, ks, en, rfl, B, nd, rg, hr.1, hr.2, fun r ks2 hr2 nd2 mem2 => ⟨conD ks2, M', by simp only [frzV, mset_same, con_eq, mdel_mset hr2], _, ks2, rfl, rfl, nd2, fun x hx => ?_, fun x => ?_⟩⟩
        · have := (mem2 x).mp hx
          unfold Beh at this
          split at this
          · obtain ⟨o, h1, h2, h3 | h3⟩ := this
            · rw [h3]; exact rg o h1
            · rw [h3]; exact hr
          · rw [this.1]; exact hr
        · rw [mem2, take_succ_of hen]
          have e : (fun x => x ∈ ks) = fwd ps (fun x => x = f) (es.take i) := funext fun x => propext (mem x)
          unfold fwd at e ⊢
          rw [List.foldl_append, ← e]
          exact Iff.rfl
      · rintro γ M' ⟨o4, ks, rfl, rfl, nd, rg, mem⟩
        rw [List.length_map, List.take_length] at mem
        exact hn _ _ ⟨o4, ks, rfl, rfl, nd, rg, mem⟩
    rcases hth with rfl | rfl
    · exact goal
    · exact goal
  obtain ⟨o4, ks, rfl, rfl, nd, rg, mem⟩ := h
  have kl : ks.length ≤ 8 := by
    have := nodup_len nd (m := allOf n) fun x hx => allOf_mem.mpr (rg x hx)
    rw [allOf_len] at this
    have := B.ok.hi
    omega
  simp only [dVar, dC, dOp, dTest, dII, dIC, dFld, dFldS, dMake, dProp, dLcM, toM, dppNil, dppCons, dMerge, dDisp, dCatL, dRep, dRepM, dExtend, dChain, dEq, dAnd, dOr, dNot, dIfE, dNext, dSeq, dDrop, dRet, dIfS, dNever, dFrz, hName, hNil, hCons, hTup, hSub, dAsg, dAug, dipI, dNil, dCons, dTup, dLst, dLstM, dIx, dSet, dCall, dwipe, dYes, jSeq, jRng1, jRng2, dCB, dLen, dList, dListM, dTuple, dAbs, dInt, dBM0, dBM, dAppend, dPop, dPopAt, dAndV, dNotV, dNeg, dIn, dNoPart, dPart, dSl, dSlM, dNewK, dIsi, dIsiT, dLc, dFor, dDc, dCallS, dRaise, dTry, dIsE, dSortD, dFrzE, jKeys, dIndexD, dEqS, dReprG, if_true, if_false, ite_true, ite_false, Bool.false_eq_true, reduceIte, Bool.not_true, Bool.not_false, List.getElem?_cons_zero, List.getElem?_cons_succ, List.set_cons_zero, List.set_cons_succ, List.map_cons, List.map_nil, List.replicate, List.cons_append, List.nil_append, List.length_cons, List.length_nil, dstart]
  exact ⟨ks, rfl, by omega, fun ns' h1 h2 => by rw [srt_uniq h1 h2]; exact fin_self (q ks nd mem)⟩
theorem sc_can_have_stood : FnScope ["book", "log", "first"] ["book", "log"] (defScope s_can_have_stood) := ⟨rfl, rfl, rfl, by decide +kernel, rfl, by decide +kernel, by decide +kernel⟩
def sp_can_have_stood (C_TB E_NoLog : Addr) : DSp := fun ds M Q E => ∃ b n ps d th, ds = [.ref b, th] ∧ BookAt C_TB M b n ps d ∧ LogSh th ∧ (logB n th = false → E (.ref E_NoLog) none M) ∧ (logB n th = true → ∀ l a, M a = none → Q (.ref a) (mset M a (.lst l)))
theorem c_can_have_stood {C_TB E_NoLog : Addr} (F : DFun K mg "can_have_stood" s_can_have_stood ["book", "log"]) (B : Bn mg) (G : Gs mg) (TB : Cl_TB K mg C_TB) (c_check_log : DCal P w K mg base (L2N.CX P w) 5 "check_log" (sp_check_log C_TB E_NoLog)) (c_standings_behind : DCal P w K mg base CX0 3 "standings_behind" (sp_standings_behind C_TB)) (TB_p_size : DPr P w K mg base 1 C_TB "size" (sp_Book_size C_TB)) : DCal P w K mg base (L2N.CX P w) 6 "can_have_stood" (sp_can_have_stood C_TB E_NoLog) := by
  refine dokX F sc_can_have_stood (fun ds M Q E h => (by obtain ⟨_, h⟩ := h; first | (obtain ⟨e, _⟩ := h; subst e; rfl) | (obtain ⟨_, e, _⟩ := h; subst e; rfl) | (obtain ⟨_, _, e, _⟩ := h; subst e; rfl) | (obtain ⟨_, _, _, e, _⟩ := h; subst e; rfl) | (obtain ⟨_, _, _, _, e, _⟩ := h; subst e; rfl) | (obtain ⟨_, _, _, _, _, e, _⟩ := h; subst e; rfl) | (obtain ⟨_, _, _, _, _, _, e, _⟩ := h; subst e; rfl) | (obtain ⟨_, _, _, _, _, _, _, e, _⟩ := h; subst e; rfl) | (obtain ⟨_, _, _, _, _, _, _, _, e, _⟩ := h; subst e; rfl) | (obtain ⟨_, _, _, _, _, _, _, _, _, e, _⟩ := h; subst e; rfl) | (obtain ⟨_, _, _, _, _, _, _, _, _, _, e, _⟩ := h; subst e; rfl) | (obtain ⟨_, _, _, _, _, _, _, _, _, _, _, e, _⟩ := h; subst e; rfl) | (obtain ⟨_, _, _, _, _, _, _, _, _, _, _, _, e, _⟩ := h; subst e; rfl) | (obtain ⟨_, _, _, _, _, _, _, _, _, _, _, _, _, e, _⟩ := h; subst e; rfl) | (obtain ⟨_, _, _, _, _, _, _, _, _, _, _, _, _, _, e, _⟩ := h; subst e; rfl) | (obtain ⟨_, _, _, _, _, _, _, _, _, _, _, _, _, _, _, e, _⟩ := h; subst e; rfl) | (obtain ⟨_, _, _, _, _, _, _, _, _, _, _, _, _, _, _, _, e, _⟩ := h; subst e; rfl) | (obtain ⟨_, _, _, _, _, _, _, _, _, _, _, _, _, _, _, _, _, e, _⟩ := h; subst e; rfl) | (obtain ⟨_, _, _, _, _, _, _, _, _, _, _, _, _, _, _, _, _, _, e, _⟩ := h; subst e; rfl) | (obtain ⟨_, _, _, _, _, _, _, _, _, _, _, _, _, _, _, _, _, _, _, e, _⟩ := h; subst e; rfl) | (obtain ⟨_, _, _, _, _, _, _, _, _, _, _, _, _, _, _, _, _, _, _, _, e, _⟩ := h; subst e; rfl) | (obtain ⟨_, _, _, _, _, _, _, _, _, _, _, _, _, _, _, _, _, _, _, _, _, e, _⟩ := h; subst e; rfl) | (obtain ⟨_, _, _, _, _, _, _, _, _, _, _, _, _, _, _, _, _, _, _, _, _, _, e, _⟩ := h; subst e; rfl) | (obtain ⟨_, _, _, _, _, _, _, _, _, _, _, _, _, _, _, _, _, _, _, _, _, _, _, e, _⟩ := h; subst e; rfl) | (obtain ⟨_, _, _, _, _, _, _, _, _, _, _, _, _, _, _, _, _, _, _, _, _, _, _, _, e, _⟩ := h; subst e; rfl) | (obtain ⟨_, _, _, _, _, _, _, _, _, _, _, _, _, _, _, _, _, _, _, _, _, _, _, _, _, e, _⟩ := h; subst e; rfl))) (fun f cdv A outer s H E F0 E1 hr hE => ?_)
  have nd := (sc_can_have_stood).nd
  have tk : L2N.Takes (cxOf (L2N.CX P w) P w K mg base ["book", "log", "first"] "can_have_stood" (defScope s_can_have_stood) f cdv A outer s H E) (lXW K F0 fun _ => E1) := takesX (L2N.takes_of rfl rfl rfl rfl) hE
  refine ⟨_, _, (db_cons (ds_expr (de_callS c_check_log hr tk (da_cons (de_var 0) (da_cons (de_var 1) da_nil))))
      (db_one (ds_ret (dx_lcM (own := [("first", 2)]) rfl nd (di_range1 B.range (da_cons (de_prop TB.cl TB_p_size hr (de_var 0)) da_nil)) (blkOk_by (N := ["book", "log", "first"]) (sc := defScope s_can_have_stood) (by decide +kernel)) (fun _ _ _ _ _ => ⟨_, (dg_name 2 nd), (gw_name (by decide))⟩) (fun _ _ _ _ _ => ⟨_, (dts_one (dt_gt (de_len B.len (da_cons (de_call c_standings_behind hr (goes0A (E := DXK.no)) (da_cons (de_var 0) (da_cons (de_var 2) (da_cons (de_var 1) da_nil)))) da_nil)) de_int))⟩) (fun _ _ _ _ _ => ⟨_, (de_var 2)⟩))))), ?_⟩
  rintro ds M Q ⟨b, n, ps, d, th, rfl, B, S, q1, q2⟩
  have n1 := B.ok.lo
  have n8 := B.ok.hi
  simp only [dVar, dC, dOp, dTest, dII, dIC, dFld, dFldS, dMake, dProp, dLcM, toM, dppNil, dppCons, dMerge, dDisp, dCatL, dRep, dRepM, dExtend, dChain, dEq, dAnd, dOr, dNot, dIfE, dNext, dSeq, dDrop, dRet, dIfS, dNever, dFrz, hName, hNil, hCons, hTup, hSub, dAsg, dAug, dipI, dNil, dCons, dTup, dLst, dLstM, dIx, dSet, dCall, dwipe, dYes, jSeq, jRng1, jRng2, dCB, dLen, dList, dListM, dTuple, dAbs, dInt, dBM0, dBM, dAppend, dPop, dPopAt, dAndV, dNotV, dNeg, dIn, dNoPart, dPart, dSl, dSlM, dNewK, dIsi, dIsiT, dLc, dFor, dDc, dCallS, dRaise, dTry, dIsE, dSortD, dFrzE, jKeys, dIndexD, dEqS, dReprG, if_true, if_false, ite_true, ite_false, Bool.false_eq_true, reduceIte, Bool.not_true, Bool.not_false, List.getElem?_cons_zero, List.getElem?_cons_succ, List.set_cons_zero, List.set_cons_succ, List.map_cons, List.map_nil, List.replicate, List.cons_append, List.nil_append, List.length_cons, List.length_nil, dstart]
  refine ⟨b, n, ps, d, th, rfl, B, S, fun hb => ?_, fun hb => q1 hb⟩
  obtain ⟨es, hth, e40, er⟩ := log_es hb
  refine ⟨⟨_, B.ob⟩, b, n, ps, d, rfl, B, by omega, by rw [rgD_len]; exact len_ok (by omega), fun i acc M' => M' = M ∧ acc.length ≤ i, ⟨rfl, by simp⟩, ?_, ?_⟩
  · rintro i dd acc M' hd ⟨rfl, hl⟩
    obtain ⟨hi, rfl⟩ := rgD_get hd
    simp only [dVar, dC, dOp, dTest, dII, dIC, dFld, dFldS, dMake, dProp, dLcM, toM, dppNil, dppCons, dMerge, dDisp, dCatL, dRep, dRepM, dExtend, dChain, dEq, dAnd, dOr, dNot, dIfE, dNext, dSeq, dDrop, dRet, dIfS, dNever, dFrz, hName, hNil, hCons, hTup, hSub, dAsg, dAug, dipI, dNil, dCons, dTup, dLst, dLstM, dIx, dSet, dCall, dwipe, dYes, jSeq, jRng1, jRng2, dCB, dLen, dList, dListM, dTuple, dAbs, dInt, dBM0, dBM, dAppend, dPop, dPopAt, dAndV, dNotV, dNeg, dIn, dNoPart, dPart, dSl, dSlM, dNewK, dIsi, dIsiT, dLc, dFor, dDc, dCallS, dRaise, dTry, dIsE, dSortD, dFrzE, jKeys, dIndexD, dEqS, dReprG, if_true, if_false, ite_true, ite_false, Bool.false_eq_true, reduceIte, Bool.not_true, Bool.not_false, List.getElem?_cons_zero, List.getElem?_cons_succ, List.set_cons_zero, List.set_cons_succ, List.map_cons, List.map_nil, List.replicate, List.cons_append, List.nil_append, List.length_cons, List.length_nil, dstart]
    refine ⟨b, n, ps, d, 0 + (i : Int), th, es, rfl, hth, B, by omega, by omega, e40, er, fun ks nd mk => ⟨(srt ks).length, by simp only [lenV, List.length_map], ?_⟩⟩
    by_cases h : (0 : Int) < (srt ks).length
    · simp only [decide_eq_true h, if_true, if_false, ite_true, ite_false, Bool.false_eq_true, reduceIte, Bool.not_true, Bool.not_false, List.getElem?_cons_zero, List.getElem?_cons_succ, List.set_cons_zero, List.set_cons_succ, List.map_cons, List.map_nil, List.replicate, List.cons_append, List.nil_append, List.length_cons, List.length_nil, dstart]
      exact ⟨trivial, by rw [List.length_append]; simp; omega⟩
    · simp only [decide_eq_false h, if_true, if_false, ite_true, ite_false, Bool.false_eq_true, reduceIte, Bool.not_true, Bool.not_false, List.getElem?_cons_zero, List.getElem?_cons_succ, List.set_cons_zero, List.set_cons_succ, List.map_cons, List.map_nil, List.replicate, List.cons_append, List.nil_append, List.length_cons, List.length_nil, dstart]
      exact ⟨trivial, by omega⟩
  · rintro acc M' ⟨rfl, hl⟩
    exact fun a ha => fin_self (q2 hb _ a ha)
theorem sc_check_contents : FnScope ["book", "contents", "content"] ["book", "contents"] (defScope s_check_contents) := ⟨rfl, rfl, rfl, by decide +kernel, rfl, by decide +kernel, by decide +kernel⟩
def sp_check_contents (C_TB E_NoContent : Addr) : DSp := fun ds M Q E => ∃ b n ps d, ∃ fs : List D, ds = [.ref b, .lst fs] ∧ BookAt C_TB M b n ps d ∧ (∀ f ∈ fs, anyD f = true) ∧ fs.length ≤ 1000 ∧ (cntB n fs = true → Q .non M) ∧ (cntB n fs = false → E (.ref E_NoContent) none M)
theorem c_check_contents {C_TB E_NoContent : Addr} (F : DFun K mg "check_contents" s_check_contents ["book", "contents"]) (B : Bn mg) (G : Gs mg) (TB : Cl_TB K mg C_TB) (c_is_index : DCal P w K mg base CX0 3 "is_index" sp_is_index) (XC_NoContent : ExCls K mg "NoContent" E_NoContent) (TB_p_size : DPr P w K mg base 1 C_TB "size" (sp_Book_size C_TB)) : DCal P w K mg base (L2N.CX P w) 4 "check_contents" (sp_check_contents C_TB E_NoContent) := by
  refine dokX F sc_check_contents (fun ds M Q E h => (by obtain ⟨_, h⟩ := h; first | (obtain ⟨e, _⟩ := h; subst e; rfl) | (obtain ⟨_, e, _⟩ := h; subst e; rfl) | (obtain ⟨_, _, e, _⟩ := h; subst e; rfl) | (obtain ⟨_, _, _, e, _⟩ := h; subst e; rfl) | (obtain ⟨_, _, _, _, e, _⟩ := h; subst e; rfl) | (obtain ⟨_, _, _, _, _, e, _⟩ := h; subst e; rfl) | (obtain ⟨_, _, _, _, _, _, e, _⟩ := h; subst e; rfl) | (obtain ⟨_, _, _, _, _, _, _, e, _⟩ := h; subst e; rfl) | (obtain ⟨_, _, _, _, _, _, _, _, e, _⟩ := h; subst e; rfl) | (obtain ⟨_, _, _, _, _, _, _, _, _, e, _⟩ := h; subst e; rfl) | (obtain ⟨_, _, _, _, _, _, _, _, _, _, e, _⟩ := h; subst e; rfl) | (obtain ⟨_, _, _, _, _, _, _, _, _, _, _, e, _⟩ := h; subst e; rfl) | (obtain ⟨_, _, _, _, _, _, _, _, _, _, _, _, e, _⟩ := h; subst e; rfl) | (obtain ⟨_, _, _, _, _, _, _, _, _, _, _, _, _, e, _⟩ := h; subst e; rfl) | (obtain ⟨_, _, _, _, _, _, _, _, _, _, _, _, _, _, e, _⟩ := h; subst e; rfl) | (obtain ⟨_, _, _, _, _, _, _, _, _, _, _, _, _, _, _, e, _⟩ := h; subst e; rfl) | (obtain ⟨_, _, _, _, _, _, _, _, _, _, _, _, _, _, _, _, e, _⟩ := h; subst e; rfl) | (obtain ⟨_, _, _, _, _, _, _, _, _, _, _, _, _, _, _, _, _, e, _⟩ := h; subst e; rfl) | (obtain ⟨_, _, _, _, _, _, _, _, _, _, _, _, _, _, _, _, _, _, e, _⟩ := h; subst e; rfl) | (obtain ⟨_, _, _, _, _, _, _, _, _, _, _, _, _, _, _, _, _, _, _, e, _⟩ := h; subst e; rfl) | (obtain ⟨_, _, _, _, _, _, _, _, _, _, _, _, _, _, _, _, _, _, _, _, e, _⟩ := h; subst e; rfl) | (obtain ⟨_, _, _, _, _, _, _, _, _, _, _, _, _, _, _, _, _, _, _, _, _, e, _⟩ := h; subst e; rfl) | (obtain ⟨_, _, _, _, _, _, _, _, _, _, _, _, _, _, _, _, _, _, _, _, _, _, e, _⟩ := h; subst e; rfl) | (obtain ⟨_, _, _, _, _, _, _, _, _, _, _, _, _, _, _, _, _, _, _, _, _, _, _, e, _⟩ := h; subst e; rfl) | (obtain ⟨_, _, _, _, _, _, _, _, _, _, _, _, _, _, _, _, _, _, _, _, _, _, _, _, e, _⟩ := h; subst e; rfl) | (obtain ⟨_, _, _, _, _, _, _, _, _, _, _, _, _, _, _, _, _, _, _, _, _, _, _, _, _, e, _⟩ := h; subst e; rfl))) (fun f cdv A outer s H E F0 E1 hr hE => ?_)
  have nd := (sc_check_contents).nd
  have tk : L2N.Takes (cxOf (L2N.CX P w) P w K mg base ["book", "contents", "content"] "check_contents" (defScope s_check_contents) f cdv A outer s H E) (lXW K F0 fun _ => E1) := takesX (L2N.takes_of rfl rfl rfl rfl) hE
  refine ⟨_, _, (db_one (ds_if (dt_not (dt_val (de_blt (cr_all rfl) lc_flags B.all (da_cons (dx_lc (own := [("content", 2)]) rfl nd (di_seq (de_var 1)) (blkOk_by (N := ["book", "contents", "content"]) (sc := defScope s_check_contents) (by decide +kernel)) (fun _ _ _ _ _ => ⟨_, (dg_name 2 nd), (gw_name (by decide))⟩) (fun _ _ _ _ _ => ⟨_, dts_nil⟩) (fun _ _ _ _ _ => ⟨_, (de_call c_is_index hr (goes0A (E := DXK.no)) (da_cons (de_var 2) (da_cons (de_prop TB.cl TB_p_size hr (de_var 0)) da_nil)))⟩)) da_nil)))) (db_one (ds_raise XC_NoContent rfl tk)) db_nil)), ?_⟩
  rintro ds M Q ⟨b, n, ps, d, fs, rfl, B, fa, fl, q1, q2⟩
  simp only [dVar, dC, dOp, dTest, dII, dIC, dFld, dFldS, dMake, dProp, dLcM, toM, dppNil, dppCons, dMerge, dDisp, dCatL, dRep, dRepM, dExtend, dChain, dEq, dAnd, dOr, dNot, dIfE, dNext, dSeq, dDrop, dRet, dIfS, dNever, dFrz, hName, hNil, hCons, hTup, hSub, dAsg, dAug, dipI, dNil, dCons, dTup, dLst, dLstM, dIx, dSet, dCall, dwipe, dYes, jSeq, jRng1, jRng2, dCB, dLen, dList, dListM, dTuple, dAbs, dInt, dBM0, dBM, dAppend, dPop, dPopAt, dAndV, dNotV, dNeg, dIn, dNoPart, dPart, dSl, dSlM, dNewK, dIsi, dIsiT, dLc, dFor, dDc, dCallS, dRaise, dTry, dIsE, dSortD, dFrzE, jKeys, dIndexD, dEqS, dReprG, if_true, if_false, ite_true, ite_false, Bool.false_eq_true, reduceIte, Bool.not_true, Bool.not_false, List.getElem?_cons_zero, List.getElem?_cons_succ, List.set_cons_zero, List.set_cons_succ, List.map_cons, List.map_nil, List.replicate, List.cons_append, List.nil_append, List.length_cons, List.length_nil, dstart]
  refine ⟨len_ok (by omega), dLcI_map (fun d => .bl (d.within 0 (n - 1))) (fun i e he Q2 q2 => ?_) ?_⟩
  · simp only [dVar, dC, dOp, dTest, dII, dIC, dFld, dFldS, dMake, dProp, dLcM, toM, dppNil, dppCons, dMerge, dDisp, dCatL, dRep, dRepM, dExtend, dChain, dEq, dAnd, dOr, dNot, dIfE, dNext, dSeq, dDrop, dRet, dIfS, dNever, dFrz, hName, hNil, hCons, hTup, hSub, dAsg, dAug, dipI, dNil, dCons, dTup, dLst, dLstM, dIx, dSet, dCall, dwipe, dYes, jSeq, jRng1, jRng2, dCB, dLen, dList, dListM, dTuple, dAbs, dInt, dBM0, dBM, dAppend, dPop, dPopAt, dAndV, dNotV, dNeg, dIn, dNoPart, dPart, dSl, dSlM, dNewK, dIsi, dIsiT, dLc, dFor, dDc, dCallS, dRaise, dTry, dIsE, dSortD, dFrzE, jKeys, dIndexD, dEqS, dReprG, if_true, if_false, ite_true, ite_false, Bool.false_eq_true, reduceIte, Bool.not_true, Bool.not_false, List.getElem?_cons_zero, List.getElem?_cons_succ, List.set_cons_zero, List.set_cons_succ, List.map_cons, List.map_nil, List.replicate, List.cons_append, List.nil_append, List.length_cons, List.length_nil, dstart]
    exact ⟨⟨_, B.ob⟩, b, n, ps, d, rfl, B, e, n, rfl, any_some (fa e (List.mem_of_getElem? he)), q2⟩
  · unfold dFlags
    refine ⟨fs.map fun d => d.within 0 (n - 1), by rw [List.map_map]; rfl, ?_⟩
    have e1 : (fs.map fun d => d.within 0 (n - 1)).all id = cntB n fs := by rw [List.all_map]; rfl
    simp only [e1]
    cases hb : cntB n fs with
    | true => simp only [if_true, if_false, ite_true, ite_false, Bool.false_eq_true, reduceIte, Bool.not_true, Bool.not_false, List.getElem?_cons_zero, List.getElem?_cons_succ, List.set_cons_zero, List.set_cons_succ, List.map_cons, List.map_nil, List.replicate, List.cons_append, List.nil_append, List.length_cons, List.length_nil, dstart]; exact fin_self (q1 hb)
    | false => simp only [if_true, if_false, ite_true, ite_false, Bool.false_eq_true, reduceIte, Bool.not_true, Bool.not_false, List.getElem?_cons_zero, List.getElem?_cons_succ, List.set_cons_zero, List.set_cons_succ, List.map_cons, List.map_nil, List.replicate, List.cons_append, List.nil_append, List.length_cons, List.length_nil, dstart]; exact q2 hb
theorem sc_can_stand : FnScope ["book", "first", "log"] ["book", "first", "log"] (defScope s_can_stand) := ⟨rfl, rfl, rfl, by decide +kernel, rfl, by decide +kernel, by decide +kernel⟩
def sp_can_stand (C_TB E_NoContent E_NoLog : Addr) : DSp := fun ds M Q E => ∃ b n ps d f th, ds = [.ref b, f, th] ∧ BookAt C_TB M b n ps d ∧ anyD f = true ∧ LogSh th ∧ (f.within 0 (n - 1) = false → E (.ref E_NoContent) none M) ∧ (f.within 0 (n - 1) = true → logB n th = false → E (.ref E_NoLog) none M) ∧ (f.within 0 (n - 1) = true → logB n th = true → ∀ l, Q (.lst l) M)
theorem c_can_stand {C_TB E_NoContent E_NoLog : Addr} (F : DFun K mg "can_stand" s_can_stand ["book", "first", "log"]) (B : Bn mg) (G : Gs mg) (c_check_contents : DCal P w K mg base (L2N.CX P w) 4 "check_contents" (sp_check_contents C_TB E_NoContent)) (c_check_log : DCal P w K mg base (L2N.CX P w) 5 "check_log" (sp_check_log C_TB E_NoLog)) (c_standings_behind : DCal P w K mg base CX0 3 "standings_behind" (sp_standings_behind C_TB)) : DCal P w K mg base (L2N.CX P w) 6 "can_stand" (sp_can_stand C_TB E_NoContent E_NoLog) := by
  refine dokX F sc_can_stand (fun ds M Q E h => (by obtain ⟨_, h⟩ := h; first | (obtain ⟨e, _⟩ := h; subst e; rfl) | (obtain ⟨_, e, _⟩ := h; subst e; rfl) | (obtain ⟨_, _, e, _⟩ := h; subst e; rfl) | (obtain ⟨_, _, _, e, _⟩ := h; subst e; rfl) | (obtain ⟨_, _, _, _, e, _⟩ := h; subst e; rfl) | (obtain ⟨_, _, _, _, _, e, _⟩ := h; subst e; rfl) | (obtain ⟨_, _, _, _, _, _, e, _⟩ := h; subst e; rfl) | (obtain ⟨_, _, _, _, _, _, _, e, _⟩ := h; subst e; rfl) | (obtain ⟨_, _, _, _, _, _, _, _, e, _⟩ := h; subst e; rfl) | (obtain ⟨_, _, _, _, _, _, _, _, _, e, _⟩ := h; subst e; rfl) | (obtain ⟨_, _, _, _, _, _, _, _, _, _, e, _⟩ := h; subst e; rfl) | (obtain ⟨_, _, _, _, _, _, _, _, _, _, _, e, _⟩ := h; subst e; rfl) | (obtain ⟨_, _, _, _, _, _, _, _, _, _, _, _, e, _⟩ := h; subst e; rfl) | (obtain ⟨_, _, _, _, _, _, _, _, _, _, _, _, _, e, _⟩ := h; subst e; rfl) | (obtain ⟨_, _, _, _, _, _, _, _, _, _, _, _, _, _, e, _⟩ := h; subst e; rfl) | (obtain ⟨_, _, _, _, _, _, _, _, _, _, _, _, _, _, _, e, _⟩ := h; subst e; rfl) | (obtain ⟨_, _, _, _, _, _, _, _, _, _, _, _, _, _, _, _, e, _⟩ := h; subst e; rfl) | (obtain ⟨_, _, _, _, _, _, _, _, _, _, _, _, _, _, _, _, _, e, _⟩ := h; subst e; rfl) | (obtain ⟨_, _, _, _, _, _, _, _, _, _, _, _, _, _, _, _, _, _, e, _⟩ := h; subst e; rfl) | (obtain ⟨_, _, _, _, _, _, _, _, _, _, _, _, _, _, _, _, _, _, _, e, _⟩ := h; subst e; rfl) | (obtain ⟨_, _, _, _, _, _, _, _, _, _, _, _, _, _, _, _, _, _, _, _, e, _⟩ := h; subst e; rfl) | (obtain ⟨_, _, _, _, _, _, _, _, _, _, _, _, _, _, _, _, _, _, _, _, _, e, _⟩ := h; subst e; rfl) | (obtain ⟨_, _, _, _, _, _, _, _, _, _, _, _, _, _, _, _, _, _, _, _, _, _, e, _⟩ := h; subst e; rfl) | (obtain ⟨_, _, _, _, _, _, _, _, _, _, _, _, _, _, _, _, _, _, _, _, _, _, _, e, _⟩ := h; subst e; rfl) | (obtain ⟨_, _, _, _, _, _, _, _, _, _, _, _, _, _, _, _, _, _, _, _, _, _, _, _, e, _⟩ := h; subst e; rfl) | (obtain ⟨_, _, _, _, _, _, _, _, _, _, _, _, _, _, _, _, _, _, _, _, _, _, _, _, _, e, _⟩ := h; subst e; rfl))) (fun f cdv A outer s H E F0 E1 hr hE => ?_)
  have nd := (sc_can_stand).nd
  have tk : L2N.Takes (cxOf (L2N.CX P w) P w K mg base ["book", "first", "log"] "can_stand" (defScope s_can_stand) f cdv A outer s H E) (lXW K F0 fun _ => E1) := takesX (L2N.takes_of rfl rfl rfl rfl) hE
  refine ⟨_, _, (db_cons (ds_expr (de_callS c_check_contents hr tk (da_cons (de_var 0) (da_cons (de_lst (da_cons (de_var 1) da_nil)) da_nil))))
      (db_cons (ds_expr (de_callS c_check_log hr tk (da_cons (de_var 0) (da_cons (de_var 2) da_nil))))
      (db_one (ds_ret (de_call c_standings_behind hr (goes0A (E := DXK.no)) (da_cons (de_var 0) (da_cons (de_var 1) (da_cons (de_var 2) da_nil)))))))), ?_⟩
  rintro ds M Q ⟨b, n, ps, d, f, th, rfl, B, fa, S, q1, q2, q3⟩
  simp only [dVar, dC, dOp, dTest, dII, dIC, dFld, dFldS, dMake, dProp, dLcM, toM, dppNil, dppCons, dMerge, dDisp, dCatL, dRep, dRepM, dExtend, dChain, dEq, dAnd, dOr, dNot, dIfE, dNext, dSeq, dDrop, dRet, dIfS, dNever, dFrz, hName, hNil, hCons, hTup, hSub, dAsg, dAug, dipI, dNil, dCons, dTup, dLst, dLstM, dIx, dSet, dCall, dwipe, dYes, jSeq, jRng1, jRng2, dCB, dLen, dList, dListM, dTuple, dAbs, dInt, dBM0, dBM, dAppend, dPop, dPopAt, dAndV, dNotV, dNeg, dIn, dNoPart, dPart, dSl, dSlM, dNewK, dIsi, dIsiT, dLc, dFor, dDc, dCallS, dRaise, dTry, dIsE, dSortD, dFrzE, jKeys, dIndexD, dEqS, dReprG, if_true, if_false, ite_true, ite_false, Bool.false_eq_true, reduceIte, Bool.not_true, Bool.not_false, List.getElem?_cons_zero, List.getElem?_cons_succ, List.set_cons_zero, List.set_cons_succ, List.map_cons, List.map_nil, List.replicate, List.cons_append, List.nil_append, List.length_cons, List.length_nil, dstart]
  have e1 : cntB n [f] = f.within 0 (n - 1) := by simp only [cntB, List.all_cons, List.all_nil, Bool.and_true]
  refine ⟨by decide, b, n, ps, d, [f], rfl, B, fun x hx => by rw [List.mem_singleton.mp hx]; exact fa, by simp, fun hc => ?_, fun hc => q1 (e1 ▸ hc)⟩
  rw [e1] at hc
  refine ⟨b, n, ps, d, th, rfl, B, S, fun hb => ?_, fun hb => q2 hc hb⟩
  obtain ⟨es, hth, e40, er⟩ := log_es hb
  obtain ⟨x, rfl, x0, x1⟩ := within_int hc
  exact ⟨b, n, ps, d, x, th, es, rfl, hth, B, x0, by omega, e40, er, fun ks _ _ => fin_self (q3 hc hb _)⟩
theorem sc_far_from : FnScope ["book", "wanted", "found", "waiting", "at", "other"] ["book", "wanted"] (defScope s_far_from) := ⟨rfl, rfl, rfl, by decide +kernel, rfl, by decide +kernel, by decide +kernel⟩
def sp_far_from (C_TB : Addr) : DSp := fun ds M Q _ => ∃ b n ps d s, ds = [.ref b, .int s] ∧ BookAt C_TB M b n ps d ∧ 0 ≤ s ∧ s < n ∧ ∀ r (kt : List (Int × Nat)), M r = none → (kt.map (·.1)).Nodup → (∀ x j, (x, j) ∈ kt ↔ Dst ps (allOf n) s j x) → Q (.ref r) (mset M r (.dK (kt.map kvN)))
theorem c_far_from {C_TB : Addr} (F : DFun K mg "far_from" s_far_from ["book", "wanted"]) (B : Bn mg) (G : Gs mg) (c_tied_of : DCal P w K mg base CX0 1 "tied_of" (sp_tied_of C_TB)) : DCal P w K mg base CX0 2 "far_from" (sp_far_from C_TB) := by
  refine dok F sc_far_from (fun ds M Q E h => (by obtain ⟨_, h⟩ := h; first | (obtain ⟨e, _⟩ := h; subst e; rfl) | (obtain ⟨_, e, _⟩ := h; subst e; rfl) | (obtain ⟨_, _, e, _⟩ := h; subst e; rfl) | (obtain ⟨_, _, _, e, _⟩ := h; subst e; rfl) | (obtain ⟨_, _, _, _, e, _⟩ := h; subst e; rfl) | (obtain ⟨_, _, _, _, _, e, _⟩ := h; subst e; rfl) | (obtain ⟨_, _, _, _, _, _, e, _⟩ := h; subst e; rfl) | (obtain ⟨_, _, _, _, _, _, _, e, _⟩ := h; subst e; rfl) | (obtain ⟨_, _, _, _, _, _, _, _, e, _⟩ := h; subst e; rfl) | (obtain ⟨_, _, _, _, _, _, _, _, _, e, _⟩ := h; subst e; rfl) | (obtain ⟨_, _, _, _, _, _, _, _, _, _, e, _⟩ := h; subst e; rfl) | (obtain ⟨_, _, _, _, _, _, _, _, _, _, _, e, _⟩ := h; subst e; rfl) | (obtain ⟨_, _, _, _, _, _, _, _, _, _, _, _, e, _⟩ := h; subst e; rfl) | (obtain ⟨_, _, _, _, _, _, _, _, _, _, _, _, _, e, _⟩ := h; subst e; rfl) | (obtain ⟨_, _, _, _, _, _, _, _, _, _, _, _, _, _, e, _⟩ := h; subst e; rfl) | (obtain ⟨_, _, _, _, _, _, _, _, _, _, _, _, _, _, _, e, _⟩ := h; subst e; rfl) | (obtain ⟨_, _, _, _, _, _, _, _, _, _, _, _, _, _, _, _, e, _⟩ := h; subst e; rfl) | (obtain ⟨_, _, _, _, _, _, _, _, _, _, _, _, _, _, _, _, _, e, _⟩ := h; subst e; rfl) | (obtain ⟨_, _, _, _, _, _, _, _, _, _, _, _, _, _, _, _, _, _, e, _⟩ := h; subst e; rfl) | (obtain ⟨_, _, _, _, _, _, _, _, _, _, _, _, _, _, _, _, _, _, _, e, _⟩ := h; subst e; rfl) | (obtain ⟨_, _, _, _, _, _, _, _, _, _, _, _, _, _, _, _, _, _, _, _, e, _⟩ := h; subst e; rfl) | (obtain ⟨_, _, _, _, _, _, _, _, _, _, _, _, _, _, _, _, _, _, _, _, _, e, _⟩ := h; subst e; rfl) | (obtain ⟨_, _, _, _, _, _, _, _, _, _, _, _, _, _, _, _, _, _, _, _, _, _, e, _⟩ := h; subst e; rfl) | (obtain ⟨_, _, _, _, _, _, _, _, _, _, _, _, _, _, _, _, _, _, _, _, _, _, _, e, _⟩ := h; subst e; rfl) | (obtain ⟨_, _, _, _, _, _, _, _, _, _, _, _, _, _, _, _, _, _, _, _, _, _, _, _, e, _⟩ := h; subst e; rfl) | (obtain ⟨_, _, _, _, _, _, _, _, _, _, _, _, _, _, _, _, _, _, _, _, _, _, _, _, _, e, _⟩ := h; subst e; rfl))) (fun f cdv A outer s H E F0 hr => ?_)
  have nd := (sc_far_from).nd
  refine ⟨_, _, (db_cons (ds_set 2 nd (de_disp (dpp_cons (de_var 1) de_int dpp_nil)))
      (db_cons (ds_set 3 nd (de_lstM (da_cons (de_var 1) da_nil)))
      (db_cons (ds_set 4 nd de_int)
      (db_cons (ds_while PassesOwn.never (dt_lt (de_var 4) (de_len B.len (da_cons (de_var 3) da_nil))) (db_cons (ds_for PassesOwn.never rfl (di_seq (de_ix hr (de_call c_tied_of hr (goes0A (E := DXK.no)) (da_cons (de_var 0) da_nil)) (de_ix hr (de_var 3) (de_var 4)))) (dg_name 5 nd) (db_one (ds_if (dt_notIn hr (de_var 5) (de_var 2)) (db_cons (ds_put hr (de_var 2) (de_var 5) (de_add (de_ix hr (de_var 2) (de_ix hr (de_var 3) (de_var 4))) de_int))
      (db_one (ds_expr (de_append (de_var 3) (da_cons (de_var 5) da_nil))))) db_nil)))
      (db_one (ds_aug 4 nd de_int ip_add (lip_I _)))))
      (db_one (ds_ret (de_var 2))))))), ?_⟩
  rintro ds M Q E ⟨b, n, ps, d, s, rfl, B, s0, s1, q⟩
  have n8 := B.ok.hi
  have okp := B.ok.pr
  have hs : s ∈ allOf n := allOf_mem.mpr ⟨s0, s1⟩
  have al := allOf_len n
  refine dSeq_then (fun γ' M' => ∃ r, γ' = [some (.ref b), some (.int s), some (.ref r), none, none, none] ∧ M r = none ∧ M' = mset M r (.dK ([(s, 0)].map kvN))) (fun nx hn => ?_) (fun γ1 M1 h => ?_)
  · simp only [dVar, dC, dOp, dTest, dII, dIC, dFld, dFldS, dMake, dProp, dLcM, toM, dppNil, dppCons, dMerge, dDisp, dCatL, dRep, dRepM, dExtend, dChain, dEq, dAnd, dOr, dNot, dIfE, dNext, dSeq, dDrop, dRet, dIfS, dNever, dFrz, hName, hNil, hCons, hTup, hSub, dAsg, dAug, dipI, dNil, dCons, dTup, dLst, dLstM, dIx, dSet, dCall, dwipe, dYes, jSeq, jRng1, jRng2, dCB, dLen, dList, dListM, dTuple, dAbs, dInt, dBM0, dBM, dAppend, dPop, dPopAt, dAndV, dNotV, dNeg, dIn, dNoPart, dPart, dSl, dSlM, dNewK, dIsi, dIsiT, dLc, dFor, dDc, dCallS, dRaise, dTry, dIsE, dSortD, dFrzE, jKeys, dIndexD, dEqS, dReprG, if_true, if_false, ite_true, ite_false, Bool.false_eq_true, reduceIte, Bool.not_true, Bool.not_false, List.getElem?_cons_zero, List.getElem?_cons_succ, List.set_cons_zero, List.set_cons_succ, List.map_cons, List.map_nil, List.replicate, List.cons_append, List.nil_append, List.length_cons, List.length_nil, dstart]
    exact fun r hr => ⟨_, rfl, fun _ => ⟨by decide, hn _ _ ⟨r, rfl, hr, rfl⟩⟩⟩
  obtain ⟨r, rfl, hr, rfl⟩ := h
  refine dSeq_then (fun γ' M' => ∃ td, γ' = [some (.ref b), some (.int s), some (.ref r), some (.ref td), none, none] ∧ M td = none ∧ td ≠ r ∧ M' = mset (mset M r (.dK ([(s, 0)].map kvN))) td (.lst [.int s])) (fun nx hn => ?_) (fun γ1 M1 h => ?_)
  · simp only [dVar, dC, dOp, dTest, dII, dIC, dFld, dFldS, dMake, dProp, dLcM, toM, dppNil, dppCons, dMerge, dDisp, dCatL, dRep, dRepM, dExtend, dChain, dEq, dAnd, dOr, dNot, dIfE, dNext, dSeq, dDrop, dRet, dIfS, dNever, dFrz, hName, hNil, hCons, hTup, hSub, dAsg, dAug, dipI, dNil, dCons, dTup, dLst, dLstM, dIx, dSet, dCall, dwipe, dYes, jSeq, jRng1, jRng2, dCB, dLen, dList, dListM, dTuple, dAbs, dInt, dBM0, dBM, dAppend, dPop, dPopAt, dAndV, dNotV, dNeg, dIn, dNoPart, dPart, dSl, dSlM, dNewK, dIsi, dIsiT, dLc, dFor, dDc, dCallS, dRaise, dTry, dIsE, dSortD, dFrzE, jKeys, dIndexD, dEqS, dReprG, if_true, if_false, ite_true, ite_false, Bool.false_eq_true, reduceIte, Bool.not_true, Bool.not_false, List.getElem?_cons_zero, List.getElem?_cons_succ, List.set_cons_zero, List.set_cons_succ, List.map_cons, List.map_nil, List.replicate, List.cons_append, List.nil_append, List.length_cons, List.length_nil, dstart]
    refine ⟨by decide, fun td htd => ?_⟩
    have ntd : td ≠ r := fun e => by (rw [e, mset_same] at htd; cases htd)
    exact hn _ _ ⟨td, rfl, by rw [mset_ne ntd] at htd; exact htd, ntd, rfl⟩
  obtain ⟨td, rfl, htd, ntd, rfl⟩ := h
  refine dSeq_then (fun γ' M' => γ' = [some (.ref b), some (.int s), some (.ref r), some (.ref td), some (.int 0), none] ∧ M' = mset (mset M r (.dK ([(s, 0)].map kvN))) td (.lst [.int s])) (fun nx hn => ?_) (fun γ1 M1 h => ?_)
  · simp only [dVar, dC, dOp, dTest, dII, dIC, dFld, dFldS, dMake, dProp, dLcM, toM, dppNil, dppCons, dMerge, dDisp, dCatL, dRep, dRepM, dExtend, dChain, dEq, dAnd, dOr, dNot, dIfE, dNext, dSeq, dDrop, dRet, dIfS, dNever, dFrz, hName, hNil, hCons, hTup, hSub, dAsg, dAug, dipI, dNil, dCons, dTup, dLst, dLstM, dIx, dSet, dCall, dwipe, dYes, jSeq, jRng1, jRng2, dCB, dLen, dList, dListM, dTuple, dAbs, dInt, dBM0, dBM, dAppend, dPop, dPopAt, dAndV, dNotV, dNeg, dIn, dNoPart, dPart, dSl, dSlM, dNewK, dIsi, dIsiT, dLc, dFor, dDc, dCallS, dRaise, dTry, dIsE, dSortD, dFrzE, jKeys, dIndexD, dEqS, dReprG, if_true, if_false, ite_true, ite_false, Bool.false_eq_true, reduceIte, Bool.not_true, Bool.not_false, List.getElem?_cons_zero, List.getElem?_cons_succ, List.set_cons_zero, List.set_cons_succ, List.map_cons, List.map_nil, List.replicate, List.cons_append, List.nil_append, List.length_cons, List.length_nil, dstart]
    exact hn _ _ ⟨rfl, rfl⟩
  obtain ⟨rfl, rfl⟩ := h
  refine dSeq_then (fun γ' M' => ∃ (o4 o5 : Option D) (kt : List (Int × Nat)), γ' = [some (.ref b), some (.int s), some (.ref r), some (.ref td), o4, o5] ∧ M' r = some (.dK (kt.map kvN)) ∧ Agree M M' [r, td] ∧ (kt.map (·.1)).Nodup ∧ ∀ x j, (x, j) ∈ kt ↔ Dst ps (allOf n) s j x) (fun nx hn => ?_) (fun γ1 M1 h => ?_)
  · refine ⟨fun m γ M' => ∃ (o5 : Option D) (kt : List (Int × Nat)) (k : Nat), γ = [some (.ref b), some (.int s), some (.ref r), some (.ref td), some (.int (k : Int)), o5] ∧ M' r = some (.dK (kt.map kvN)) ∧ M' td = some (.lst (kt.map fun p => .int p.1)) ∧ Agree M M' [r, td] ∧ Bfs ps (allOf n) s kt k ∧ m = (allOf n).length - k, ⟨_, none, [(s, 0)], 0, rfl, ?_, mset_same, ?_, .zero, rfl⟩, ?_⟩
    · rw [mset_ne (Ne.symm ntd), mset_same]
    · exact (Agree.mset (by simp)).trans (Agree.mset (by simp))
    rintro m γ M' ⟨o5, kt, k, rfl, hk, ht, ag2, Bf, rfl⟩
    have B0 : FlIn ps (allOf n) s 0 kt [] := ⟨by simpa using Bf.nd, fun _ h => by cases h⟩
    have ktl := Bf.len hs B0
    have kl := Bf.kl
    simp only [dVar, dC, dOp, dTest, dII, dIC, dFld, dFldS, dMake, dProp, dLcM, toM, dppNil, dppCons, dMerge, dDisp, dCatL, dRep, dRepM, dExtend, dChain, dEq, dAnd, dOr, dNot, dIfE, dNext, dSeq, dDrop, dRet, dIfS, dNever, dFrz, hName, hNil, hCons, hTup, hSub, dAsg, dAug, dipI, dNil, dCons, dTup, dLst, dLstM, dIx, dSet, dCall, dwipe, dYes, jSeq, jRng1, jRng2, dCB, dLen, dList, dListM, dTuple, dAbs, dInt, dBM0, dBM, dAppend, dPop, dPopAt, dAndV, dNotV, dNeg, dIn, dNoPart, dPart, dSl, dSlM, dNewK, dIsi, dIsiT, dLc, dFor, dDc, dCallS, dRaise, dTry, dIsE, dSortD, dFrzE, jKeys, dIndexD, dEqS, dReprG, if_true, if_false, ite_true, ite_false, Bool.false_eq_true, reduceIte, Bool.not_true, Bool.not_false, List.getElem?_cons_zero, List.getElem?_cons_succ, List.set_cons_zero, List.set_cons_succ, List.map_cons, List.map_nil, List.replicate, List.cons_append, List.nil_append, List.length_cons, List.length_nil, dstart]
    refine ⟨kt.length, by simp only [lenV, ht, List.length_map], ?_⟩
    by_cases hkl : (k : Int) < kt.length
    · simp only [decide_eq_true hkl, if_true, if_false, ite_true, ite_false, Bool.false_eq_true, reduceIte, Bool.not_true, Bool.not_false, List.getElem?_cons_zero, List.getElem?_cons_succ, List.set_cons_zero, List.set_cons_succ, List.map_cons, List.map_nil, List.replicate, List.cons_append, List.nil_append, List.length_cons, List.length_nil, dstart]
      have hk1 : k < kt.length := by omega
      obtain ⟨⟨x, j⟩, hx⟩ : ∃ p, kt[k]? = some p := ⟨_, List.getElem?_eq_getElem hk1⟩
      have xm : (x, j) ∈ kt := List.mem_of_getElem? hx
      have xn : x ∈ allOf n := Wk.mem hs (Bf.dst x j xm).1
      have xr := allOf_mem.mp xn
      have nrb : b ≠ r ∧ b ≠ td ∧ d ≠ r ∧ d ≠ td := ⟨fun e => by (have := B.ob; rw [e, hr] at this; cases this), fun e => by (have := B.ob; rw [e, htd] at this; cases this), fun e => by (have := B.fc; rw [e, hr] at this; cases this), fun e => by (have := B.fc; rw [e, htd] at this; cases this)⟩
      have B2 : BookAt C_TB M' b n ps d := B.keep ag2 (by simp [nrb.1, nrb.2.1]) (by simp [nrb.2.2.1, nrb.2.2.2])
      refine ⟨b, n, ps, d, rfl, B2, .int x, ?_, .tup ((srt (nbr ps x)).map .int), rowsD_get xr.1 xr.2, ?_⟩
      · simp only [dIxV, ht]
        exact atI_at (k := k) rfl (by rw [List.getElem?_map, hx]; rfl)
      dsimp only
      have nl := nbr_len ps x
      have zl := okp.len28 n8
      refine dForI_of (fun c γ M' => ∃ (o5 : Option D) (la : List Int), γ = [some (.ref b), some (.int s), some (.ref r), some (.ref td), some (.int (k : Int)), o5] ∧ M' r = some (.dK ((kt ++ la.map fun y => (y, j + 1)).map kvN)) ∧ M' td = some (.lst ((kt ++ la.map fun y => (y, j + 1)).map fun p => .int p.1)) ∧ Agree M M' [r, td] ∧ FlIn ps (allOf n) s j kt la ∧ ∀ y, y ∈ (srt (nbr ps x)).take c → y ∈ allOf n → y ∈ kt.map (·.1) ++ la) ⟨o5, [], rfl, by simpa using hk, by simpa using ht, ag2, ⟨by simpa using Bf.nd, fun _ h => by cases h⟩, fun _ h => by simp at h⟩ ?_ ?_
      · rintro c e γ M3 he ⟨o5, la, rfl, hk3, ht3, ag3, fi, cl⟩
        obtain ⟨y, hy, rfl⟩ := get_int he
        have hyn : y ∈ nbr ps x := srt_mem.mp (List.mem_of_getElem? hy)
        have h1 : y ∈ allOf n := allOf_mem.mpr (nbr_ok okp hyn)
        have ln := Bf.len hs fi
        have stay : ∀ la', (∀ z, z ∈ la → z ∈ la') → y ∈ kt.map (·.1) ++ la' → ∀ z, z ∈ (srt (nbr ps x)).take (c + 1) → z ∈ allOf n → z ∈ kt.map (·.1) ++ la' := fun la' sub h z hz hzn => by
          rw [take_succ_of hy] at hz
          rcases List.mem_append.mp hz with hz | hz
          · rcases List.mem_append.mp (cl z hz hzn) with u | u
            · exact List.mem_append_left _ u
            · exact List.mem_append_right _ (sub z u)
          · rw [List.mem_singleton.mp hz]; exact h
        simp only [dVar, dC, dOp, dTest, dII, dIC, dFld, dFldS, dMake, dProp, dLcM, toM, dppNil, dppCons, dMerge, dDisp, dCatL, dRep, dRepM, dExtend, dChain, dEq, dAnd, dOr, dNot, dIfE, dNext, dSeq, dDrop, dRet, dIfS, dNever, dFrz, hName, hNil, hCons, hTup, hSub, dAsg, dAug, dipI, dNil, dCons, dTup, dLst, dLstM, dIx, dSet, dCall, dwipe, dYes, jSeq, jRng1, jRng2, dCB, dLen, dList, dListM, dTuple, dAbs, dInt, dBM0, dBM, dAppend, dPop, dPopAt, dAndV, dNotV, dNeg, dIn, dNoPart, dPart, dSl, dSlM, dNewK, dIsi, dIsiT, dLc, dFor, dDc, dCallS, dRaise, dTry, dIsE, dSortD, dFrzE, jKeys, dIndexD, dEqS, dReprG, if_true, if_false, ite_true, ite_false, Bool.false_eq_true, reduceIte, Bool.not_true, Bool.not_false, List.getElem?_cons_zero, List.getElem?_cons_succ, List.set_cons_zero, List.set_cons_succ, List.map_cons, List.map_nil, List.replicate, List.cons_append, List.nil_append, List.length_cons, List.length_nil, dstart]
        refine ⟨_, has_kvN hk3 y, ?_⟩
        rw [keys_app]
        by_cases h2 : y ∈ kt.map (·.1) ++ la
        · simp only [decide_eq_true h2, if_true, if_false, ite_true, ite_false, Bool.false_eq_true, reduceIte, Bool.not_true, Bool.not_false, List.getElem?_cons_zero, List.getElem?_cons_succ, List.set_cons_zero, List.set_cons_succ, List.map_cons, List.map_nil, List.replicate, List.cons_append, List.nil_append, List.length_cons, List.length_nil, dstart]
          exact ⟨_, la, rfl, hk3, ht3, ag3, fi, stay la (fun _ h => h) h2⟩
        · simp only [decide_eq_false h2, if_true, if_false, ite_true, ite_false, Bool.false_eq_true, reduceIte, Bool.not_true, Bool.not_false, List.getElem?_cons_zero, List.getElem?_cons_succ, List.set_cons_zero, List.set_cons_succ, List.map_cons, List.map_nil, List.replicate, List.cons_append, List.nil_append, List.length_cons, List.length_nil, dstart]
          have dy := Bf.new hx hyn h1 fun z => h2 (List.mem_append_left _ z)
          have st := store_kvN (x := y) (t := j + 1) hk3 (by rw [keys_app]; exact h2) (by rw [List.length_append, List.length_map]; omega)
          refine ⟨.int x, ?_, .int (j : Int), ?_, _, st, ?_⟩
          · simp only [dIxV, ht3]
            exact atI_at (k := k) rfl (by rw [List.getElem?_map, List.getElem?_append_left hk1, hx]; rfl)
          · simp only [dIxV, hk3, dLook, keyOf, Option.map_some, Option.bind_some, id]
            refine dval_at ?_ (x := x) (t := j) (List.mem_append_left _ xm)
            rw [keys_app]; exact fi.nd
          simp only [tyD, mset_ne ntd, ht3]
          refine ⟨trivial, len_lt (by rw [List.length_map, List.length_append, List.length_map]; omega), _, la ++ [y], rfl, ?_, ?_, (ag3.trans (Agree.mset (by simp))).trans (Agree.mset (by simp)), fi.add dy h2, stay (la ++ [y]) (fun _ h => List.mem_append_left _ h) (by simp)⟩
          · rw [mset_ne (Ne.symm ntd), mset_same, List.map_append (f := fun y => (y, j + 1)), ← List.append_assoc]; rfl
          · rw [mset_same, List.map_append (f := fun y => (y, j + 1)), ← List.append_assoc, List.map_append (l₁ := kt ++ la.map fun y => (y, j + 1))]; rfl
      · rintro γ M3 ⟨o5, la, rfl, hk3, ht3, ag3, fi, cl⟩
        rw [List.length_map, List.take_length] at cl
        simp only [dVar, dC, dOp, dTest, dII, dIC, dFld, dFldS, dMake, dProp, dLcM, toM, dppNil, dppCons, dMerge, dDisp, dCatL, dRep, dRepM, dExtend, dChain, dEq, dAnd, dOr, dNot, dIfE, dNext, dSeq, dDrop, dRet, dIfS, dNever, dFrz, hName, hNil, hCons, hTup, hSub, dAsg, dAug, dipI, dNil, dCons, dTup, dLst, dLstM, dIx, dSet, dCall, dwipe, dYes, jSeq, jRng1, jRng2, dCB, dLen, dList, dListM, dTuple, dAbs, dInt, dBM0, dBM, dAppend, dPop, dPopAt, dAndV, dNotV, dNeg, dIn, dNoPart, dPart, dSl, dSlM, dNewK, dIsi, dIsiT, dLc, dFor, dDc, dCallS, dRaise, dTry, dIsE, dSortD, dFrzE, jKeys, dIndexD, dEqS, dReprG, if_true, if_false, ite_true, ite_false, Bool.false_eq_true, reduceIte, Bool.not_true, Bool.not_false, List.getElem?_cons_zero, List.getElem?_cons_succ, List.set_cons_zero, List.set_cons_succ, List.map_cons, List.map_nil, List.replicate, List.cons_append, List.nil_append, List.length_cons, List.length_nil, dstart]
        exact ⟨(allOf n).length - (k + 1), by omega, _, _, k + 1, rfl, hk3, ht3, ag3, Bf.next hx fi fun y hy hyn => cl y (srt_mem.mpr hy) hyn, rfl⟩
    · simp only [decide_eq_false hkl, if_true, if_false, ite_true, ite_false, Bool.false_eq_true, reduceIte, Bool.not_true, Bool.not_false, List.getElem?_cons_zero, List.getElem?_cons_succ, List.set_cons_zero, List.set_cons_succ, List.map_cons, List.map_nil, List.replicate, List.cons_append, List.nil_append, List.length_cons, List.length_nil, dstart]
      have ek : k = kt.length := by omega
      subst ek
      exact hn _ _ ⟨_, _, kt, rfl, hk, ag2, Bf.nd, Bf.full⟩
  obtain ⟨o4, o5, kt, rfl, hk, ag, nd, mk⟩ := h
  simp only [dVar, dC, dOp, dTest, dII, dIC, dFld, dFldS, dMake, dProp, dLcM, toM, dppNil, dppCons, dMerge, dDisp, dCatL, dRep, dRepM, dExtend, dChain, dEq, dAnd, dOr, dNot, dIfE, dNext, dSeq, dDrop, dRet, dIfS, dNever, dFrz, hName, hNil, hCons, hTup, hSub, dAsg, dAug, dipI, dNil, dCons, dTup, dLst, dLstM, dIx, dSet, dCall, dwipe, dYes, jSeq, jRng1, jRng2, dCB, dLen, dList, dListM, dTuple, dAbs, dInt, dBM0, dBM, dAppend, dPop, dPopAt, dAndV, dNotV, dNeg, dIn, dNoPart, dPart, dSl, dSlM, dNewK, dIsi, dIsiT, dLc, dFor, dDc, dCallS, dRaise, dTry, dIsE, dSortD, dFrzE, jKeys, dIndexD, dEqS, dReprG, if_true, if_false, ite_true, ite_false, Bool.false_eq_true, reduceIte, Bool.not_true, Bool.not_false, List.getElem?_cons_zero, List.getElem?_cons_succ, List.set_cons_zero, List.set_cons_succ, List.map_cons, List.map_nil, List.replicate, List.cons_append, List.nil_append, List.length_cons, List.length_nil, dstart]
  refine fin_less (fun p o h => ?_) (q r kt hr nd mk)
  by_cases e : p = r
  · rw [e, mset_same] at h; rw [e, hk]; exact h
  · rw [mset_ne e] at h
    rw [ag p (by
      simp only [List.mem_cons, List.not_mem_nil, or_false, not_or]
      exact ⟨e, fun z => by (rw [z, htd] at h; cases h)⟩)]
    exact h
theorem sc_shortest_log : FnScope ["book", "first", "wanted", "far", "found", "here", "other"] ["book", "first", "wanted"] (defScope s_shortest_log) := ⟨rfl, rfl, rfl, by decide +kernel, rfl, by decide +kernel, by decide +kernel⟩
def sp_shortest_log (C_TB E_NoContent : Addr) : DSp := fun ds M Q E => ∃ b n ps d f g, ds = [.ref b, f, g] ∧ BookAt C_TB M b n ps d ∧ anyD f = true ∧ anyD g = true ∧ (cntB n [f, g] = false → E (.ref E_NoContent) none M) ∧ (cntB n [f, g] = true → ∀ l, Q (.tup l) M)
theorem c_shortest_log {C_TB E_NoContent : Addr} (F : DFun K mg "shortest_log" s_shortest_log ["book", "first", "wanted"]) (B : Bn mg) (G : Gs mg) (c_check_contents : DCal P w K mg base (L2N.CX P w) 4 "check_contents" (sp_check_contents C_TB E_NoContent)) (c_far_from : DCal P w K mg base CX0 2 "far_from" (sp_far_from C_TB)) (c_tied_of : DCal P w K mg base CX0 1 "tied_of" (sp_tied_of C_TB)) : DCal P w K mg base (L2N.CX P w) 5 "shortest_log" (sp_shortest_log C_TB E_NoContent) := by
  refine dokX F sc_shortest_log (fun ds M Q E h => (by obtain ⟨_, h⟩ := h; first | (obtain ⟨e, _⟩ := h; subst e; rfl) | (obtain ⟨_, e, _⟩ := h; subst e; rfl) | (obtain ⟨_, _, e, _⟩ := h; subst e; rfl) | (obtain ⟨_, _, _, e, _⟩ := h; subst e; rfl) | (obtain ⟨_, _, _, _, e, _⟩ := h; subst e; rfl) | (obtain ⟨_, _, _, _, _, e, _⟩ := h; subst e; rfl) | (obtain ⟨_, _, _, _, _, _, e, _⟩ := h; subst e; rfl) | (obtain ⟨_, _, _, _, _, _, _, e, _⟩ := h; subst e; rfl) | (obtain ⟨_, _, _, _, _, _, _, _, e, _⟩ := h; subst e; rfl) | (obtain ⟨_, _, _, _, _, _, _, _, _, e, _⟩ := h; subst e; rfl) | (obtain ⟨_, _, _, _, _, _, _, _, _, _, e, _⟩ := h; subst e; rfl) | (obtain ⟨_, _, _, _, _, _, _, _, _, _, _, e, _⟩ := h; subst e; rfl) | (obtain ⟨_, _, _, _, _, _, _, _, _, _, _, _, e, _⟩ := h; subst e; rfl) | (obtain ⟨_, _, _, _, _, _, _, _, _, _, _, _, _, e, _⟩ := h; subst e; rfl) | (obtain ⟨_, _, _, _, _, _, _, _, _, _, _, _, _, _, e, _⟩ := h; subst e; rfl) | (obtain ⟨_, _, _, _, _, _, _, _, _, _, _, _, _, _, _, e, _⟩ := h; subst e; rfl) | (obtain ⟨_, _, _, _, _, _, _, _, _, _, _, _, _, _, _, _, e, _⟩ := h; subst e; rfl) | (obtain ⟨_, _, _, _, _, _, _, _, _, _, _, _, _, _, _, _, _, e, _⟩ := h; subst e; rfl) | (obtain ⟨_, _, _, _, _, _, _, _, _, _, _, _, _, _, _, _, _, _, e, _⟩ := h; subst e; rfl) | (obtain ⟨_, _, _, _, _, _, _, _, _, _, _, _, _, _, _, _, _, _, _, e, _⟩ := h; subst e; rfl) | (obtain ⟨_, _, _, _, _, _, _, _, _, _, _, _, _, _, _, _, _, _, _, _, e, _⟩ := h; subst e; rfl) | (obtain ⟨_, _, _, _, _, _, _, _, _, _, _, _, _, _, _, _, _, _, _, _, _, e, _⟩ := h; subst e; rfl) | (obtain ⟨_, _, _, _, _, _, _, _, _, _, _, _, _, _, _, _, _, _, _, _, _, _, e, _⟩ := h; subst e; rfl) | (obtain ⟨_, _, _, _, _, _, _, _, _, _, _, _, _, _, _, _, _, _, _, _, _, _, _, e, _⟩ := h; subst e; rfl) | (obtain ⟨_, _, _, _, _, _, _, _, _, _, _, _, _, _, _, _, _, _, _, _, _, _, _, _, e, _⟩ := h; subst e; rfl) | (obtain ⟨_, _, _, _, _, _, _, _, _, _, _, _, _, _, _, _, _, _, _, _, _, _, _, _, _, e, _⟩ := h; subst e; rfl))) (fun f cdv A outer s H E F0 E1 hr hE => ?_)
  have nd := (sc_shortest_log).nd
  have tk : L2N.Takes (cxOf (L2N.CX P w) P w K mg base ["book", "first", "wanted", "far", "found", "here", "other"] "shortest_log" (defScope s_shortest_log) f cdv A outer s H E) (lXW K F0 fun _ => E1) := takesX (L2N.takes_of rfl rfl rfl rfl) hE
  refine ⟨_, _, (db_cons (ds_expr (de_callS c_check_contents hr tk (da_cons (de_var 0) (da_cons (de_lst (da_cons (de_var 1) (da_cons (de_var 2) da_nil))) da_nil))))
      (db_cons (ds_set 3 nd (de_call c_far_from hr (goes0A (E := DXK.no)) (da_cons (de_var 0) (da_cons (de_var 2) da_nil))))
      (db_cons (ds_set 4 nd (de_lstM da_nil))
      (db_cons (ds_set 5 nd (de_var 1))
      (db_cons (ds_while (passes_of rfl) (dt_ne hr (de_var 5) (de_var 2)) (db_cons (ds_set 5 nd (de_ix hr (dx_lc (own := [("other", 6)]) rfl nd (di_seq (de_ix hr (de_call c_tied_of hr (goes0A (E := DXK.no)) (da_cons (de_var 0) da_nil)) (de_var 5))) (blkOk_by (N := ["book", "first", "wanted", "far", "found", "here", "other"]) (sc := defScope s_shortest_log) (by decide +kernel)) (fun _ _ _ _ _ => ⟨_, (dg_name 6 nd), (gw_name (by decide))⟩) (fun _ _ _ _ _ => ⟨_, (dts_one (dt_eq hr (de_ix hr (de_var 3) (de_var 6)) (de_sub (de_ix hr (de_var 3) (de_var 5)) de_int)))⟩) (fun _ _ _ _ _ => ⟨_, (de_var 6)⟩)) de_int))
      (db_one (ds_expr (de_append (de_var 4) (da_cons (de_var 5) da_nil))))))
      (db_one (ds_ret (de_bty call_tuple_of lc_tuple B.tuple (da_cons (de_var 4) da_nil))))))))), ?_⟩
  rintro ds M Q ⟨b, n, ps, d, ff, gg, rfl, B, fa, ga, q1, q2⟩
  cases hb : cntB n [ff, gg] with
  | false =>
    simp only [dVar, dC, dOp, dTest, dII, dIC, dFld, dFldS, dMake, dProp, dLcM, toM, dppNil, dppCons, dMerge, dDisp, dCatL, dRep, dRepM, dExtend, dChain, dEq, dAnd, dOr, dNot, dIfE, dNext, dSeq, dDrop, dRet, dIfS, dNever, dFrz, hName, hNil, hCons, hTup, hSub, dAsg, dAug, dipI, dNil, dCons, dTup, dLst, dLstM, dIx, dSet, dCall, dwipe, dYes, jSeq, jRng1, jRng2, dCB, dLen, dList, dListM, dTuple, dAbs, dInt, dBM0, dBM, dAppend, dPop, dPopAt, dAndV, dNotV, dNeg, dIn, dNoPart, dPart, dSl, dSlM, dNewK, dIsi, dIsiT, dLc, dFor, dDc, dCallS, dRaise, dTry, dIsE, dSortD, dFrzE, jKeys, dIndexD, dEqS, dReprG, if_true, if_false, ite_true, ite_false, Bool.false_eq_true, reduceIte, Bool.not_true, Bool.not_false, List.getElem?_cons_zero, List.getElem?_cons_succ, List.set_cons_zero, List.set_cons_succ, List.map_cons, List.map_nil, List.replicate, List.cons_append, List.nil_append, List.length_cons, List.length_nil, dstart]
    exact ⟨by decide, b, n, ps, d, [ff, gg], rfl, B, (fun x hx => by rcases List.mem_cons.mp hx with rfl | hx; exact fa; rw [List.mem_singleton.mp hx]; exact ga), by simp, (fun hc => by rw [hb] at hc; cases hc), fun _ => q1 hb⟩
  | true =>
  obtain ⟨h1, h2⟩ : ff.within 0 (n - 1) = true ∧ gg.within 0 (n - 1) = true := by
    simp only [cntB, List.all_cons, List.all_nil, Bool.and_true, Bool.and_eq_true] at hb
    exact hb
  obtain ⟨f, rfl, f0, f1⟩ := within_int h1
  obtain ⟨g, rfl, g0, g1⟩ := within_int h2
  have f1 : f < n := by omega
  have g1 : g < n := by omega
  have q : ∀ (t : Nat) (l : List Int), Dst ps (allOf n) g t f → IsWay ps (allOf n) g t f (f :: l) → Q (.tup (l.map .int)) M := fun t l _ _ => q2 hb _
  have n8 := B.ok.hi
  have okp := B.ok.pr
  have hg : g ∈ allOf n := allOf_mem.mpr ⟨g0, g1⟩
  have hf : f ∈ allOf n := allOf_mem.mpr ⟨f0, f1⟩
  obtain ⟨T, hT⟩ : ∃ T, Dst ps (allOf n) g T f := rch_dst.mp (B.ok.hang g hg f hf)
  have zl := okp.len28 n8
  refine dSeq_then (fun γ' M' => γ' = [some (.ref b), some (.int f), some (.int g), none, none, none, none] ∧ M' = M) (fun nx hn => ?_) (fun γ1 M1 h => ?_)
  · simp only [dVar, dC, dOp, dTest, dII, dIC, dFld, dFldS, dMake, dProp, dLcM, toM, dppNil, dppCons, dMerge, dDisp, dCatL, dRep, dRepM, dExtend, dChain, dEq, dAnd, dOr, dNot, dIfE, dNext, dSeq, dDrop, dRet, dIfS, dNever, dFrz, hName, hNil, hCons, hTup, hSub, dAsg, dAug, dipI, dNil, dCons, dTup, dLst, dLstM, dIx, dSet, dCall, dwipe, dYes, jSeq, jRng1, jRng2, dCB, dLen, dList, dListM, dTuple, dAbs, dInt, dBM0, dBM, dAppend, dPop, dPopAt, dAndV, dNotV, dNeg, dIn, dNoPart, dPart, dSl, dSlM, dNewK, dIsi, dIsiT, dLc, dFor, dDc, dCallS, dRaise, dTry, dIsE, dSortD, dFrzE, jKeys, dIndexD, dEqS, dReprG, if_true, if_false, ite_true, ite_false, Bool.false_eq_true, reduceIte, Bool.not_true, Bool.not_false, List.getElem?_cons_zero, List.getElem?_cons_succ, List.set_cons_zero, List.set_cons_succ, List.map_cons, List.map_nil, List.replicate, List.cons_append, List.nil_append, List.length_cons, List.length_nil, dstart]
    exact ⟨by decide, b, n, ps, d, [.int f, .int g], rfl, B, (fun x hx => by rcases List.mem_cons.mp hx with rfl | hx; exact rfl; rw [List.mem_singleton.mp hx]; rfl), by simp, (fun _ => hn _ _ ⟨rfl, rfl⟩), fun hc => by rw [hb] at hc; cases hc⟩
  obtain ⟨rfl, rfl⟩ := h
  refine dSeq_then (fun γ' M' => ∃ (r : Addr) (kt : List (Int × Nat)), γ' = [some (.ref b), some (.int f), some (.int g), some (.ref r), none, none, none] ∧ M1 r = none ∧ M' = mset M1 r (.dK (kt.map kvN)) ∧ (kt.map (·.1)).Nodup ∧ ∀ x j, (x, j) ∈ kt ↔ Dst ps (allOf n) g j x) (fun nx hn => ?_) (fun γ2 M2 h => ?_)
  · simp only [dVar, dC, dOp, dTest, dII, dIC, dFld, dFldS, dMake, dProp, dLcM, toM, dppNil, dppCons, dMerge, dDisp, dCatL, dRep, dRepM, dExtend, dChain, dEq, dAnd, dOr, dNot, dIfE, dNext, dSeq, dDrop, dRet, dIfS, dNever, dFrz, hName, hNil, hCons, hTup, hSub, dAsg, dAug, dipI, dNil, dCons, dTup, dLst, dLstM, dIx, dSet, dCall, dwipe, dYes, jSeq, jRng1, jRng2, dCB, dLen, dList, dListM, dTuple, dAbs, dInt, dBM0, dBM, dAppend, dPop, dPopAt, dAndV, dNotV, dNeg, dIn, dNoPart, dPart, dSl, dSlM, dNewK, dIsi, dIsiT, dLc, dFor, dDc, dCallS, dRaise, dTry, dIsE, dSortD, dFrzE, jKeys, dIndexD, dEqS, dReprG, if_true, if_false, ite_true, ite_false, Bool.false_eq_true, reduceIte, Bool.not_true, Bool.not_false, List.getElem?_cons_zero, List.getElem?_cons_succ, List.set_cons_zero, List.set_cons_succ, List.map_cons, List.map_nil, List.replicate, List.cons_append, List.nil_append, List.length_cons, List.length_nil, dstart]
    exact ⟨b, n, ps, d, g, rfl, B, g0, g1, fun r kt hr nd mk => hn _ _ ⟨r, kt, rfl, hr, rfl, nd, mk⟩⟩
  obtain ⟨r, kt, rfl, hr, rfl, nd, hk⟩ := h
  refine dSeq_then (fun γ' M' => ∃ u : Addr, γ' = [some (.ref b), some (.int f), some (.int g), some (.ref r), some (.ref u), none, none] ∧ M1 u = none ∧ u ≠ r ∧ M' = mset (mset M1 r (.dK (kt.map kvN))) u (.lst [])) (fun nx hn => ?_) (fun γ2 M2 h => ?_)
  · simp only [dVar, dC, dOp, dTest, dII, dIC, dFld, dFldS, dMake, dProp, dLcM, toM, dppNil, dppCons, dMerge, dDisp, dCatL, dRep, dRepM, dExtend, dChain, dEq, dAnd, dOr, dNot, dIfE, dNext, dSeq, dDrop, dRet, dIfS, dNever, dFrz, hName, hNil, hCons, hTup, hSub, dAsg, dAug, dipI, dNil, dCons, dTup, dLst, dLstM, dIx, dSet, dCall, dwipe, dYes, jSeq, jRng1, jRng2, dCB, dLen, dList, dListM, dTuple, dAbs, dInt, dBM0, dBM, dAppend, dPop, dPopAt, dAndV, dNotV, dNeg, dIn, dNoPart, dPart, dSl, dSlM, dNewK, dIsi, dIsiT, dLc, dFor, dDc, dCallS, dRaise, dTry, dIsE, dSortD, dFrzE, jKeys, dIndexD, dEqS, dReprG, if_true, if_false, ite_true, ite_false, Bool.false_eq_true, reduceIte, Bool.not_true, Bool.not_false, List.getElem?_cons_zero, List.getElem?_cons_succ, List.set_cons_zero, List.set_cons_succ, List.map_cons, List.map_nil, List.replicate, List.cons_append, List.nil_append, List.length_cons, List.length_nil, dstart]
    refine ⟨by decide, fun u hu => ?_⟩
    have nur : u ≠ r := fun e => by (rw [e, mset_same] at hu; cases hu)
    exact hn _ _ ⟨u, rfl, by rw [mset_ne nur] at hu; exact hu, nur, rfl⟩
  obtain ⟨u, rfl, hu, nur, rfl⟩ := h
  refine dSeq_then (fun γ' M' => γ' = [some (.ref b), some (.int f), some (.int g), some (.ref r), some (.ref u), some (.int f), none] ∧ M' = mset (mset M1 r (.dK (kt.map kvN))) u (.lst [])) (fun nx hn => ?_) (fun γ2 M2 h => ?_)
  · simp only [dVar, dC, dOp, dTest, dII, dIC, dFld, dFldS, dMake, dProp, dLcM, toM, dppNil, dppCons, dMerge, dDisp, dCatL, dRep, dRepM, dExtend, dChain, dEq, dAnd, dOr, dNot, dIfE, dNext, dSeq, dDrop, dRet, dIfS, dNever, dFrz, hName, hNil, hCons, hTup, hSub, dAsg, dAug, dipI, dNil, dCons, dTup, dLst, dLstM, dIx, dSet, dCall, dwipe, dYes, jSeq, jRng1, jRng2, dCB, dLen, dList, dListM, dTuple, dAbs, dInt, dBM0, dBM, dAppend, dPop, dPopAt, dAndV, dNotV, dNeg, dIn, dNoPart, dPart, dSl, dSlM, dNewK, dIsi, dIsiT, dLc, dFor, dDc, dCallS, dRaise, dTry, dIsE, dSortD, dFrzE, jKeys, dIndexD, dEqS, dReprG, if_true, if_false, ite_true, ite_false, Bool.false_eq_true, reduceIte, Bool.not_true, Bool.not_false, List.getElem?_cons_zero, List.getElem?_cons_succ, List.set_cons_zero, List.set_cons_succ, List.map_cons, List.map_nil, List.replicate, List.cons_append, List.nil_append, List.length_cons, List.length_nil, dstart]
    exact hn _ _ ⟨rfl, rfl⟩
  obtain ⟨rfl, rfl⟩ := h
  refine dSeq_then (fun γ' M' => ∃ (o5 o6 : Option D) (l : List Int), γ' = [some (.ref b), some (.int f), some (.int g), some (.ref r), some (.ref u), o5, o6] ∧ M' u = some (.lst (l.map .int)) ∧ Agree M1 M' [r, u] ∧ IsWay ps (allOf n) g T f (f :: l)) (fun nx hn => ?_) (fun γ2 M2 h => ?_)
  · refine ⟨fun m γ M' => ∃ (o6 : Option D) (pre : List Int) (x : Int), γ = [some (.ref b), some (.int f), some (.int g), some (.ref r), some (.ref u), some (.int x), o6] ∧ M' u = some (.lst (pre.map .int)) ∧ M' r = some (.dK (kt.map kvN)) ∧ Agree M1 M' [r, u] ∧ Dst ps (allOf n) g m x ∧ (∀ l, IsWay ps (allOf n) g m x (x :: l) → IsWay ps (allOf n) g T f (f :: (pre ++ l))) ∧ pre.length + m ≤ T, ⟨T, none, [], f, rfl, mset_same, ?_, ?_, hT, fun l h => h, by simp⟩, ?_⟩
    · rw [mset_ne (Ne.symm nur), mset_same]
    · exact (Agree.mset (by simp)).trans (Agree.mset (by simp))
    rintro m γ M' ⟨o6, pre, x, rfl, hu', hr', ag, hx, hway, hlen⟩
    have Tn := hT.lt hg
    rw [allOf_len] at Tn
    have xm := (hk x m).mpr hx
    have xr := allOf_mem.mp (Wk.mem hg hx.1)
    have fx : dIxV M' (.ref r) (.int x) = some (.int (m : Int)) := by
      simp only [dIxV, hr', dLook, keyOf, Option.map_some, Option.bind_some, id]
      exact dval_at nd xm
    simp only [dVar, dC, dOp, dTest, dII, dIC, dFld, dFldS, dMake, dProp, dLcM, toM, dppNil, dppCons, dMerge, dDisp, dCatL, dRep, dRepM, dExtend, dChain, dEq, dAnd, dOr, dNot, dIfE, dNext, dSeq, dDrop, dRet, dIfS, dNever, dFrz, hName, hNil, hCons, hTup, hSub, dAsg, dAug, dipI, dNil, dCons, dTup, dLst, dLstM, dIx, dSet, dCall, dwipe, dYes, jSeq, jRng1, jRng2, dCB, dLen, dList, dListM, dTuple, dAbs, dInt, dBM0, dBM, dAppend, dPop, dPopAt, dAndV, dNotV, dNeg, dIn, dNoPart, dPart, dSl, dSlM, dNewK, dIsi, dIsiT, dLc, dFor, dDc, dCallS, dRaise, dTry, dIsE, dSortD, dFrzE, jKeys, dIndexD, dEqS, dReprG, if_true, if_false, ite_true, ite_false, Bool.false_eq_true, reduceIte, Bool.not_true, Bool.not_false, List.getElem?_cons_zero, List.getElem?_cons_succ, List.set_cons_zero, List.set_cons_succ, List.map_cons, List.map_nil, List.replicate, List.cons_append, List.nil_append, List.length_cons, List.length_nil, dstart]
    refine ⟨ok_int _ _, ok_int _ _, ?_⟩
    rw [D.eq_int]
    cases m with
    | zero =>
      have e : x = g := hx.1
      rw [show (!(x == g)) = false by simp [e], if_neg Bool.false_ne_true]
      exact hn _ _ ⟨_, _, pre, rfl, hu', ag, by simpa using hway [] rfl⟩
    | succ t =>
      have ne : x ≠ g := fun e => hx.2 0 (by omega) e
      rw [show (!(x == g)) = true by simp [ne], if_pos rfl]
      have nrb : b ≠ r ∧ b ≠ u ∧ d ≠ r ∧ d ≠ u := ⟨fun e => by (have := B.ob; rw [e, hr] at this; cases this), fun e => by (have := B.ob; rw [e, hu] at this; cases this), fun e => by (have := B.fc; rw [e, hr] at this; cases this), fun e => by (have := B.fc; rw [e, hu] at this; cases this)⟩
      have B2 : BookAt C_TB M' b n ps d := B.keep ag (by simp [nrb.1, nrb.2.1]) (by simp [nrb.2.2.1, nrb.2.2.2])
      refine ⟨b, n, ps, d, rfl, B2, .tup ((srt (nbr ps x)).map .int), rowsD_get xr.1 xr.2, ?_⟩
      have nl := nbr_len ps x
      refine ⟨by rw [List.length_map, srt_length]; exact len_ok (by omega), dLcI_filter (fun e => match e with | .int y => decide ((y, t) ∈ kt) | _ => false) (fun e => e) (fun k e he Q2 qf qt => ?_) ?_⟩
      · obtain ⟨y, hy, rfl⟩ := get_int he
        have yr := nbr_ok okp (srt_mem.mp (List.mem_of_getElem? hy))
        obtain ⟨j, hj⟩ : ∃ j, (y, j) ∈ kt := by
          obtain ⟨j, hj⟩ := rch_dst.mp (B.ok.hang g hg y (allOf_mem.mpr yr))
          exact ⟨j, (hk y j).mpr hj⟩
        simp only [dVar, dC, dOp, dTest, dII, dIC, dFld, dFldS, dMake, dProp, dLcM, toM, dppNil, dppCons, dMerge, dDisp, dCatL, dRep, dRepM, dExtend, dChain, dEq, dAnd, dOr, dNot, dIfE, dNext, dSeq, dDrop, dRet, dIfS, dNever, dFrz, hName, hNil, hCons, hTup, hSub, dAsg, dAug, dipI, dNil, dCons, dTup, dLst, dLstM, dIx, dSet, dCall, dwipe, dYes, jSeq, jRng1, jRng2, dCB, dLen, dList, dListM, dTuple, dAbs, dInt, dBM0, dBM, dAppend, dPop, dPopAt, dAndV, dNotV, dNeg, dIn, dNoPart, dPart, dSl, dSlM, dNewK, dIsi, dIsiT, dLc, dFor, dDc, dCallS, dRaise, dTry, dIsE, dSortD, dFrzE, jKeys, dIndexD, dEqS, dReprG, if_true, if_false, ite_true, ite_false, Bool.false_eq_true, reduceIte, Bool.not_true, Bool.not_false, List.getElem?_cons_zero, List.getElem?_cons_succ, List.set_cons_zero, List.set_cons_succ, List.map_cons, List.map_nil, List.replicate, List.cons_append, List.nil_append, List.length_cons, List.length_nil, dstart]
        refine ⟨.int (j : Int), ?_, .int ((t + 1 : Nat) : Int), fx, ok_int _ _, ok_int _ _, ?_⟩
        · simp only [dIxV, hr', dLook, keyOf, Option.map_some, Option.bind_some, id]
          exact dval_at nd hj
        rw [D.eq_int]
        by_cases e : j = t
        · subst e
          rw [show ((j : Int) == ((j + 1 : Nat) : Int) - 1) = true from beq_iff_eq.mpr (by omega)]
          exact qt (decide_eq_true hj)
        · rw [show ((j : Int) == ((t + 1 : Nat) : Int) - 1) = false from beq_eq_false_iff_ne.mpr (by omega)]
          exact qf (decide_eq_false fun h2 => e (((hk y j).mp hj).uniq ((hk y t).mp h2)))
      · have ef : (((srt (nbr ps x)).map D.int).filter fun e => match e with | .int y => decide ((y, t) ∈ kt) | _ => false).map (fun e => e) = ((srt (nbr ps x)).filter fun y => decide ((y, t) ∈ kt)).map .int := by
          rw [List.map_id', List.filter_map]; rfl
        rw [ef]
        obtain ⟨z, hz, h1, h2⟩ := hx.back
        have zm : z ∈ (srt (nbr ps x)).filter fun y => decide ((y, t) ∈ kt) := List.mem_filter.mpr ⟨srt_mem.mpr (nbr_symm.mp h1), decide_eq_true ((hk z t).mpr hz)⟩
        have pw : ((srt (nbr ps x)).filter fun y => decide ((y, t) ∈ kt)).Pairwise (· ≤ ·) := (srt_pw (nbr ps x)).filter _
        have mem : ∀ y, y ∈ (srt (nbr ps x)).filter (fun y => decide ((y, t) ∈ kt)) ↔ y ∈ nbr ps x ∧ Dst ps (allOf n) g t y := fun y => by
          rw [List.mem_filter, srt_mem, decide_eq_true_iff, hk]
        revert zm pw mem
        generalize (srt (nbr ps x)).filter (fun y => decide ((y, t) ∈ kt)) = ys
        intro zm pw mem
        obtain ⟨y, ys', rfl⟩ : ∃ y ys', ys = y :: ys' := by
          cases ys with
          | nil => cases zm
          | cons y ys' => exact ⟨y, ys', rfl⟩
        obtain ⟨y1, y2⟩ := (mem y).mp List.mem_cons_self
        rw [List.pairwise_cons] at pw
        refine ⟨.int y, atI_at (k := 0) rfl rfl, ?_⟩
        simp only [tyD, hu']
        refine ⟨trivial, len_lt (by rw [List.length_map]; omega), t, Nat.lt_succ_self t, _, pre ++ [y], y, rfl, ?_, ?_, ag.trans (Agree.mset (by simp)), y2, fun l hl => ?_, ?_⟩
        · rw [mset_same, List.map_append]; rfl
        · rw [mset_ne (Ne.symm nur)]; exact hr'
        · rw [List.append_assoc]
          refine hway _ ⟨y, y :: l, rfl, hl, y1, y2, fun v v1 v2 => ?_⟩
          rcases List.mem_cons.mp ((mem v).mpr ⟨v1, v2⟩) with e | e
          · omega
          · exact pw.1 v e
        · rw [List.length_append, List.length_singleton]; omega
  obtain ⟨o5, o6, l, rfl, hu', ag, hw⟩ := h
  simp only [dVar, dC, dOp, dTest, dII, dIC, dFld, dFldS, dMake, dProp, dLcM, toM, dppNil, dppCons, dMerge, dDisp, dCatL, dRep, dRepM, dExtend, dChain, dEq, dAnd, dOr, dNot, dIfE, dNext, dSeq, dDrop, dRet, dIfS, dNever, dFrz, hName, hNil, hCons, hTup, hSub, dAsg, dAug, dipI, dNil, dCons, dTup, dLst, dLstM, dIx, dSet, dCall, dwipe, dYes, jSeq, jRng1, jRng2, dCB, dLen, dList, dListM, dTuple, dAbs, dInt, dBM0, dBM, dAppend, dPop, dPopAt, dAndV, dNotV, dNeg, dIn, dNoPart, dPart, dSl, dSlM, dNewK, dIsi, dIsiT, dLc, dFor, dDc, dCallS, dRaise, dTry, dIsE, dSortD, dFrzE, jKeys, dIndexD, dEqS, dReprG, if_true, if_false, ite_true, ite_false, Bool.false_eq_true, reduceIte, Bool.not_true, Bool.not_false, List.getElem?_cons_zero, List.getElem?_cons_succ, List.set_cons_zero, List.set_cons_succ, List.map_cons, List.map_nil, List.replicate, List.cons_append, List.nil_append, List.length_cons, List.length_nil, dstart]
  simp only [hu']
  refine fin_less (fun p o h => ?_) (q T l hT hw)
  rw [ag p (by
    simp only [List.mem_cons, List.not_mem_nil, or_false, not_or]
    exact ⟨fun z => by (rw [z, hr] at h; cases h), fun z => by (rw [z, hu] at h; cases h)⟩)]
  exact h
theorem sc__law_word : FnScope ["_law_which", "_law_book_here", "_law_first", "_law_other", "_law_word_here", "error", "_law_flags", "_law_flag"] ["_law_which", "_law_book_here", "_law_first", "_law_other"] (defScope s__law_word) := ⟨rfl, rfl, rfl, by decide +kernel, rfl, by decide +kernel, by decide +kernel⟩
def sp__law_word (C_TB : Addr) : DSp := fun ds M Q _ => ∃ b n ps d k f o, ds = [.int k, .ref b, f, o] ∧ BookAt C_TB M b n ps d ∧ WordSh k f o ∧ ∀ M2, Ext M M2 [] → Q (.str (wordS n k f o)) M2
theorem c__law_word {C_TB E_NoLog E_NoContent E_LandsError : Addr} (F : DFun K mg "_law_word" s__law_word ["_law_which", "_law_book_here", "_law_first", "_law_other"]) (B : Bn mg) (G : Gs mg) (c_can_have_stood : DCal P w K mg base (L2N.CX P w) 6 "can_have_stood" (sp_can_have_stood C_TB E_NoLog)) (c_can_stand : DCal P w K mg base (L2N.CX P w) 6 "can_stand" (sp_can_stand C_TB E_NoContent E_NoLog)) (c_shortest_log : DCal P w K mg base (L2N.CX P w) 5 "shortest_log" (sp_shortest_log C_TB E_NoContent)) (EX_LandsError : mg "LandsError" = some (.ref E_LandsError)) (EX_NoContent : mg "NoContent" = some (.ref E_NoContent)) (EX_NoLog : mg "NoLog" = some (.ref E_NoLog)) (XS : Exs K E_LandsError E_NoContent E_NoLog) : DCal P w K mg base CX0 7 "_law_word" (sp__law_word C_TB) := by
  refine dok F sc__law_word (fun ds M Q E h => (by obtain ⟨_, h⟩ := h; first | (obtain ⟨e, _⟩ := h; subst e; rfl) | (obtain ⟨_, e, _⟩ := h; subst e; rfl) | (obtain ⟨_, _, e, _⟩ := h; subst e; rfl) | (obtain ⟨_, _, _, e, _⟩ := h; subst e; rfl) | (obtain ⟨_, _, _, _, e, _⟩ := h; subst e; rfl) | (obtain ⟨_, _, _, _, _, e, _⟩ := h; subst e; rfl) | (obtain ⟨_, _, _, _, _, _, e, _⟩ := h; subst e; rfl) | (obtain ⟨_, _, _, _, _, _, _, e, _⟩ := h; subst e; rfl) | (obtain ⟨_, _, _, _, _, _, _, _, e, _⟩ := h; subst e; rfl) | (obtain ⟨_, _, _, _, _, _, _, _, _, e, _⟩ := h; subst e; rfl) | (obtain ⟨_, _, _, _, _, _, _, _, _, _, e, _⟩ := h; subst e; rfl) | (obtain ⟨_, _, _, _, _, _, _, _, _, _, _, e, _⟩ := h; subst e; rfl) | (obtain ⟨_, _, _, _, _, _, _, _, _, _, _, _, e, _⟩ := h; subst e; rfl) | (obtain ⟨_, _, _, _, _, _, _, _, _, _, _, _, _, e, _⟩ := h; subst e; rfl) | (obtain ⟨_, _, _, _, _, _, _, _, _, _, _, _, _, _, e, _⟩ := h; subst e; rfl) | (obtain ⟨_, _, _, _, _, _, _, _, _, _, _, _, _, _, _, e, _⟩ := h; subst e; rfl) | (obtain ⟨_, _, _, _, _, _, _, _, _, _, _, _, _, _, _, _, e, _⟩ := h; subst e; rfl) | (obtain ⟨_, _, _, _, _, _, _, _, _, _, _, _, _, _, _, _, _, e, _⟩ := h; subst e; rfl) | (obtain ⟨_, _, _, _, _, _, _, _, _, _, _, _, _, _, _, _, _, _, e, _⟩ := h; subst e; rfl) | (obtain ⟨_, _, _, _, _, _, _, _, _, _, _, _, _, _, _, _, _, _, _, e, _⟩ := h; subst e; rfl) | (obtain ⟨_, _, _, _, _, _, _, _, _, _, _, _, _, _, _, _, _, _, _, _, e, _⟩ := h; subst e; rfl) | (obtain ⟨_, _, _, _, _, _, _, _, _, _, _, _, _, _, _, _, _, _, _, _, _, e, _⟩ := h; subst e; rfl) | (obtain ⟨_, _, _, _, _, _, _, _, _, _, _, _, _, _, _, _, _, _, _, _, _, _, e, _⟩ := h; subst e; rfl) | (obtain ⟨_, _, _, _, _, _, _, _, _, _, _, _, _, _, _, _, _, _, _, _, _, _, _, e, _⟩ := h; subst e; rfl) | (obtain ⟨_, _, _, _, _, _, _, _, _, _, _, _, _, _, _, _, _, _, _, _, _, _, _, _, e, _⟩ := h; subst e; rfl) | (obtain ⟨_, _, _, _, _, _, _, _, _, _, _, _, _, _, _, _, _, _, _, _, _, _, _, _, _, e, _⟩ := h; subst e; rfl))) (fun f cdv A outer s H E F0 hr => ?_)
  have nd := (sc__law_word).nd
  refine ⟨_, _, (db_cons (ds_set 4 nd de_str)
      (db_cons (ds_tryAs 5 nd ⟨rfl, by decide, Or.inl EX_LandsError⟩ takesN (fun F1 E pn xe tk => ⟨_, (db_one (ds_if (dt_eq hr (de_var 0) de_int) (db_one (ds_expr (de_callS c_can_stand hr tk (da_cons (de_var 1) (da_cons (de_var 2) (da_cons (de_var 3) da_nil)))))) (db_one (ds_if (dt_eq hr (de_var 0) de_int) (db_one (ds_expr (de_callS c_can_have_stood hr tk (da_cons (de_var 1) (da_cons (de_var 3) da_nil))))) (db_one (ds_expr (de_callS c_shortest_log hr tk (da_cons (de_var 1) (da_cons (de_var 2) (da_cons (de_var 3) da_nil))))))))))⟩) (fun a Dc oe pn hx hz hf => ⟨_, (db_cons (ds_set 6 nd (de_lst (da_cons (de_isE hx hz hf B.isinstance (da_cons (de_var 5) (da_cons (de_cls EX_NoContent) da_nil))) (da_cons (de_isE hx hz hf B.isinstance (da_cons (de_var 5) (da_cons (de_cls EX_NoLog) da_nil))) da_nil))))
      (db_cons (ds_set 4 nd de_str)
      (db_one (ds_if (DW.dt (dw_and (dt_eqU (by have z := room200 hr; exact z) (de_len B.len (da_cons (dx_lcH0 (own := [("_law_flag", 7)]) (hotY rfl List.mem_cons_self hz hf) nd (di_seqH (de_var 6)) (blkOk_by (N := ["_law_which", "_law_book_here", "_law_first", "_law_other", "_law_word_here", "error", "_law_flags", "_law_flag"]) (sc := defScope s__law_word) (by decide +kernel)) (fun _ _ _ _ _ => ⟨_, (dg_name 7 nd), (gw_name (by decide))⟩) (fun _ _ _ _ _ => ⟨_, (dts_one (dt_val (de_var 7)))⟩) (fun _ _ _ _ _ => ⟨_, (de_var 7)⟩)) da_nil)) de_int) (dw_and1 (dt_val (de_isE hx hz hf B.isinstance (da_cons (de_var 5) (da_cons (de_ty (n := "ValueError") B.ValueError) da_nil))))))) (db_one (ds_set 4 nd (de_ixU (by have z := room200 hr; exact z) (de_lst (da_cons de_str (da_cons de_str da_nil))) (de_indexU (by have z := room200 hr; exact z) (de_var 6) (da_cons de_bl da_nil))))) db_nil))))⟩))
      (db_one (ds_ret (de_var 4))))), ?_⟩
  rintro ds M Q E ⟨b, n, ps, d, k, f, o, rfl, B, S, q⟩
  simp only [dVar, dC, dOp, dTest, dII, dIC, dFld, dFldS, dMake, dProp, dLcM, toM, dppNil, dppCons, dMerge, dDisp, dCatL, dRep, dRepM, dExtend, dChain, dEq, dAnd, dOr, dNot, dIfE, dNext, dSeq, dDrop, dRet, dIfS, dNever, dFrz, hName, hNil, hCons, hTup, hSub, dAsg, dAug, dipI, dNil, dCons, dTup, dLst, dLstM, dIx, dSet, dCall, dwipe, dYes, jSeq, jRng1, jRng2, dCB, dLen, dList, dListM, dTuple, dAbs, dInt, dBM0, dBM, dAppend, dPop, dPopAt, dAndV, dNotV, dNeg, dIn, dNoPart, dPart, dSl, dSlM, dNewK, dIsi, dIsiT, dLc, dFor, dDc, dCallS, dRaise, dTry, dIsE, dSortD, dFrzE, jKeys, dIndexD, dEqS, dReprG, if_true, if_false, ite_true, ite_false, Bool.false_eq_true, reduceIte, Bool.not_true, Bool.not_false, List.getElem?_cons_zero, List.getElem?_cons_succ, List.set_cons_zero, List.set_cons_succ, List.map_cons, List.map_nil, List.replicate, List.cons_append, List.nil_append, List.length_cons, List.length_nil, dstart]
  refine ⟨rfl, rfl, ?_⟩
  rw [D.eq_int]
  by_cases k0 : k = 0
  · subst k0
    rw [if_pos (by rfl)]
    obtain ⟨fa, so⟩ : anyD f = true ∧ LogSh o := by
      rcases S with ⟨_, h1, h2⟩ | ⟨h, _⟩ | ⟨h, _⟩
      · exact ⟨h1, h2⟩
      · cases h
      · cases h
    have q : ∀ M2, Ext M M2 [] → Q (.str (if f.within 0 (n - 1) then (if logB n o then "told" else "log") else "content")) M2 := q
    refine ⟨b, n, ps, d, f, o, rfl, B, fa, so, fun hf => ?_, fun hf ho => ?_, fun hf ho l => ?_⟩
    · rw [hf] at q
      refine ⟨E_NoContent, true, rfl, rfl, XS.c_NoContent, XS.m_NoContent_LandsError, fun _ a ha => ?_, fun z => by cases z⟩
      simp only [dVar, dC, dOp, dTest, dII, dIC, dFld, dFldS, dMake, dProp, dLcM, toM, dppNil, dppCons, dMerge, dDisp, dCatL, dRep, dRepM, dExtend, dChain, dEq, dAnd, dOr, dNot, dIfE, dNext, dSeq, dDrop, dRet, dIfS, dNever, dFrz, hName, hNil, hCons, hTup, hSub, dAsg, dAug, dipI, dNil, dCons, dTup, dLst, dLstM, dIx, dSet, dCall, dwipe, dYes, jSeq, jRng1, jRng2, dCB, dLen, dList, dListM, dTuple, dAbs, dInt, dBM0, dBM, dAppend, dPop, dPopAt, dAndV, dNotV, dNeg, dIn, dNoPart, dPart, dSl, dSlM, dNewK, dIsi, dIsiT, dLc, dFor, dDc, dCallS, dRaise, dTry, dIsE, dSortD, dFrzE, jKeys, dIndexD, dEqS, dReprG, if_true, if_false, ite_true, ite_false, Bool.false_eq_true, reduceIte, Bool.not_true, Bool.not_false, List.getElem?_cons_zero, List.getElem?_cons_succ, List.set_cons_zero, List.set_cons_succ, List.map_cons, List.map_nil, List.replicate, List.cons_append, List.nil_append, List.length_cons, List.length_nil, dstart]
      refine ⟨trivial, _, true, rfl, XS.k_NoContent_NoContent, trivial, _, false, rfl, XS.k_NoContent_NoLog, by decide, by decide, ?_⟩
      refine dLcI_filterS (fun M' => M' = M) [true, false] .bl id .bl rfl (fun j z M2 hl hM Q2 qf qt => ?_) (fun M2 hM => ?_)
      · subst hM
        simp only [dVar, dC, dOp, dTest, dII, dIC, dFld, dFldS, dMake, dProp, dLcM, toM, dppNil, dppCons, dMerge, dDisp, dCatL, dRep, dRepM, dExtend, dChain, dEq, dAnd, dOr, dNot, dIfE, dNext, dSeq, dDrop, dRet, dIfS, dNever, dFrz, hName, hNil, hCons, hTup, hSub, dAsg, dAug, dipI, dNil, dCons, dTup, dLst, dLstM, dIx, dSet, dCall, dwipe, dYes, jSeq, jRng1, jRng2, dCB, dLen, dList, dListM, dTuple, dAbs, dInt, dBM0, dBM, dAppend, dPop, dPopAt, dAndV, dNotV, dNeg, dIn, dNoPart, dPart, dSl, dSlM, dNewK, dIsi, dIsiT, dLc, dFor, dDc, dCallS, dRaise, dTry, dIsE, dSortD, dFrzE, jKeys, dIndexD, dEqS, dReprG, if_true, if_false, ite_true, ite_false, Bool.false_eq_true, reduceIte, Bool.not_true, Bool.not_false, List.getElem?_cons_zero, List.getElem?_cons_succ, List.set_cons_zero, List.set_cons_succ, List.map_cons, List.map_nil, List.replicate, List.cons_append, List.nil_append, List.length_cons, List.length_nil, dstart]
        cases z with
        | true => exact qt _ rfl rfl
        | false => exact qf _ rfl rfl
      rw [show M2 = M from hM]
      refine ⟨1, rfl, rfl, rfl, ?_⟩
      rw [D.eq_int, if_pos (by rfl)]
      refine ⟨trivial, _, true, rfl, XS.b_NoContent_ValueError, ?_⟩
      rw [if_pos rfl]
      refine ⟨by decide, rfl, _, 0, .bl true, rfl, rfl, rfl, rfl, by decide +kernel, fun m z' hm hz => ?_, .str "content", ixL_at (k := 0) rfl rfl, fin_self (q M (Ext.refl M []))⟩
      omega
    · rw [hf, ho] at q
      refine ⟨E_NoLog, true, rfl, rfl, XS.c_NoLog, XS.m_NoLog_LandsError, fun _ a ha => ?_, fun z => by cases z⟩
      simp only [dVar, dC, dOp, dTest, dII, dIC, dFld, dFldS, dMake, dProp, dLcM, toM, dppNil, dppCons, dMerge, dDisp, dCatL, dRep, dRepM, dExtend, dChain, dEq, dAnd, dOr, dNot, dIfE, dNext, dSeq, dDrop, dRet, dIfS, dNever, dFrz, hName, hNil, hCons, hTup, hSub, dAsg, dAug, dipI, dNil, dCons, dTup, dLst, dLstM, dIx, dSet, dCall, dwipe, dYes, jSeq, jRng1, jRng2, dCB, dLen, dList, dListM, dTuple, dAbs, dInt, dBM0, dBM, dAppend, dPop, dPopAt, dAndV, dNotV, dNeg, dIn, dNoPart, dPart, dSl, dSlM, dNewK, dIsi, dIsiT, dLc, dFor, dDc, dCallS, dRaise, dTry, dIsE, dSortD, dFrzE, jKeys, dIndexD, dEqS, dReprG, if_true, if_false, ite_true, ite_false, Bool.false_eq_true, reduceIte, Bool.not_true, Bool.not_false, List.getElem?_cons_zero, List.getElem?_cons_succ, List.set_cons_zero, List.set_cons_succ, List.map_cons, List.map_nil, List.replicate, List.cons_append, List.nil_append, List.length_cons, List.length_nil, dstart]
      refine ⟨trivial, _, false, rfl, XS.k_NoLog_NoContent, trivial, _, true, rfl, XS.k_NoLog_NoLog, by decide, by decide, ?_⟩
      refine dLcI_filterS (fun M' => M' = M) [false, true] .bl id .bl rfl (fun j z M2 hl hM Q2 qf qt => ?_) (fun M2 hM => ?_)
      · subst hM
        simp only [dVar, dC, dOp, dTest, dII, dIC, dFld, dFldS, dMake, dProp, dLcM, toM, dppNil, dppCons, dMerge, dDisp, dCatL, dRep, dRepM, dExtend, dChain, dEq, dAnd, dOr, dNot, dIfE, dNext, dSeq, dDrop, dRet, dIfS, dNever, dFrz, hName, hNil, hCons, hTup, hSub, dAsg, dAug, dipI, dNil, dCons, dTup, dLst, dLstM, dIx, dSet, dCall, dwipe, dYes, jSeq, jRng1, jRng2, dCB, dLen, dList, dListM, dTuple, dAbs, dInt, dBM0, dBM, dAppend, dPop, dPopAt, dAndV, dNotV, dNeg, dIn, dNoPart, dPart, dSl, dSlM, dNewK, dIsi, dIsiT, dLc, dFor, dDc, dCallS, dRaise, dTry, dIsE, dSortD, dFrzE, jKeys, dIndexD, dEqS, dReprG, if_true, if_false, ite_true, ite_false, Bool.false_eq_true, reduceIte, Bool.not_true, Bool.not_false, List.getElem?_cons_zero, List.getElem?_cons_succ, List.set_cons_zero, List.set_cons_succ, List.map_cons, List.map_nil, List.replicate, List.cons_append, List.nil_append, List.length_cons, List.length_nil, dstart]
        cases z with
        | true => exact qt _ rfl rfl
        | false => exact qf _ rfl rfl
      rw [show M2 = M from hM]
      refine ⟨1, rfl, rfl, rfl, ?_⟩
      rw [D.eq_int, if_pos (by rfl)]
      refine ⟨trivial, _, true, rfl, XS.b_NoLog_ValueError, ?_⟩
      rw [if_pos rfl]
      refine ⟨by decide, rfl, _, 1, .bl true, rfl, rfl, rfl, rfl, by decide +kernel, fun m z' hm hz => ?_, .str "log", ixL_at (k := 1) rfl rfl, fin_self (q M (Ext.refl M []))⟩
      obtain rfl : m = 0 := by omega
      cases hz
      decide +kernel
    · rw [hf, ho] at q
      exact fin_self (q M (Ext.refl M []))
  rw [if_neg (by simpa using k0)]
  refine ⟨rfl, rfl, ?_⟩
  rw [D.eq_int]
  by_cases k1 : k = 1
  · subst k1
    rw [if_pos (by rfl)]
    have so : LogSh o := by
      rcases S with ⟨h, _⟩ | ⟨_, h⟩ | ⟨h, _⟩
      · cases h
      · exact h
      · cases h
    have q : ∀ M2, Ext M M2 [] → Q (.str (if logB n o then "told" else "log")) M2 := q
    refine ⟨b, n, ps, d, o, rfl, B, so, fun ho => ?_, fun ho l a ha => ?_⟩
    · rw [ho] at q
      refine ⟨E_NoLog, true, rfl, rfl, XS.c_NoLog, XS.m_NoLog_LandsError, fun _ a ha => ?_, fun z => by cases z⟩
      simp only [dVar, dC, dOp, dTest, dII, dIC, dFld, dFldS, dMake, dProp, dLcM, toM, dppNil, dppCons, dMerge, dDisp, dCatL, dRep, dRepM, dExtend, dChain, dEq, dAnd, dOr, dNot, dIfE, dNext, dSeq, dDrop, dRet, dIfS, dNever, dFrz, hName, hNil, hCons, hTup, hSub, dAsg, dAug, dipI, dNil, dCons, dTup, dLst, dLstM, dIx, dSet, dCall, dwipe, dYes, jSeq, jRng1, jRng2, dCB, dLen, dList, dListM, dTuple, dAbs, dInt, dBM0, dBM, dAppend, dPop, dPopAt, dAndV, dNotV, dNeg, dIn, dNoPart, dPart, dSl, dSlM, dNewK, dIsi, dIsiT, dLc, dFor, dDc, dCallS, dRaise, dTry, dIsE, dSortD, dFrzE, jKeys, dIndexD, dEqS, dReprG, if_true, if_false, ite_true, ite_false, Bool.false_eq_true, reduceIte, Bool.not_true, Bool.not_false, List.getElem?_cons_zero, List.getElem?_cons_succ, List.set_cons_zero, List.set_cons_succ, List.map_cons, List.map_nil, List.replicate, List.cons_append, List.nil_append, List.length_cons, List.length_nil, dstart]
      refine ⟨trivial, _, false, rfl, XS.k_NoLog_NoContent, trivial, _, true, rfl, XS.k_NoLog_NoLog, by decide, by decide, ?_⟩
      refine dLcI_filterS (fun M' => M' = M) [false, true] .bl id .bl rfl (fun j z M2 hl hM Q2 qf qt => ?_) (fun M2 hM => ?_)
      · subst hM
        simp only [dVar, dC, dOp, dTest, dII, dIC, dFld, dFldS, dMake, dProp, dLcM, toM, dppNil, dppCons, dMerge, dDisp, dCatL, dRep, dRepM, dExtend, dChain, dEq, dAnd, dOr, dNot, dIfE, dNext, dSeq, dDrop, dRet, dIfS, dNever, dFrz, hName, hNil, hCons, hTup, hSub, dAsg, dAug, dipI, dNil, dCons, dTup, dLst, dLstM, dIx, dSet, dCall, dwipe, dYes, jSeq, jRng1, jRng2, dCB, dLen, dList, dListM, dTuple, dAbs, dInt, dBM0, dBM, dAppend, dPop, dPopAt, dAndV, dNotV, dNeg, dIn, dNoPart, dPart, dSl, dSlM, dNewK, dIsi, dIsiT, dLc, dFor, dDc, dCallS, dRaise, dTry, dIsE, dSortD, dFrzE, jKeys, dIndexD, dEqS, dReprG, if_true, if_false, ite_true, ite_false, Bool.false_eq_true, reduceIte, Bool.not_true, Bool.not_false, List.getElem?_cons_zero, List.getElem?_cons_succ, List.set_cons_zero, List.set_cons_succ, List.map_cons, List.map_nil, List.replicate, List.cons_append, List.nil_append, List.length_cons, List.length_nil, dstart]
        cases z with
        | true => exact qt _ rfl rfl
        | false => exact qf _ rfl rfl
      rw [show M2 = M from hM]
      refine ⟨1, rfl, rfl, rfl, ?_⟩
      rw [D.eq_int, if_pos (by rfl)]
      refine ⟨trivial, _, true, rfl, XS.b_NoLog_ValueError, ?_⟩
      rw [if_pos rfl]
      refine ⟨by decide, rfl, _, 1, .bl true, rfl, rfl, rfl, rfl, by decide +kernel, fun m z' hm hz => ?_, .str "log", ixL_at (k := 1) rfl rfl, fin_self (q M (Ext.refl M []))⟩
      obtain rfl : m = 0 := by omega
      cases hz
      decide +kernel
    · rw [ho] at q
      exact fin_self (q _ ((Ext.refl M []).mset ha))
  · rw [if_neg (by simpa using k1)]
    obtain ⟨rfl, fa, so⟩ : k = 2 ∧ anyD f = true ∧ anyD o = true := by
      rcases S with ⟨h, _⟩ | ⟨h, _⟩ | h
      · exact absurd h k0
      · exact absurd h k1
      · exact h
    have q : ∀ M2, Ext M M2 [] → Q (.str (if cntB n [f, o] then "told" else "content")) M2 := q
    refine ⟨b, n, ps, d, f, o, rfl, B, fa, so, fun hc => ?_, fun hc l => ?_⟩
    · rw [hc] at q
      refine ⟨E_NoContent, true, rfl, rfl, XS.c_NoContent, XS.m_NoContent_LandsError, fun _ a ha => ?_, fun z => by cases z⟩
      simp only [dVar, dC, dOp, dTest, dII, dIC, dFld, dFldS, dMake, dProp, dLcM, toM, dppNil, dppCons, dMerge, dDisp, dCatL, dRep, dRepM, dExtend, dChain, dEq, dAnd, dOr, dNot, dIfE, dNext, dSeq, dDrop, dRet, dIfS, dNever, dFrz, hName, hNil, hCons, hTup, hSub, dAsg, dAug, dipI, dNil, dCons, dTup, dLst, dLstM, dIx, dSet, dCall, dwipe, dYes, jSeq, jRng1, jRng2, dCB, dLen, dList, dListM, dTuple, dAbs, dInt, dBM0, dBM, dAppend, dPop, dPopAt, dAndV, dNotV, dNeg, dIn, dNoPart, dPart, dSl, dSlM, dNewK, dIsi, dIsiT, dLc, dFor, dDc, dCallS, dRaise, dTry, dIsE, dSortD, dFrzE, jKeys, dIndexD, dEqS, dReprG, if_true, if_false, ite_true, ite_false, Bool.false_eq_true, reduceIte, Bool.not_true, Bool.not_false, List.getElem?_cons_zero, List.getElem?_cons_succ, List.set_cons_zero, List.set_cons_succ, List.map_cons, List.map_nil, List.replicate, List.cons_append, List.nil_append, List.length_cons, List.length_nil, dstart]
      refine ⟨trivial, _, true, rfl, XS.k_NoContent_NoContent, trivial, _, false, rfl, XS.k_NoContent_NoLog, by decide, by decide, ?_⟩
      refine dLcI_filterS (fun M' => M' = M) [true, false] .bl id .bl rfl (fun j z M2 hl hM Q2 qf qt => ?_) (fun M2 hM => ?_)
      · subst hM
        simp only [dVar, dC, dOp, dTest, dII, dIC, dFld, dFldS, dMake, dProp, dLcM, toM, dppNil, dppCons, dMerge, dDisp, dCatL, dRep, dRepM, dExtend, dChain, dEq, dAnd, dOr, dNot, dIfE, dNext, dSeq, dDrop, dRet, dIfS, dNever, dFrz, hName, hNil, hCons, hTup, hSub, dAsg, dAug, dipI, dNil, dCons, dTup, dLst, dLstM, dIx, dSet, dCall, dwipe, dYes, jSeq, jRng1, jRng2, dCB, dLen, dList, dListM, dTuple, dAbs, dInt, dBM0, dBM, dAppend, dPop, dPopAt, dAndV, dNotV, dNeg, dIn, dNoPart, dPart, dSl, dSlM, dNewK, dIsi, dIsiT, dLc, dFor, dDc, dCallS, dRaise, dTry, dIsE, dSortD, dFrzE, jKeys, dIndexD, dEqS, dReprG, if_true, if_false, ite_true, ite_false, Bool.false_eq_true, reduceIte, Bool.not_true, Bool.not_false, List.getElem?_cons_zero, List.getElem?_cons_succ, List.set_cons_zero, List.set_cons_succ, List.map_cons, List.map_nil, List.replicate, List.cons_append, List.nil_append, List.length_cons, List.length_nil, dstart]
        cases z with
        | true => exact qt _ rfl rfl
        | false => exact qf _ rfl rfl
      rw [show M2 = M from hM]
      refine ⟨1, rfl, rfl, rfl, ?_⟩
      rw [D.eq_int, if_pos (by rfl)]
      refine ⟨trivial, _, true, rfl, XS.b_NoContent_ValueError, ?_⟩
      rw [if_pos rfl]
      refine ⟨by decide, rfl, _, 0, .bl true, rfl, rfl, rfl, rfl, by decide +kernel, fun m z' hm hz => ?_, .str "content", ixL_at (k := 0) rfl rfl, fin_self (q M (Ext.refl M []))⟩
      omega
    · rw [hc] at q
      exact fin_self (q M (Ext.refl M []))
theorem sc_is_rising_pair : FnScope ["thing", "many"] ["thing", "many"] (defScope s_is_rising_pair) := ⟨rfl, rfl, rfl, by decide +kernel, rfl, by decide +kernel, by decide +kernel⟩
def sp_is_rising_pair : DSp := fun ds M Q _ => ∃ p n, ds = [prD p, .int n] ∧ prOk n p ∧ Q (.bl true) M
theorem c_is_rising_pair (F : DFun K mg "is_rising_pair" s_is_rising_pair ["thing", "many"]) (B : Bn mg) (G : Gs mg) (c_is_index : DCal P w K mg base CX0 3 "is_index" sp_is_index) : DCal P w K mg base CX0 4 "is_rising_pair" sp_is_rising_pair := by
  refine dok F sc_is_rising_pair (fun ds M Q E h => (by obtain ⟨_, h⟩ := h; first | (obtain ⟨e, _⟩ := h; subst e; rfl) | (obtain ⟨_, e, _⟩ := h; subst e; rfl) | (obtain ⟨_, _, e, _⟩ := h; subst e; rfl) | (obtain ⟨_, _, _, e, _⟩ := h; subst e; rfl) | (obtain ⟨_, _, _, _, e, _⟩ := h; subst e; rfl) | (obtain ⟨_, _, _, _, _, e, _⟩ := h; subst e; rfl) | (obtain ⟨_, _, _, _, _, _, e, _⟩ := h; subst e; rfl) | (obtain ⟨_, _, _, _, _, _, _, e, _⟩ := h; subst e; rfl) | (obtain ⟨_, _, _, _, _, _, _, _, e, _⟩ := h; subst e; rfl) | (obtain ⟨_, _, _, _, _, _, _, _, _, e, _⟩ := h; subst e; rfl) | (obtain ⟨_, _, _, _, _, _, _, _, _, _, e, _⟩ := h; subst e; rfl) | (obtain ⟨_, _, _, _, _, _, _, _, _, _, _, e, _⟩ := h; subst e; rfl) | (obtain ⟨_, _, _, _, _, _, _, _, _, _, _, _, e, _⟩ := h; subst e; rfl) | (obtain ⟨_, _, _, _, _, _, _, _, _, _, _, _, _, e, _⟩ := h; subst e; rfl) | (obtain ⟨_, _, _, _, _, _, _, _, _, _, _, _, _, _, e, _⟩ := h; subst e; rfl) | (obtain ⟨_, _, _, _, _, _, _, _, _, _, _, _, _, _, _, e, _⟩ := h; subst e; rfl) | (obtain ⟨_, _, _, _, _, _, _, _, _, _, _, _, _, _, _, _, e, _⟩ := h; subst e; rfl) | (obtain ⟨_, _, _, _, _, _, _, _, _, _, _, _, _, _, _, _, _, e, _⟩ := h; subst e; rfl) | (obtain ⟨_, _, _, _, _, _, _, _, _, _, _, _, _, _, _, _, _, _, e, _⟩ := h; subst e; rfl) | (obtain ⟨_, _, _, _, _, _, _, _, _, _, _, _, _, _, _, _, _, _, _, e, _⟩ := h; subst e; rfl) | (obtain ⟨_, _, _, _, _, _, _, _, _, _, _, _, _, _, _, _, _, _, _, _, e, _⟩ := h; subst e; rfl) | (obtain ⟨_, _, _, _, _, _, _, _, _, _, _, _, _, _, _, _, _, _, _, _, _, e, _⟩ := h; subst e; rfl) | (obtain ⟨_, _, _, _, _, _, _, _, _, _, _, _, _, _, _, _, _, _, _, _, _, _, e, _⟩ := h; subst e; rfl) | (obtain ⟨_, _, _, _, _, _, _, _, _, _, _, _, _, _, _, _, _, _, _, _, _, _, _, e, _⟩ := h; subst e; rfl) | (obtain ⟨_, _, _, _, _, _, _, _, _, _, _, _, _, _, _, _, _, _, _, _, _, _, _, _, e, _⟩ := h; subst e; rfl) | (obtain ⟨_, _, _, _, _, _, _, _, _, _, _, _, _, _, _, _, _, _, _, _, _, _, _, _, _, e, _⟩ := h; subst e; rfl))) (fun f cdv A outer s H E F0 hr => ?_)
  have nd := (sc_is_rising_pair).nd
  refine ⟨_, _, (db_cons (ds_if (DW.dt (dw_or (dt_not (dt_val (de_isi B.isinstance (da_cons (de_var 0) (da_cons (de_ty (n := "tuple") B.tuple) da_nil))))) (dw_or1 (dt_ne hr (de_len B.len (da_cons (de_var 0) da_nil)) de_int)))) (db_one (ds_ret de_bl)) db_nil)
      (db_one (ds_ret (de_and (de_call c_is_index hr (goes0A (E := DXK.no)) (da_cons (de_ix hr (de_var 0) de_int) (da_cons (de_var 1) da_nil))) (de_and (de_call c_is_index hr (goes0A (E := DXK.no)) (da_cons (de_ix hr (de_var 0) de_int) (da_cons (de_var 1) da_nil))) (de_one (de_lt (de_ix hr (de_var 0) de_int) (de_ix hr (de_var 0) de_int)))))))), ?_⟩
  rintro ds M Q E ⟨⟨x, y⟩, n, rfl, ⟨h1, h2, h3⟩, q⟩
  simp only at h1 h2 h3
  simp only [dVar, dC, dOp, dTest, dII, dIC, dFld, dFldS, dMake, dProp, dLcM, toM, dppNil, dppCons, dMerge, dDisp, dCatL, dRep, dRepM, dExtend, dChain, dEq, dAnd, dOr, dNot, dIfE, dNext, dSeq, dDrop, dRet, dIfS, dNever, dFrz, hName, hNil, hCons, hTup, hSub, dAsg, dAug, dipI, dNil, dCons, dTup, dLst, dLstM, dIx, dSet, dCall, dwipe, dYes, jSeq, jRng1, jRng2, dCB, dLen, dList, dListM, dTuple, dAbs, dInt, dBM0, dBM, dAppend, dPop, dPopAt, dAndV, dNotV, dNeg, dIn, dNoPart, dPart, dSl, dSlM, dNewK, dIsi, dIsiT, dLc, dFor, dDc, dCallS, dRaise, dTry, dIsE, dSortD, dFrzE, jKeys, dIndexD, dEqS, dReprG, if_true, if_false, ite_true, ite_false, Bool.false_eq_true, reduceIte, Bool.not_true, Bool.not_false, List.getElem?_cons_zero, List.getElem?_cons_succ, List.set_cons_zero, List.set_cons_succ, List.map_cons, List.map_nil, List.replicate, List.cons_append, List.nil_append, List.length_cons, List.length_nil, dstart, prD, dIsi]
  refine ⟨by decide +kernel, "tuple", rfl, ?_⟩
  rw [show isiT "tuple" "tuple" = true from by decide +kernel]
  simp only [if_true, if_false, ite_true, ite_false, Bool.false_eq_true, reduceIte, Bool.not_true, Bool.not_false, List.getElem?_cons_zero, List.getElem?_cons_succ, List.set_cons_zero, List.set_cons_succ, List.map_cons, List.map_nil, List.replicate, List.cons_append, List.nil_append, List.length_cons, List.length_nil, dstart]
  refine ⟨2, rfl, rfl, rfl, ?_⟩
  have i0 : ∀ M', dIxV M' (D.tup [D.int x, D.int y]) (D.int 0) = some (.int x) := fun _ => rfl
  have i1 : ∀ M', dIxV M' (D.tup [D.int x, D.int y]) (D.int 1) = some (.int y) := fun _ => rfl
  rw [if_neg (by decide +kernel)]
  refine ⟨_, i0 M, _, n, rfl, rfl, ?_⟩
  have e1 : (D.int x).within 0 (n - 1) = true := by simp only [D.within, Bool.and_eq_true, decide_eq_true_eq]; omega
  have e2 : (D.int y).within 0 (n - 1) = true := by simp only [D.within, Bool.and_eq_true, decide_eq_true_eq]; omega
  rw [e1]
  simp only [if_true, if_false, ite_true, ite_false, Bool.false_eq_true, reduceIte, Bool.not_true, Bool.not_false, List.getElem?_cons_zero, List.getElem?_cons_succ, List.set_cons_zero, List.set_cons_succ, List.map_cons, List.map_nil, List.replicate, List.cons_append, List.nil_append, List.length_cons, List.length_nil, dstart]
  refine ⟨_, i1 M, _, n, rfl, rfl, ?_⟩
  rw [e2]
  simp only [if_true, if_false, ite_true, ite_false, Bool.false_eq_true, reduceIte, Bool.not_true, Bool.not_false, List.getElem?_cons_zero, List.getElem?_cons_succ, List.set_cons_zero, List.set_cons_succ, List.map_cons, List.map_nil, List.replicate, List.cons_append, List.nil_append, List.length_cons, List.length_nil, dstart]
  refine ⟨_, i0 M, _, i1 M, ?_⟩
  simp only [decide_eq_true h2]
  exact fin_self q
theorem sc_are_rising_pairs : FnScope ["thing", "many", "most", "pair", "at"] ["thing", "many", "most"] (defScope s_are_rising_pairs) := ⟨rfl, rfl, rfl, by decide +kernel, rfl, by decide +kernel, by decide +kernel⟩
def sp_are_rising_pairs : DSp := fun ds M Q _ => ∃ (ps : List (Int × Int)) (n most : Int), ds = [.tup (ps.map prD), .int n, .int most] ∧ (ps.length : Int) ≤ most ∧ ps.length ≤ 1000000 ∧ PrsOk n ps ∧ Q (.bl true) M
theorem c_are_rising_pairs (F : DFun K mg "are_rising_pairs" s_are_rising_pairs ["thing", "many", "most"]) (B : Bn mg) (G : Gs mg) (c_is_rising_pair : DCal P w K mg base CX0 4 "is_rising_pair" sp_is_rising_pair) : DCal P w K mg base CX0 5 "are_rising_pairs" sp_are_rising_pairs := by
  refine dok F sc_are_rising_pairs (fun ds M Q E h => (by obtain ⟨_, h⟩ := h; first | (obtain ⟨e, _⟩ := h; subst e; rfl) | (obtain ⟨_, e, _⟩ := h; subst e; rfl) | (obtain ⟨_, _, e, _⟩ := h; subst e; rfl) | (obtain ⟨_, _, _, e, _⟩ := h; subst e; rfl) | (obtain ⟨_, _, _, _, e, _⟩ := h; subst e; rfl) | (obtain ⟨_, _, _, _, _, e, _⟩ := h; subst e; rfl) | (obtain ⟨_, _, _, _, _, _, e, _⟩ := h; subst e; rfl) | (obtain ⟨_, _, _, _, _, _, _, e, _⟩ := h; subst e; rfl) | (obtain ⟨_, _, _, _, _, _, _, _, e, _⟩ := h; subst e; rfl) | (obtain ⟨_, _, _, _, _, _, _, _, _, e, _⟩ := h; subst e; rfl) | (obtain ⟨_, _, _, _, _, _, _, _, _, _, e, _⟩ := h; subst e; rfl) | (obtain ⟨_, _, _, _, _, _, _, _, _, _, _, e, _⟩ := h; subst e; rfl) | (obtain ⟨_, _, _, _, _, _, _, _, _, _, _, _, e, _⟩ := h; subst e; rfl) | (obtain ⟨_, _, _, _, _, _, _, _, _, _, _, _, _, e, _⟩ := h; subst e; rfl) | (obtain ⟨_, _, _, _, _, _, _, _, _, _, _, _, _, _, e, _⟩ := h; subst e; rfl) | (obtain ⟨_, _, _, _, _, _, _, _, _, _, _, _, _, _, _, e, _⟩ := h; subst e; rfl) | (obtain ⟨_, _, _, _, _, _, _, _, _, _, _, _, _, _, _, _, e, _⟩ := h; subst e; rfl) | (obtain ⟨_, _, _, _, _, _, _, _, _, _, _, _, _, _, _, _, _, e, _⟩ := h; subst e; rfl) | (obtain ⟨_, _, _, _, _, _, _, _, _, _, _, _, _, _, _, _, _, _, e, _⟩ := h; subst e; rfl) | (obtain ⟨_, _, _, _, _, _, _, _, _, _, _, _, _, _, _, _, _, _, _, e, _⟩ := h; subst e; rfl) | (obtain ⟨_, _, _, _, _, _, _, _, _, _, _, _, _, _, _, _, _, _, _, _, e, _⟩ := h; subst e; rfl) | (obtain ⟨_, _, _, _, _, _, _, _, _, _, _, _, _, _, _, _, _, _, _, _, _, e, _⟩ := h; subst e; rfl) | (obtain ⟨_, _, _, _, _, _, _, _, _, _, _, _, _, _, _, _, _, _, _, _, _, _, e, _⟩ := h; subst e; rfl) | (obtain ⟨_, _, _, _, _, _, _, _, _, _, _, _, _, _, _, _, _, _, _, _, _, _, _, e, _⟩ := h; subst e; rfl) | (obtain ⟨_, _, _, _, _, _, _, _, _, _, _, _, _, _, _, _, _, _, _, _, _, _, _, _, e, _⟩ := h; subst e; rfl) | (obtain ⟨_, _, _, _, _, _, _, _, _, _, _, _, _, _, _, _, _, _, _, _, _, _, _, _, _, e, _⟩ := h; subst e; rfl))) (fun f cdv A outer s H E F0 hr => ?_)
  have nd := (sc_are_rising_pairs).nd
  refine ⟨_, _, (db_cons (ds_if (DW.dt (dw_or (dt_not (dt_val (de_isi B.isinstance (da_cons (de_var 0) (da_cons (de_ty (n := "tuple") B.tuple) da_nil))))) (dw_or1 (dt_gt (de_len B.len (da_cons (de_var 0) da_nil)) (de_var 2))))) (db_one (ds_ret de_bl)) db_nil)
      (db_cons (ds_if (dt_not (dt_val (de_blt (cr_all rfl) lc_flags B.all (da_cons (dx_lc (own := [("pair", 3)]) rfl nd (di_seq (de_var 0)) (blkOk_by (N := ["thing", "many", "most", "pair", "at"]) (sc := defScope s_are_rising_pairs) (by decide +kernel)) (fun _ _ _ _ _ => ⟨_, (dg_name 3 nd), (gw_name (by decide))⟩) (fun _ _ _ _ _ => ⟨_, dts_nil⟩) (fun _ _ _ _ _ => ⟨_, (de_call c_is_rising_pair hr (goes0A (E := DXK.no)) (da_cons (de_var 3) (da_cons (de_var 1) da_nil)))⟩)) da_nil)))) (db_one (ds_ret de_bl)) db_nil)
      (db_one (ds_ret (de_not (de_blt (cr_any rfl) lc_flags B.any (da_cons (dx_lc (own := [("at", 4)]) rfl nd (di_range2 B.range (da_cons de_int (da_cons (de_len B.len (da_cons (de_var 0) da_nil)) da_nil))) (blkOk_by (N := ["thing", "many", "most", "pair", "at"]) (sc := defScope s_are_rising_pairs) (by decide +kernel)) (fun _ _ _ _ _ => ⟨_, (dg_name 4 nd), (gw_name (by decide))⟩) (fun _ _ _ _ _ => ⟨_, dts_nil⟩) (fun _ _ _ _ _ => ⟨_, (de_geT hr (de_ix hr (de_var 0) (de_sub (de_var 4) de_int)) (de_ix hr (de_var 0) (de_var 4)))⟩)) da_nil))))))), ?_⟩
  rintro ds M Q E ⟨ps, n, most, rfl, hl, hz, h, q⟩
  simp only [dVar, dC, dOp, dTest, dII, dIC, dFld, dFldS, dMake, dProp, dLcM, toM, dppNil, dppCons, dMerge, dDisp, dCatL, dRep, dRepM, dExtend, dChain, dEq, dAnd, dOr, dNot, dIfE, dNext, dSeq, dDrop, dRet, dIfS, dNever, dFrz, hName, hNil, hCons, hTup, hSub, dAsg, dAug, dipI, dNil, dCons, dTup, dLst, dLstM, dIx, dSet, dCall, dwipe, dYes, jSeq, jRng1, jRng2, dCB, dLen, dList, dListM, dTuple, dAbs, dInt, dBM0, dBM, dAppend, dPop, dPopAt, dAndV, dNotV, dNeg, dIn, dNoPart, dPart, dSl, dSlM, dNewK, dIsi, dIsiT, dLc, dFor, dDc, dCallS, dRaise, dTry, dIsE, dSortD, dFrzE, jKeys, dIndexD, dEqS, dReprG, if_true, if_false, ite_true, ite_false, Bool.false_eq_true, reduceIte, Bool.not_true, Bool.not_false, List.getElem?_cons_zero, List.getElem?_cons_succ, List.set_cons_zero, List.set_cons_succ, List.map_cons, List.map_nil, List.replicate, List.cons_append, List.nil_append, List.length_cons, List.length_nil, dstart, dIsi]
  refine ⟨by decide +kernel, "tuple", rfl, ?_⟩
  rw [if_neg (by decide +kernel)]
  refine ⟨ps.length, by simp [lenV], ?_⟩
  rw [if_neg (by simp; omega)]
  refine ⟨by rw [List.length_map]; exact len_ok (by omega), dLcI_map (fun _ => .bl true) (fun i d hd Q2 q2 => ?_) ?_⟩
  · simp only [dVar, dC, dOp, dTest, dII, dIC, dFld, dFldS, dMake, dProp, dLcM, toM, dppNil, dppCons, dMerge, dDisp, dCatL, dRep, dRepM, dExtend, dChain, dEq, dAnd, dOr, dNot, dIfE, dNext, dSeq, dDrop, dRet, dIfS, dNever, dFrz, hName, hNil, hCons, hTup, hSub, dAsg, dAug, dipI, dNil, dCons, dTup, dLst, dLstM, dIx, dSet, dCall, dwipe, dYes, jSeq, jRng1, jRng2, dCB, dLen, dList, dListM, dTuple, dAbs, dInt, dBM0, dBM, dAppend, dPop, dPopAt, dAndV, dNotV, dNeg, dIn, dNoPart, dPart, dSl, dSlM, dNewK, dIsi, dIsiT, dLc, dFor, dDc, dCallS, dRaise, dTry, dIsE, dSortD, dFrzE, jKeys, dIndexD, dEqS, dReprG, if_true, if_false, ite_true, ite_false, Bool.false_eq_true, reduceIte, Bool.not_true, Bool.not_false, List.getElem?_cons_zero, List.getElem?_cons_succ, List.set_cons_zero, List.set_cons_succ, List.map_cons, List.map_nil, List.replicate, List.cons_append, List.nil_append, List.length_cons, List.length_nil, dstart]
    obtain ⟨p, hp, rfl⟩ := get_pr hd
    exact ⟨p, n, rfl, h.ok p (List.mem_of_getElem? hp), q2⟩
  refine ⟨_, map_bl true _, ?_⟩
  have ea : (List.replicate (ps.map prD).length true).all id = true := by simp
  simp only [ea, if_true, if_false, ite_true, ite_false, Bool.false_eq_true, reduceIte, Bool.not_true, Bool.not_false, List.getElem?_cons_zero, List.getElem?_cons_succ, List.set_cons_zero, List.set_cons_succ, List.map_cons, List.map_nil, List.replicate, List.cons_append, List.nil_append, List.length_cons, List.length_nil, dstart]
  refine ⟨ps.length, by simp [lenV], by omega, by rw [rgD_len]; exact len_ok (by omega), dLcI_map (fun _ => .bl false) (fun i d hd Q2 q2 => ?_) ?_⟩
  · simp only [dVar, dC, dOp, dTest, dII, dIC, dFld, dFldS, dMake, dProp, dLcM, toM, dppNil, dppCons, dMerge, dDisp, dCatL, dRep, dRepM, dExtend, dChain, dEq, dAnd, dOr, dNot, dIfE, dNext, dSeq, dDrop, dRet, dIfS, dNever, dFrz, hName, hNil, hCons, hTup, hSub, dAsg, dAug, dipI, dNil, dCons, dTup, dLst, dLstM, dIx, dSet, dCall, dwipe, dYes, jSeq, jRng1, jRng2, dCB, dLen, dList, dListM, dTuple, dAbs, dInt, dBM0, dBM, dAppend, dPop, dPopAt, dAndV, dNotV, dNeg, dIn, dNoPart, dPart, dSl, dSlM, dNewK, dIsi, dIsiT, dLc, dFor, dDc, dCallS, dRaise, dTry, dIsE, dSortD, dFrzE, jKeys, dIndexD, dEqS, dReprG, if_true, if_false, ite_true, ite_false, Bool.false_eq_true, reduceIte, Bool.not_true, Bool.not_false, List.getElem?_cons_zero, List.getElem?_cons_succ, List.set_cons_zero, List.set_cons_succ, List.map_cons, List.map_nil, List.replicate, List.cons_append, List.nil_append, List.length_cons, List.length_nil, dstart]
    obtain ⟨hi, rfl⟩ := rgD_get hd
    have h1 : i + 1 < ps.length := by omega
    have e1 : ps[i]? = some ps[i] := List.getElem?_eq_getElem (by omega)
    have e2 : ps[i + 1]? = some ps[i + 1] := List.getElem?_eq_getElem h1
    have lt := pw_next h.lt e1 e2
    refine ⟨prD ps[i], atI_at (k := i) (by omega) (by rw [List.getElem?_map, e1]; rfl), prD ps[i + 1], atI_at (k := i + 1) (by omega) (by rw [List.getElem?_map, e2]; rfl), ?_⟩
    refine ⟨[ps[i].1, ps[i].2], [ps[i + 1].1, ps[i + 1].2], rfl, rfl, ?_⟩
    rw [geL_two, decide_eq_false (by unfold prLt at lt; omega)]
    exact q2
  refine ⟨_, map_bl false _, ?_⟩
  have eb : (List.replicate (rgD 1 ((ps.length : Int) - 1).toNat).length false).any id = false := by simp
  simp only [eb, if_true, if_false, ite_true, ite_false, Bool.false_eq_true, reduceIte, Bool.not_true, Bool.not_false, List.getElem?_cons_zero, List.getElem?_cons_succ, List.set_cons_zero, List.set_cons_succ, List.map_cons, List.map_nil, List.replicate, List.cons_append, List.nil_append, List.length_cons, List.length_nil, dstart]
  exact fin_self q
theorem sc_beside_lists : FnScope ["many", "pairs", "found", "one", "other", "_", "row"] ["many", "pairs"] (defScope s_beside_lists) := ⟨rfl, rfl, rfl, by decide +kernel, rfl, by decide +kernel, by decide +kernel⟩
def sp_beside_lists : DSp := fun ds M Q _ => ∃ (n : Int) (ps : List (Int × Int)), ds = [.int n, .tup (ps.map prD)] ∧ 0 ≤ n ∧ n ≤ 10000 ∧ ps.length ≤ 1000000 ∧ PrsOk n ps ∧ Q (.lst (rowsD n ps)) M
theorem c_beside_lists (F : DFun K mg "beside_lists" s_beside_lists ["many", "pairs"]) (B : Bn mg) (G : Gs mg)  : DCal P w K mg base CX0 1 "beside_lists" sp_beside_lists := by
  refine dok F sc_beside_lists (fun ds M Q E h => (by obtain ⟨_, h⟩ := h; first | (obtain ⟨e, _⟩ := h; subst e; rfl) | (obtain ⟨_, e, _⟩ := h; subst e; rfl) | (obtain ⟨_, _, e, _⟩ := h; subst e; rfl) | (obtain ⟨_, _, _, e, _⟩ := h; subst e; rfl) | (obtain ⟨_, _, _, _, e, _⟩ := h; subst e; rfl) | (obtain ⟨_, _, _, _, _, e, _⟩ := h; subst e; rfl) | (obtain ⟨_, _, _, _, _, _, e, _⟩ := h; subst e; rfl) | (obtain ⟨_, _, _, _, _, _, _, e, _⟩ := h; subst e; rfl) | (obtain ⟨_, _, _, _, _, _, _, _, e, _⟩ := h; subst e; rfl) | (obtain ⟨_, _, _, _, _, _, _, _, _, e, _⟩ := h; subst e; rfl) | (obtain ⟨_, _, _, _, _, _, _, _, _, _, e, _⟩ := h; subst e; rfl) | (obtain ⟨_, _, _, _, _, _, _, _, _, _, _, e, _⟩ := h; subst e; rfl) | (obtain ⟨_, _, _, _, _, _, _, _, _, _, _, _, e, _⟩ := h; subst e; rfl) | (obtain ⟨_, _, _, _, _, _, _, _, _, _, _, _, _, e, _⟩ := h; subst e; rfl) | (obtain ⟨_, _, _, _, _, _, _, _, _, _, _, _, _, _, e, _⟩ := h; subst e; rfl) | (obtain ⟨_, _, _, _, _, _, _, _, _, _, _, _, _, _, _, e, _⟩ := h; subst e; rfl) | (obtain ⟨_, _, _, _, _, _, _, _, _, _, _, _, _, _, _, _, e, _⟩ := h; subst e; rfl) | (obtain ⟨_, _, _, _, _, _, _, _, _, _, _, _, _, _, _, _, _, e, _⟩ := h; subst e; rfl) | (obtain ⟨_, _, _, _, _, _, _, _, _, _, _, _, _, _, _, _, _, _, e, _⟩ := h; subst e; rfl) | (obtain ⟨_, _, _, _, _, _, _, _, _, _, _, _, _, _, _, _, _, _, _, e, _⟩ := h; subst e; rfl) | (obtain ⟨_, _, _, _, _, _, _, _, _, _, _, _, _, _, _, _, _, _, _, _, e, _⟩ := h; subst e; rfl) | (obtain ⟨_, _, _, _, _, _, _, _, _, _, _, _, _, _, _, _, _, _, _, _, _, e, _⟩ := h; subst e; rfl) | (obtain ⟨_, _, _, _, _, _, _, _, _, _, _, _, _, _, _, _, _, _, _, _, _, _, e, _⟩ := h; subst e; rfl) | (obtain ⟨_, _, _, _, _, _, _, _, _, _, _, _, _, _, _, _, _, _, _, _, _, _, _, e, _⟩ := h; subst e; rfl) | (obtain ⟨_, _, _, _, _, _, _, _, _, _, _, _, _, _, _, _, _, _, _, _, _, _, _, _, e, _⟩ := h; subst e; rfl) | (obtain ⟨_, _, _, _, _, _, _, _, _, _, _, _, _, _, _, _, _, _, _, _, _, _, _, _, _, e, _⟩ := h; subst e; rfl))) (fun f cdv A outer s H E F0 hr => ?_)
  have nd := (sc_beside_lists).nd
  refine ⟨_, _, (db_cons (dx_setLc 2 (own := [("_", 5)]) rfl nd (sw_true rfl rfl rfl (by decide +kernel)) (di_range1 B.range (da_cons (de_var 0) da_nil)) (blkOk_by (N := ["many", "pairs", "found", "one", "other", "_", "row"]) (sc := defScope s_beside_lists) (by decide +kernel)) (fun _ _ _ _ _ => ⟨_, (dg_name 5 nd), (gw_name (by decide))⟩) (fun _ _ _ _ _ => ⟨_, dts_nil⟩) (fun _ _ _ _ _ => ⟨_, (de_lstM da_nil)⟩))
      (db_cons (ds_for PassesOwn.never rfl (di_seq (de_var 1)) (dg_tup (n := 2) rfl (dgs_cons (dg_name 3 nd) (dgs_cons (dg_name 4 nd) dgs_nil))) (db_cons (ds_expr (de_append (de_ix hr (de_var 2) (de_var 3)) (da_cons (de_var 4) da_nil)))
      (db_one (ds_expr (de_append (de_ix hr (de_var 2) (de_var 4)) (da_cons (de_var 3) da_nil))))))
      (db_one (ds_ret (dx_lc (own := [("row", 6)]) rfl nd (di_seq (de_var 2)) (blkOk_by (N := ["many", "pairs", "found", "one", "other", "_", "row"]) (sc := defScope s_beside_lists) (by decide +kernel)) (fun _ _ _ _ _ => ⟨_, (dg_name 6 nd), (gw_name (by decide))⟩) (fun _ _ _ _ _ => ⟨_, dts_nil⟩) (fun _ _ _ _ _ => ⟨_, (de_bty call_tuple_of lc_tuple B.tuple (da_cons (de_sortI B.sorted (da_cons (de_var 6) da_nil)) da_nil))⟩)))))), ?_⟩
  rintro ds M Q E ⟨n, ps, rfl, h0, hn, hz, h, q⟩
  simp only [dVar, dC, dOp, dTest, dII, dIC, dFld, dFldS, dMake, dProp, dLcM, toM, dppNil, dppCons, dMerge, dDisp, dCatL, dRep, dRepM, dExtend, dChain, dEq, dAnd, dOr, dNot, dIfE, dNext, dSeq, dDrop, dRet, dIfS, dNever, dFrz, hName, hNil, hCons, hTup, hSub, dAsg, dAug, dipI, dNil, dCons, dTup, dLst, dLstM, dIx, dSet, dCall, dwipe, dYes, jSeq, jRng1, jRng2, dCB, dLen, dList, dListM, dTuple, dAbs, dInt, dBM0, dBM, dAppend, dPop, dPopAt, dAndV, dNotV, dNeg, dIn, dNoPart, dPart, dSl, dSlM, dNewK, dIsi, dIsiT, dLc, dFor, dDc, dCallS, dRaise, dTry, dIsE, dSortD, dFrzE, jKeys, dIndexD, dEqS, dReprG, if_true, if_false, ite_true, ite_false, Bool.false_eq_true, reduceIte, Bool.not_true, Bool.not_false, List.getElem?_cons_zero, List.getElem?_cons_succ, List.set_cons_zero, List.set_cons_succ, List.map_cons, List.map_nil, List.replicate, List.cons_append, List.nil_append, List.length_cons, List.length_nil, dstart]
  refine ⟨by omega, by rw [rgD_len]; exact len_ok (by omega), lcI_fresh (fun d M Q h γ => h _) fun as M1 R ho hf => ?_⟩
  rw [rgD_len] at R
  have has : as.length = n.toNat := by rw [R.len]; simp
  refine dForI_of (fun i γ M' => ∃ o1 o2, γ = [some (.int n), some (.tup (ps.map prD)), some (.lst (as.map .ref)), o1, o2, none, none] ∧ RowsAt M' as ((List.range n.toNat).map fun (j : Nat) => (nbr (ps.take i) (j : Int)).map .int) ∧ ∀ p, p ∉ as → M' p = M p) ?_ ?_ ?_
  · refine ⟨none, none, rfl, ?_, ho⟩
    have e : (List.range n.toNat).map (fun (j : Nat) => (nbr (ps.take 0) (j : Int)).map D.int) = List.replicate n.toNat [] := by
      apply List.ext_getElem?
      intro j
      simp only [List.take_zero, nbr, List.flatMap_nil, List.map_nil, List.getElem?_map, List.getElem?_replicate]
      by_cases hj : j < n.toNat
      · rw [List.getElem?_range hj, if_pos hj]; rfl
      · rw [List.getElem?_eq_none (by simpa using hj), if_neg hj]; rfl
    rw [e]; exact R
  · rintro i d γ M2 hd ⟨o1, o2, rfl, R2, ho2⟩
    obtain ⟨⟨a, b⟩, hp, rfl⟩ := get_pr hd
    obtain ⟨k1, k2, k3⟩ := h.ok _ (List.mem_of_getElem? hp)
    simp only at k1 k2 k3
    have hi := (List.getElem?_eq_some_iff.mp hp).1
    have tl : (ps.take i).length ≤ ps.length := by rw [List.length_take]; omega
    obtain ⟨x, hx, mx, R3⟩ := R2.push (k := a.toNat) (d := .int b) (g := fun (j : Nat) => (nbr (ps.take i) (j : Int) ++ (if (j : Int) = a then [b] else [])).map .int) (by omega) (fun j => by
      by_cases e : j = a.toNat
      · have e2 : (j : Int) = a := by omega
        simp [e, e2, show ((a.toNat : Nat) : Int) = a by omega]
      · have e2 : ¬ (j : Int) = a := by omega
        simp [e, e2])
    simp only [dVar, dC, dOp, dTest, dII, dIC, dFld, dFldS, dMake, dProp, dLcM, toM, dppNil, dppCons, dMerge, dDisp, dCatL, dRep, dRepM, dExtend, dChain, dEq, dAnd, dOr, dNot, dIfE, dNext, dSeq, dDrop, dRet, dIfS, dNever, dFrz, hName, hNil, hCons, hTup, hSub, dAsg, dAug, dipI, dNil, dCons, dTup, dLst, dLstM, dIx, dSet, dCall, dwipe, dYes, jSeq, jRng1, jRng2, dCB, dLen, dList, dListM, dTuple, dAbs, dInt, dBM0, dBM, dAppend, dPop, dPopAt, dAndV, dNotV, dNeg, dIn, dNoPart, dPart, dSl, dSlM, dNewK, dIsi, dIsiT, dLc, dFor, dDc, dCallS, dRaise, dTry, dIsE, dSortD, dFrzE, jKeys, dIndexD, dEqS, dReprG, if_true, if_false, ite_true, ite_false, Bool.false_eq_true, reduceIte, Bool.not_true, Bool.not_false, List.getElem?_cons_zero, List.getElem?_cons_succ, List.set_cons_zero, List.set_cons_succ, List.map_cons, List.map_nil, List.replicate, List.cons_append, List.nil_append, List.length_cons, List.length_nil, dstart, prD]
    refine ⟨trivial, .ref x, ref_at (by omega) hx, by simp only [tyD, mx], ?_⟩
    simp only [mx]
    have l1 := nbr_len (ps.take i) (a.toNat : Nat)
    refine ⟨len_lt (by rw [List.length_map]; omega), ?_⟩
    obtain ⟨y, hy, my, R4⟩ := R3.push (k := b.toNat) (d := .int a) (g := fun (j : Nat) => (nbr (ps.take (i + 1)) (j : Int)).map .int) (by omega) (fun j => by
      rw [take_succ_of hp, nbr_snoc]
      by_cases e : j = b.toNat
      · have e2 : (j : Int) = b := by omega
        have e3 : ¬ (j : Int) = a := by omega
        have e4 : ¬ a = (j : Int) := by omega
        simp [e, show ((b.toNat : Nat) : Int) = b by omega, show ¬ b = a by omega, show ¬ a = b by omega]
      · have e2 : ¬ b = (j : Int) := by omega
        by_cases e3 : (j : Int) = a
        · simp [e, e3, show ¬ b = a by omega, show ¬ a.toNat = b.toNat by omega]
        · have e4 : ¬ a = (j : Int) := by omega
          simp [e, e2, e3, e4])
    refine ⟨.ref y, ref_at (by omega) hy, by simp only [tyD, my], ?_⟩
    simp only [my]
    have l2 := nbr_len (ps.take i) (b.toNat : Nat)
    have e5 : ¬ ((b.toNat : Nat) : Int) = a := by omega
    refine ⟨len_lt (by rw [List.length_map, if_neg e5, List.append_nil]; omega), _, _, rfl, R4, fun p hp' => ?_⟩
    rw [mset_ne fun z => hp' (by rw [z]; exact List.mem_of_getElem? hy), mset_ne fun z => hp' (by rw [z]; exact List.mem_of_getElem? hx)]
    exact ho2 p hp'
  · rintro γ M2 ⟨o1, o2, rfl, R2, ho2⟩
    rw [List.length_map, List.take_length] at R2
    simp only [dVar, dC, dOp, dTest, dII, dIC, dFld, dFldS, dMake, dProp, dLcM, toM, dppNil, dppCons, dMerge, dDisp, dCatL, dRep, dRepM, dExtend, dChain, dEq, dAnd, dOr, dNot, dIfE, dNext, dSeq, dDrop, dRet, dIfS, dNever, dFrz, hName, hNil, hCons, hTup, hSub, dAsg, dAug, dipI, dNil, dCons, dTup, dLst, dLstM, dIx, dSet, dCall, dwipe, dYes, jSeq, jRng1, jRng2, dCB, dLen, dList, dListM, dTuple, dAbs, dInt, dBM0, dBM, dAppend, dPop, dPopAt, dAndV, dNotV, dNeg, dIn, dNoPart, dPart, dSl, dSlM, dNewK, dIsi, dIsiT, dLc, dFor, dDc, dCallS, dRaise, dTry, dIsE, dSortD, dFrzE, jKeys, dIndexD, dEqS, dReprG, if_true, if_false, ite_true, ite_false, Bool.false_eq_true, reduceIte, Bool.not_true, Bool.not_false, List.getElem?_cons_zero, List.getElem?_cons_succ, List.set_cons_zero, List.set_cons_succ, List.map_cons, List.map_nil, List.replicate, List.cons_append, List.nil_append, List.length_cons, List.length_nil, dstart]
    refine ⟨by rw [List.length_map, has]; exact len_ok (by omega), dLcI_idx (fun k => .tup ((srt (nbr ps (k : Int))).map .int)) (fun k d hd Q2 q2 => ?_) ?_⟩
    · rw [List.getElem?_map] at hd
      obtain ⟨a, ha, rfl⟩ := Option.map_eq_some_iff.mp hd
      obtain ⟨r, hr1, hr2⟩ := R2.at' k a ha
      have hk : k < n.toNat := by rw [← has]; exact (List.getElem?_eq_some_iff.mp ha).1
      rw [List.getElem?_map, List.getElem?_range hk] at hr1
      cases hr1
      simp only [dVar, dC, dOp, dTest, dII, dIC, dFld, dFldS, dMake, dProp, dLcM, toM, dppNil, dppCons, dMerge, dDisp, dCatL, dRep, dRepM, dExtend, dChain, dEq, dAnd, dOr, dNot, dIfE, dNext, dSeq, dDrop, dRet, dIfS, dNever, dFrz, hName, hNil, hCons, hTup, hSub, dAsg, dAug, dipI, dNil, dCons, dTup, dLst, dLstM, dIx, dSet, dCall, dwipe, dYes, jSeq, jRng1, jRng2, dCB, dLen, dList, dListM, dTuple, dAbs, dInt, dBM0, dBM, dAppend, dPop, dPopAt, dAndV, dNotV, dNeg, dIn, dNoPart, dPart, dSl, dSlM, dNewK, dIsi, dIsiT, dLc, dFor, dDc, dCallS, dRaise, dTry, dIsE, dSortD, dFrzE, jKeys, dIndexD, dEqS, dReprG, if_true, if_false, ite_true, ite_false, Bool.false_eq_true, reduceIte, Bool.not_true, Bool.not_false, List.getElem?_cons_zero, List.getElem?_cons_succ, List.set_cons_zero, List.set_cons_succ, List.map_cons, List.map_nil, List.replicate, List.cons_append, List.nil_append, List.length_cons, List.length_nil, dstart]
      exact dSortI_srt _ (.inr ⟨a, rfl, hr2⟩) q2
    · have e : (List.range (as.map D.ref).length).map (fun (k : Nat) => D.tup ((srt (nbr ps (k : Int))).map .int)) = rowsD n ps := by
        rw [List.length_map, has, rowsD, rowsOf, List.map_map]; rfl
      rw [e]
      refine fin_less (M2 := M) (fun p o hp => ?_) q
      rw [ho2 p fun z => ?_]
      · exact hp
      · rw [hf p z] at hp; cases hp
theorem sc_reached : FnScope ["rows", "inside", "start", "found", "todo", "other"] ["rows", "inside", "start"] (defScope s_reached) := ⟨rfl, rfl, rfl, by decide +kernel, rfl, by decide +kernel, by decide +kernel⟩
def sp_reached : DSp := fun ds M Q _ => ∃ (n : Int) (ps : List (Int × Int)) (d : Addr) (ns : List Int) (s : Int), ds = [.lst (rowsD n ps), .ref d, .int s] ∧ PrsOk n ps ∧ InsAt M d ns ∧ ns.length ≤ 10000 ∧ (∀ x ∈ ns, 0 ≤ x ∧ x < n) ∧ s ∈ ns ∧ ∀ (r : Addr) (ks : List Int), M r = none → ks.Nodup → (∀ x, x ∈ ks ↔ Rch ps ns s x) → Q (.ref r) (mset M r (.dK (ks.map kvT)))
theorem c_reached (F : DFun K mg "reached" s_reached ["rows", "inside", "start"]) (B : Bn mg) (G : Gs mg)  : DCal P w K mg base CX0 1 "reached" sp_reached := by
  refine dok F sc_reached (fun ds M Q E h => (by obtain ⟨_, h⟩ := h; first | (obtain ⟨e, _⟩ := h; subst e; rfl) | (obtain ⟨_, e, _⟩ := h; subst e; rfl) | (obtain ⟨_, _, e, _⟩ := h; subst e; rfl) | (obtain ⟨_, _, _, e, _⟩ := h; subst e; rfl) | (obtain ⟨_, _, _, _, e, _⟩ := h; subst e; rfl) | (obtain ⟨_, _, _, _, _, e, _⟩ := h; subst e; rfl) | (obtain ⟨_, _, _, _, _, _, e, _⟩ := h; subst e; rfl) | (obtain ⟨_, _, _, _, _, _, _, e, _⟩ := h; subst e; rfl) | (obtain ⟨_, _, _, _, _, _, _, _, e, _⟩ := h; subst e; rfl) | (obtain ⟨_, _, _, _, _, _, _, _, _, e, _⟩ := h; subst e; rfl) | (obtain ⟨_, _, _, _, _, _, _, _, _, _, e, _⟩ := h; subst e; rfl) | (obtain ⟨_, _, _, _, _, _, _, _, _, _, _, e, _⟩ := h; subst e; rfl) | (obtain ⟨_, _, _, _, _, _, _, _, _, _, _, _, e, _⟩ := h; subst e; rfl) | (obtain ⟨_, _, _, _, _, _, _, _, _, _, _, _, _, e, _⟩ := h; subst e; rfl) | (obtain ⟨_, _, _, _, _, _, _, _, _, _, _, _, _, _, e, _⟩ := h; subst e; rfl) | (obtain ⟨_, _, _, _, _, _, _, _, _, _, _, _, _, _, _, e, _⟩ := h; subst e; rfl) | (obtain ⟨_, _, _, _, _, _, _, _, _, _, _, _, _, _, _, _, e, _⟩ := h; subst e; rfl) | (obtain ⟨_, _, _, _, _, _, _, _, _, _, _, _, _, _, _, _, _, e, _⟩ := h; subst e; rfl) | (obtain ⟨_, _, _, _, _, _, _, _, _, _, _, _, _, _, _, _, _, _, e, _⟩ := h; subst e; rfl) | (obtain ⟨_, _, _, _, _, _, _, _, _, _, _, _, _, _, _, _, _, _, _, e, _⟩ := h; subst e; rfl) | (obtain ⟨_, _, _, _, _, _, _, _, _, _, _, _, _, _, _, _, _, _, _, _, e, _⟩ := h; subst e; rfl) | (obtain ⟨_, _, _, _, _, _, _, _, _, _, _, _, _, _, _, _, _, _, _, _, _, e, _⟩ := h; subst e; rfl) | (obtain ⟨_, _, _, _, _, _, _, _, _, _, _, _, _, _, _, _, _, _, _, _, _, _, e, _⟩ := h; subst e; rfl) | (obtain ⟨_, _, _, _, _, _, _, _, _, _, _, _, _, _, _, _, _, _, _, _, _, _, _, e, _⟩ := h; subst e; rfl) | (obtain ⟨_, _, _, _, _, _, _, _, _, _, _, _, _, _, _, _, _, _, _, _, _, _, _, _, e, _⟩ := h; subst e; rfl) | (obtain ⟨_, _, _, _, _, _, _, _, _, _, _, _, _, _, _, _, _, _, _, _, _, _, _, _, _, e, _⟩ := h; subst e; rfl))) (fun f cdv A outer s H E F0 hr => ?_)
  have nd := (sc_reached).nd
  refine ⟨_, _, (db_cons (ds_set 3 nd (de_disp (dpp_cons (de_var 2) de_bl dpp_nil)))
      (db_cons (ds_set 4 nd (de_lstM (da_cons (de_var 2) da_nil)))
      (db_cons (ds_while PassesOwn.never (dt_gt (de_len B.len (da_cons (de_var 4) da_nil)) de_int) (db_one (ds_for PassesOwn.never rfl (di_seq (de_ix hr (de_var 0) (de_pop (de_var 4)))) (dg_name 5 nd) (db_one (ds_if (DW.dt (dw_and (dt_in hr (de_var 5) (de_var 1)) (dw_and1 (dt_notIn hr (de_var 5) (de_var 3))))) (db_cons (ds_put hr (de_var 3) (de_var 5) de_bl)
      (db_one (ds_expr (de_append (de_var 4) (da_cons (de_var 5) da_nil))))) db_nil)))))
      (db_one (ds_ret (de_var 3)))))), ?_⟩
  rintro ds M Q E ⟨n, ps, d, ns, s, rfl, hp, hi, hz, hn, hs, q⟩
  simp only [dVar, dC, dOp, dTest, dII, dIC, dFld, dFldS, dMake, dProp, dLcM, toM, dppNil, dppCons, dMerge, dDisp, dCatL, dRep, dRepM, dExtend, dChain, dEq, dAnd, dOr, dNot, dIfE, dNext, dSeq, dDrop, dRet, dIfS, dNever, dFrz, hName, hNil, hCons, hTup, hSub, dAsg, dAug, dipI, dNil, dCons, dTup, dLst, dLstM, dIx, dSet, dCall, dwipe, dYes, jSeq, jRng1, jRng2, dCB, dLen, dList, dListM, dTuple, dAbs, dInt, dBM0, dBM, dAppend, dPop, dPopAt, dAndV, dNotV, dNeg, dIn, dNoPart, dPart, dSl, dSlM, dNewK, dIsi, dIsiT, dLc, dFor, dDc, dCallS, dRaise, dTry, dIsE, dSortD, dFrzE, jKeys, dIndexD, dEqS, dReprG, if_true, if_false, ite_true, ite_false, Bool.false_eq_true, reduceIte, Bool.not_true, Bool.not_false, List.getElem?_cons_zero, List.getElem?_cons_succ, List.set_cons_zero, List.set_cons_succ, List.map_cons, List.map_nil, List.replicate, List.cons_append, List.nil_append, List.length_cons, List.length_nil, dstart]
  intro r hr
  refine ⟨_, rfl, fun _ => ⟨by decide, by decide, fun td htd => ?_⟩⟩
  have e0 : (dput [] (.inl s) (.bl true) : List (Key × D)) = [s].map kvT := rfl
  rw [e0] at htd ⊢
  have ntd : td ≠ r := fun e => by rw [e, mset_same] at htd; cases htd
  have htd0 : M td = none := by rw [mset_ne ntd] at htd; exact htd
  have hd : d ≠ r ∧ d ≠ td := by
    obtain ⟨kvs, h1, _⟩ := hi.ex
    exact ⟨fun e => by (rw [e, hr] at h1; cases h1), fun e => by (rw [e, htd0] at h1; cases h1)⟩
  have mem_ns : ∀ {ks : List Int}, (∀ x, x ∈ ks → Rch ps ns s x) → ∀ x, x ∈ ks → x ∈ ns := fun h x hx => (h x hx).mem hs
  refine ⟨fun m γ M' => ∃ (o : Option D) (ks ts : List Int), γ = [some (.lst (rowsD n ps)), some (.ref d), some (.int s), some (.ref r), some (.ref td), o] ∧ M' r = some (.dK (ks.map kvT)) ∧ M' td = some (.lst (ts.map .int)) ∧ Agree M M' [r, td] ∧ ks.Nodup ∧ (∀ x, x ∈ ks → Rch ps ns s x) ∧ s ∈ ks ∧ (∀ x, x ∈ ts → x ∈ ks) ∧ ts.length ≤ ks.length ∧
    (∀ x, x ∈ ks → x ∈ ts ∨ ∀ y, y ∈ nbr ps x → y ∈ ns → y ∈ ks) ∧ m = 2 * (ns.length - ks.length) + ts.length, ⟨_, none, [s], [s], rfl, ?_, mset_same, fun q hq => ?_, by simp, ?_, by simp, fun x hx => hx, by simp, fun x hx => .inl hx, rfl⟩, ?_⟩
  · rw [mset_ne (Ne.symm ntd), mset_same]
  · simp only [List.mem_cons, List.not_mem_nil, or_false, not_or] at hq
    rw [mset_ne hq.2, mset_ne hq.1]
  · intro x hx
    rw [List.mem_singleton.mp hx]; exact .refl
  rintro m γ M' ⟨o, ks, ts, rfl, hk, ht, ag, nd, hR, hsk, hts, hlen, cl, rfl⟩
  have hkl : ks.length ≤ ns.length := nodup_len nd (mem_ns hR)
  simp only [dVar, dC, dOp, dTest, dII, dIC, dFld, dFldS, dMake, dProp, dLcM, toM, dppNil, dppCons, dMerge, dDisp, dCatL, dRep, dRepM, dExtend, dChain, dEq, dAnd, dOr, dNot, dIfE, dNext, dSeq, dDrop, dRet, dIfS, dNever, dFrz, hName, hNil, hCons, hTup, hSub, dAsg, dAug, dipI, dNil, dCons, dTup, dLst, dLstM, dIx, dSet, dCall, dwipe, dYes, jSeq, jRng1, jRng2, dCB, dLen, dList, dListM, dTuple, dAbs, dInt, dBM0, dBM, dAppend, dPop, dPopAt, dAndV, dNotV, dNeg, dIn, dNoPart, dPart, dSl, dSlM, dNewK, dIsi, dIsiT, dLc, dFor, dDc, dCallS, dRaise, dTry, dIsE, dSortD, dFrzE, jKeys, dIndexD, dEqS, dReprG, if_true, if_false, ite_true, ite_false, Bool.false_eq_true, reduceIte, Bool.not_true, Bool.not_false, List.getElem?_cons_zero, List.getElem?_cons_succ, List.set_cons_zero, List.set_cons_succ, List.map_cons, List.map_nil, List.replicate, List.cons_append, List.nil_append, List.length_cons, List.length_nil, dstart]
  refine ⟨ts.length, by simp only [lenV, ht, List.length_map], ?_⟩
  rcases snoc_cases ts with rfl | ⟨ts', x, rfl⟩
  · simp only [dVar, dC, dOp, dTest, dII, dIC, dFld, dFldS, dMake, dProp, dLcM, toM, dppNil, dppCons, dMerge, dDisp, dCatL, dRep, dRepM, dExtend, dChain, dEq, dAnd, dOr, dNot, dIfE, dNext, dSeq, dDrop, dRet, dIfS, dNever, dFrz, hName, hNil, hCons, hTup, hSub, dAsg, dAug, dipI, dNil, dCons, dTup, dLst, dLstM, dIx, dSet, dCall, dwipe, dYes, jSeq, jRng1, jRng2, dCB, dLen, dList, dListM, dTuple, dAbs, dInt, dBM0, dBM, dAppend, dPop, dPopAt, dAndV, dNotV, dNeg, dIn, dNoPart, dPart, dSl, dSlM, dNewK, dIsi, dIsiT, dLc, dFor, dDc, dCallS, dRaise, dTry, dIsE, dSortD, dFrzE, jKeys, dIndexD, dEqS, dReprG, if_true, if_false, ite_true, ite_false, Bool.false_eq_true, reduceIte, Bool.not_true, Bool.not_false, List.getElem?_cons_zero, List.getElem?_cons_succ, List.set_cons_zero, List.set_cons_succ, List.map_cons, List.map_nil, List.replicate, List.cons_append, List.nil_append, List.length_cons, List.length_nil, dstart]
    rw [if_neg (by decide)]
    refine fin_less (fun q o h => ?_) (q r ks hr nd fun x => ⟨hR x, fun ⟨t, h⟩ => ?_⟩)
    · by_cases e : q = r
      · rw [e, mset_same] at h; rw [e, hk]; exact h
      · rw [mset_ne e] at h
        rw [ag q (by
          simp only [List.mem_cons, List.not_mem_nil, or_false, not_or]
          exact ⟨e, fun z => by (rw [z, htd0] at h; cases h)⟩)]
        exact h
    · induction t generalizing x with
      | zero => rw [show x = s from h]; exact hsk
      | succ t ih =>
        obtain ⟨z, h1, h2, h3⟩ := h
        rcases cl z (ih z ⟨_, h1⟩ h1) with h4 | h4
        · cases h4
        · exact h4 x h2 h3
  · rw [if_pos (by first | (simp; done) | (simp; omega))]
    simp only [tyD, ht]
    have hx : x ∈ ks := hts x (by simp)
    have hxn := hn x (mem_ns hR x hx)
    refine ⟨trivial, .int x, by simp, .tup ((srt (nbr ps x)).map .int), rowsD_get hxn.1 hxn.2, ?_⟩
    have nl := nbr_len ps x
    have hdl : ((ts' ++ [x]).map D.int).dropLast = ts'.map D.int := by rw [List.map_append]; exact List.dropLast_concat
    simp only [dVar, dC, dOp, dTest, dII, dIC, dFld, dFldS, dMake, dProp, dLcM, toM, dppNil, dppCons, dMerge, dDisp, dCatL, dRep, dRepM, dExtend, dChain, dEq, dAnd, dOr, dNot, dIfE, dNext, dSeq, dDrop, dRet, dIfS, dNever, dFrz, hName, hNil, hCons, hTup, hSub, dAsg, dAug, dipI, dNil, dCons, dTup, dLst, dLstM, dIx, dSet, dCall, dwipe, dYes, jSeq, jRng1, jRng2, dCB, dLen, dList, dListM, dTuple, dAbs, dInt, dBM0, dBM, dAppend, dPop, dPopAt, dAndV, dNotV, dNeg, dIn, dNoPart, dPart, dSl, dSlM, dNewK, dIsi, dIsiT, dLc, dFor, dDc, dCallS, dRaise, dTry, dIsE, dSortD, dFrzE, jKeys, dIndexD, dEqS, dReprG, if_true, if_false, ite_true, ite_false, Bool.false_eq_true, reduceIte, Bool.not_true, Bool.not_false, List.getElem?_cons_zero, List.getElem?_cons_succ, List.set_cons_zero, List.set_cons_succ, List.map_cons, List.map_nil, List.replicate, List.cons_append, List.nil_append, List.length_cons, List.length_nil, dstart, hdl]
    refine dForI_of (fun i γ M' => ∃ (o : Option D) (ks2 ts2 : List Int), γ = [some (.lst (rowsD n ps)), some (.ref d), some (.int s), some (.ref r), some (.ref td), o] ∧ M' r = some (.dK (ks2.map kvT)) ∧ M' td = some (.lst (ts2.map .int)) ∧ Agree M M' [r, td] ∧ ks2.Nodup ∧ (∀ x, x ∈ ks2 → Rch ps ns s x) ∧ s ∈ ks2 ∧ (∀ x, x ∈ ts2 → x ∈ ks2) ∧ ts2.length ≤ ks2.length ∧ x ∈ ks2 ∧
      (∀ z, z ∈ ks2 → z ∈ ts2 ∨ z = x ∨ ∀ y, y ∈ nbr ps z → y ∈ ns → y ∈ ks2) ∧ (∀ y, y ∈ (srt (nbr ps x)).take i → y ∈ ns → y ∈ ks2) ∧ 2 * (ns.length - ks2.length) + ts2.length < 2 * (ns.length - ks.length) + (ts' ++ [x]).length) ⟨o, ks, ts', rfl, ?_, mset_same, ?_, nd, hR, hsk, fun y hy => hts y (List.mem_append_left _ hy), ?_, hx, fun z hz => ?_, by simp, ?_⟩ ?_ ?_
    · rw [mset_ne (Ne.symm ntd)]; exact hk
    · exact ag.trans (Agree.mset (by simp))
    · rw [List.length_append] at hlen; omega
    · rcases cl z hz with h | h
      · rcases List.mem_append.mp h with h | h
        · exact .inl h
        · exact .inr (.inl (List.mem_singleton.mp h))
      · exact .inr (.inr h)
    · rw [List.length_append]; simp
    · rintro i e γ M2 he ⟨o, ks2, ts2, rfl, k2, t2, ag2, nd2, R2, s2, m2, l2, x2, c2, p2, w2⟩
      obtain ⟨y, hy, rfl⟩ := get_int he
      have hyn : y ∈ nbr ps x := srt_mem.mp (List.mem_of_getElem? hy)
      have i2 : InsAt M2 d ns := hi.keep (ag2 d (by simp [hd.1, hd.2]))
      have kl2 : ks2.length ≤ ns.length := nodup_len nd2 (mem_ns R2)
      have stay : (y ∈ ns → y ∈ ks2) → ∀ z, z ∈ (srt (nbr ps x)).take (i + 1) → z ∈ ns → z ∈ ks2 := fun h z hz hzn => by
        rw [take_succ_of hy] at hz
        rcases List.mem_append.mp hz with hz | hz
        · exact p2 z hz hzn
        · rw [List.mem_singleton.mp hz] at hzn ⊢; exact h hzn
      simp only [dVar, dC, dOp, dTest, dII, dIC, dFld, dFldS, dMake, dProp, dLcM, toM, dppNil, dppCons, dMerge, dDisp, dCatL, dRep, dRepM, dExtend, dChain, dEq, dAnd, dOr, dNot, dIfE, dNext, dSeq, dDrop, dRet, dIfS, dNever, dFrz, hName, hNil, hCons, hTup, hSub, dAsg, dAug, dipI, dNil, dCons, dTup, dLst, dLstM, dIx, dSet, dCall, dwipe, dYes, jSeq, jRng1, jRng2, dCB, dLen, dList, dListM, dTuple, dAbs, dInt, dBM0, dBM, dAppend, dPop, dPopAt, dAndV, dNotV, dNeg, dIn, dNoPart, dPart, dSl, dSlM, dNewK, dIsi, dIsiT, dLc, dFor, dDc, dCallS, dRaise, dTry, dIsE, dSortD, dFrzE, jKeys, dIndexD, dEqS, dReprG, if_true, if_false, ite_true, ite_false, Bool.false_eq_true, reduceIte, Bool.not_true, Bool.not_false, List.getElem?_cons_zero, List.getElem?_cons_succ, List.set_cons_zero, List.set_cons_succ, List.map_cons, List.map_nil, List.replicate, List.cons_append, List.nil_append, List.length_cons, List.length_nil, dstart]
      refine ⟨_, i2.has y, ?_⟩
      by_cases h1 : y ∈ ns
      · simp only [decide_eq_true h1, if_true, if_false, ite_true, ite_false, Bool.false_eq_true, reduceIte, Bool.not_true, Bool.not_false, List.getElem?_cons_zero, List.getElem?_cons_succ, List.set_cons_zero, List.set_cons_succ, List.map_cons, List.map_nil, List.replicate, List.cons_append, List.nil_append, List.length_cons, List.length_nil, dstart]
        refine ⟨_, has_kvT k2 y, ?_⟩
        by_cases h2 : y ∈ ks2
        · simp only [decide_eq_true h2, if_true, if_false, ite_true, ite_false, Bool.false_eq_true, reduceIte, Bool.not_true, Bool.not_false, List.getElem?_cons_zero, List.getElem?_cons_succ, List.set_cons_zero, List.set_cons_succ, List.map_cons, List.map_nil, List.replicate, List.cons_append, List.nil_append, List.length_cons, List.length_nil, dstart]
          exact ⟨_, ks2, ts2, rfl, k2, t2, ag2, nd2, R2, s2, m2, l2, x2, c2, stay fun _ => h2, w2⟩
        · simp only [decide_eq_false h2, if_true, if_false, ite_true, ite_false, Bool.false_eq_true, reduceIte, Bool.not_true, Bool.not_false, List.getElem?_cons_zero, List.getElem?_cons_succ, List.set_cons_zero, List.set_cons_succ, List.map_cons, List.map_nil, List.replicate, List.cons_append, List.nil_append, List.length_cons, List.length_nil, dstart]
          have nd3 : (ks2 ++ [y]).Nodup := by
            rw [List.nodup_append]
            exact ⟨nd2, by simp, fun a ha b hb => by
              rw [List.mem_singleton.mp hb]
              intro z
              exact h2 (by rw [← z]; exact ha)⟩
          have R3 : ∀ z, z ∈ ks2 ++ [y] → Rch ps ns s z := fun z hz => by
            rcases List.mem_append.mp hz with hz | hz
            · exact R2 z hz
            · rw [List.mem_singleton.mp hz]; exact (R2 x x2).step hyn h1
          have kl3 : (ks2 ++ [y]).length ≤ ns.length := nodup_len nd3 (mem_ns R3)
          rw [List.length_append, List.length_singleton] at kl3
          have st : dStore M2 r (.int y) (.bl true) = some (mset M2 r (.dK ((ks2 ++ [y]).map kvT))) := by
            simp only [dStore, k2, keyOf, Option.bind_some, List.length_map]
            rw [if_pos (len_lt (by omega)), dput_kvT h2]
          refine ⟨_, st, ?_⟩
          simp only [tyD, mset_ne ntd, t2]
          refine ⟨trivial, len_lt (by rw [List.length_map]; omega), _, ks2 ++ [y], ts2 ++ [y], rfl, ?_, ?_, ?_, nd3, R3, List.mem_append_left _ s2, fun z hz => ?_, ?_, List.mem_append_left _ x2, fun z hz => ?_, fun z hz hzn => ?_, ?_⟩
          · rw [mset_ne (Ne.symm ntd), mset_same]
          · rw [mset_same, List.map_append]; rfl
          · exact (ag2.trans (Agree.mset (by simp))).trans (Agree.mset (by simp))
          · rcases List.mem_append.mp hz with hz | hz
            · exact List.mem_append_left _ (m2 z hz)
            · exact List.mem_append_right _ hz
          · rw [List.length_append, List.length_append]; simp; omega
          · rcases List.mem_append.mp hz with hz | hz
            · rcases c2 z hz with h | h | h
              · exact .inl (List.mem_append_left _ h)
              · exact .inr (.inl h)
              · exact .inr (.inr fun u hu hun => List.mem_append_left _ (h u hu hun))
            · exact .inl (List.mem_append_right _ hz)
          · rw [take_succ_of hy] at hz
            rcases List.mem_append.mp hz with hz | hz
            · exact List.mem_append_left _ (p2 z hz hzn)
            · exact List.mem_append_right _ hz
          · rw [List.length_append, List.length_append, List.length_singleton]; omega
      · simp only [decide_eq_false h1, if_true, if_false, ite_true, ite_false, Bool.false_eq_true, reduceIte, Bool.not_true, Bool.not_false, List.getElem?_cons_zero, List.getElem?_cons_succ, List.set_cons_zero, List.set_cons_succ, List.map_cons, List.map_nil, List.replicate, List.cons_append, List.nil_append, List.length_cons, List.length_nil, dstart]
        exact ⟨_, ks2, ts2, rfl, k2, t2, ag2, nd2, R2, s2, m2, l2, x2, c2, stay fun h => absurd h h1, w2⟩
    · rintro γ M2 ⟨o, ks2, ts2, rfl, k2, t2, ag2, nd2, R2, s2, m2, l2, x2, c2, p2, w2⟩
      rw [List.length_map, List.take_length] at p2
      refine ⟨_, w2, o, ks2, ts2, rfl, k2, t2, ag2, nd2, R2, s2, m2, l2, fun z hz => ?_, rfl⟩
      rcases c2 z hz with h | h | h
      · exact .inl h
      · subst h
        exact .inr fun y hy hyn => p2 y (srt_mem.mpr hy) hyn
      · exact .inr h
theorem sc_Book___init__ : FnScope ["self", "size", "ties", "inside", "content"] ["self", "size", "ties"] (defScope s_Book___init__) := ⟨rfl, rfl, rfl, by decide +kernel, rfl, by decide +kernel, by decide +kernel⟩
def sp_Book___init__ (C_TB : Addr) : DSp := fun ds M Q _ => ∃ (p : Addr) (n : Int) (ps : List (Int × Int)), ds = [.ref p, .int n, .tup (ps.map prD)] ∧ M p = some (.ins C_TB []) ∧ BookOk n ps ∧ ∀ d M2, M d = none → BookAt C_TB M2 p n ps d → Agree M M2 [p, d] → Q .non M2
theorem c_Book___init__ {f : Addr} {C_TB : Addr} (F : DMet K "__init__" "Book.__init__" s_Book___init__ f ["self", "size", "ties"]) (B : Bn mg) (G : Gs mg) (TB : Cl_TB K mg C_TB) (c_are_rising_pairs : DCal P w K mg base CX0 5 "are_rising_pairs" sp_are_rising_pairs) (c_beside_lists : DCal P w K mg base CX0 1 "beside_lists" sp_beside_lists) (c_is_within : DCal P w K mg base CX0 2 "is_within" sp_is_within) (c_reached : DCal P w K mg base CX0 1 "reached" sp_reached) : ∃ fd, FnOk P w K mg base CX0 6 f fd ["self", "size", "ties"] (liftSp K (sp_Book___init__ C_TB)) ∧ Binds K fd ["self", "size", "ties"] [] := by
  obtain ⟨t_MOST_CONTENTS, g_MOST_CONTENTS⟩ := G.MOST_CONTENTS
  obtain ⟨t_MOST_TIES, g_MOST_TIES⟩ := G.MOST_TIES
  refine dokM F sc_Book___init__ (fun ds M Q E h => (by obtain ⟨_, h⟩ := h; first | (obtain ⟨e, _⟩ := h; subst e; rfl) | (obtain ⟨_, e, _⟩ := h; subst e; rfl) | (obtain ⟨_, _, e, _⟩ := h; subst e; rfl) | (obtain ⟨_, _, _, e, _⟩ := h; subst e; rfl) | (obtain ⟨_, _, _, _, e, _⟩ := h; subst e; rfl) | (obtain ⟨_, _, _, _, _, e, _⟩ := h; subst e; rfl) | (obtain ⟨_, _, _, _, _, _, e, _⟩ := h; subst e; rfl) | (obtain ⟨_, _, _, _, _, _, _, e, _⟩ := h; subst e; rfl) | (obtain ⟨_, _, _, _, _, _, _, _, e, _⟩ := h; subst e; rfl) | (obtain ⟨_, _, _, _, _, _, _, _, _, e, _⟩ := h; subst e; rfl) | (obtain ⟨_, _, _, _, _, _, _, _, _, _, e, _⟩ := h; subst e; rfl) | (obtain ⟨_, _, _, _, _, _, _, _, _, _, _, e, _⟩ := h; subst e; rfl) | (obtain ⟨_, _, _, _, _, _, _, _, _, _, _, _, e, _⟩ := h; subst e; rfl) | (obtain ⟨_, _, _, _, _, _, _, _, _, _, _, _, _, e, _⟩ := h; subst e; rfl) | (obtain ⟨_, _, _, _, _, _, _, _, _, _, _, _, _, _, e, _⟩ := h; subst e; rfl) | (obtain ⟨_, _, _, _, _, _, _, _, _, _, _, _, _, _, _, e, _⟩ := h; subst e; rfl) | (obtain ⟨_, _, _, _, _, _, _, _, _, _, _, _, _, _, _, _, e, _⟩ := h; subst e; rfl) | (obtain ⟨_, _, _, _, _, _, _, _, _, _, _, _, _, _, _, _, _, e, _⟩ := h; subst e; rfl) | (obtain ⟨_, _, _, _, _, _, _, _, _, _, _, _, _, _, _, _, _, _, e, _⟩ := h; subst e; rfl) | (obtain ⟨_, _, _, _, _, _, _, _, _, _, _, _, _, _, _, _, _, _, _, e, _⟩ := h; subst e; rfl) | (obtain ⟨_, _, _, _, _, _, _, _, _, _, _, _, _, _, _, _, _, _, _, _, e, _⟩ := h; subst e; rfl) | (obtain ⟨_, _, _, _, _, _, _, _, _, _, _, _, _, _, _, _, _, _, _, _, _, e, _⟩ := h; subst e; rfl) | (obtain ⟨_, _, _, _, _, _, _, _, _, _, _, _, _, _, _, _, _, _, _, _, _, _, e, _⟩ := h; subst e; rfl) | (obtain ⟨_, _, _, _, _, _, _, _, _, _, _, _, _, _, _, _, _, _, _, _, _, _, _, e, _⟩ := h; subst e; rfl) | (obtain ⟨_, _, _, _, _, _, _, _, _, _, _, _, _, _, _, _, _, _, _, _, _, _, _, _, e, _⟩ := h; subst e; rfl) | (obtain ⟨_, _, _, _, _, _, _, _, _, _, _, _, _, _, _, _, _, _, _, _, _, _, _, _, _, e, _⟩ := h; subst e; rfl))) (fun cdv A outer s H E F0 hr => ?_)
  have nd := (sc_Book___init__).nd
  refine ⟨_, _, (db_cons (ds_if (dt_not (dt_val (de_call c_is_within hr (goes0A (E := DXK.no)) (da_cons (de_var 1) (da_cons de_int (da_cons (de_globI g_MOST_CONTENTS) da_nil)))))) (db_one ds_never) db_nil)
      (db_cons (ds_if (dt_not (dt_val (de_call c_are_rising_pairs hr (goes0A (E := DXK.no)) (da_cons (de_var 2) (da_cons (de_var 1) (da_cons (de_globI g_MOST_TIES) da_nil)))))) (db_one ds_never) db_nil)
      (db_cons (ds_fld TB.cl TB.n_kept_size (de_var 0) (de_var 1))
      (db_cons (ds_fld TB.cl TB.n_kept_ties (de_var 0) (de_var 2))
      (db_cons (ds_fld TB.cl TB.n_kept_facts (de_var 0) (de_disp (dpp_cons de_str (de_call c_beside_lists hr (goes0A (E := DXK.no)) (da_cons (de_var 1) (da_cons (de_var 2) da_nil))) dpp_nil)))
      (db_cons (dx_setDc 3 (own := [("content", 4)]) rfl nd (sw_trueD rfl rfl rfl (by decide +kernel)) (di_range1 B.range (da_cons (de_var 1) da_nil)) (blkOk_by (N := ["self", "size", "ties", "inside", "content"]) (sc := defScope s_Book___init__) (by decide +kernel)) (fun _ _ _ _ _ => ⟨_, (dg_name 4 nd), (gw_name (by decide))⟩) (fun _ _ _ _ _ => ⟨_, dts_nil⟩) (fun _ _ _ _ _ => ⟨_, (de_var 4)⟩) (fun _ _ _ _ _ => ⟨_, de_bl⟩))
      (db_one (ds_if (dt_lt (de_len B.len (da_cons (de_call c_reached hr (goes0A (E := DXK.no)) (da_cons (de_ix hr (de_fld TB.cl TB.n_kept_facts (de_var 0)) de_str) (da_cons (de_var 3) (da_cons de_int da_nil)))) da_nil)) (de_var 1)) (db_one ds_never) db_nil)))))))), ?_⟩
  rintro ds M Q E ⟨p, n, ps, rfl, hp, ok, q⟩
  have n0 := ok.lo
  have n8 := ok.hi
  have l28 := ok.pr.len28 n8
  have e1 : (D.int n).within 1 8 = true := by simp only [D.within, Bool.and_eq_true, decide_eq_true_eq]; omega
  refine dSeq_then (fun γ' M' => γ' = [some (.ref p), some (.int n), some (.tup (ps.map prD)), none, none] ∧ M' = M) (fun nx hn => ?_) (fun γ1 M1 h1 => ?_)
  · simp only [dVar, dC, dOp, dTest, dII, dIC, dFld, dFldS, dMake, dProp, dLcM, toM, dppNil, dppCons, dMerge, dDisp, dCatL, dRep, dRepM, dExtend, dChain, dEq, dAnd, dOr, dNot, dIfE, dNext, dSeq, dDrop, dRet, dIfS, dNever, dFrz, hName, hNil, hCons, hTup, hSub, dAsg, dAug, dipI, dNil, dCons, dTup, dLst, dLstM, dIx, dSet, dCall, dwipe, dYes, jSeq, jRng1, jRng2, dCB, dLen, dList, dListM, dTuple, dAbs, dInt, dBM0, dBM, dAppend, dPop, dPopAt, dAndV, dNotV, dNeg, dIn, dNoPart, dPart, dSl, dSlM, dNewK, dIsi, dIsiT, dLc, dFor, dDc, dCallS, dRaise, dTry, dIsE, dSortD, dFrzE, jKeys, dIndexD, dEqS, dReprG, if_true, if_false, ite_true, ite_false, Bool.false_eq_true, reduceIte, Bool.not_true, Bool.not_false, List.getElem?_cons_zero, List.getElem?_cons_succ, List.set_cons_zero, List.set_cons_succ, List.map_cons, List.map_nil, List.replicate, List.cons_append, List.nil_append, List.length_cons, List.length_nil, dstart]
    refine ⟨.int n, 1, 8, rfl, rfl, ?_⟩
    rw [e1]
    simp only [if_true, if_false, ite_true, ite_false, Bool.false_eq_true, reduceIte, Bool.not_true, Bool.not_false, List.getElem?_cons_zero, List.getElem?_cons_succ, List.set_cons_zero, List.set_cons_succ, List.map_cons, List.map_nil, List.replicate, List.cons_append, List.nil_append, List.length_cons, List.length_nil, dstart]
    exact hn _ _ ⟨rfl, rfl⟩
  obtain ⟨rfl, rfl⟩ := h1
  refine dSeq_then (fun γ' M' => γ' = [some (.ref p), some (.int n), some (.tup (ps.map prD)), none, none] ∧ M' = M1) (fun nx hn => ?_) (fun γ2 M2 h2 => ?_)
  · simp only [dVar, dC, dOp, dTest, dII, dIC, dFld, dFldS, dMake, dProp, dLcM, toM, dppNil, dppCons, dMerge, dDisp, dCatL, dRep, dRepM, dExtend, dChain, dEq, dAnd, dOr, dNot, dIfE, dNext, dSeq, dDrop, dRet, dIfS, dNever, dFrz, hName, hNil, hCons, hTup, hSub, dAsg, dAug, dipI, dNil, dCons, dTup, dLst, dLstM, dIx, dSet, dCall, dwipe, dYes, jSeq, jRng1, jRng2, dCB, dLen, dList, dListM, dTuple, dAbs, dInt, dBM0, dBM, dAppend, dPop, dPopAt, dAndV, dNotV, dNeg, dIn, dNoPart, dPart, dSl, dSlM, dNewK, dIsi, dIsiT, dLc, dFor, dDc, dCallS, dRaise, dTry, dIsE, dSortD, dFrzE, jKeys, dIndexD, dEqS, dReprG, if_true, if_false, ite_true, ite_false, Bool.false_eq_true, reduceIte, Bool.not_true, Bool.not_false, List.getElem?_cons_zero, List.getElem?_cons_succ, List.set_cons_zero, List.set_cons_succ, List.map_cons, List.map_nil, List.replicate, List.cons_append, List.nil_append, List.length_cons, List.length_nil, dstart]
    refine ⟨ps, n, 28, rfl, by omega, by omega, ok.pr, ?_⟩
    simp only [if_true, if_false, ite_true, ite_false, Bool.false_eq_true, reduceIte, Bool.not_true, Bool.not_false, List.getElem?_cons_zero, List.getElem?_cons_succ, List.set_cons_zero, List.set_cons_succ, List.map_cons, List.map_nil, List.replicate, List.cons_append, List.nil_append, List.length_cons, List.length_nil, dstart]
    exact hn _ _ ⟨rfl, rfl⟩
  obtain ⟨rfl, rfl⟩ := h2
  simp only [dVar, dC, dOp, dTest, dII, dIC, dFld, dFldS, dMake, dProp, dLcM, toM, dppNil, dppCons, dMerge, dDisp, dCatL, dRep, dRepM, dExtend, dChain, dEq, dAnd, dOr, dNot, dIfE, dNext, dSeq, dDrop, dRet, dIfS, dNever, dFrz, hName, hNil, hCons, hTup, hSub, dAsg, dAug, dipI, dNil, dCons, dTup, dLst, dLstM, dIx, dSet, dCall, dwipe, dYes, jSeq, jRng1, jRng2, dCB, dLen, dList, dListM, dTuple, dAbs, dInt, dBM0, dBM, dAppend, dPop, dPopAt, dAndV, dNotV, dNeg, dIn, dNoPart, dPart, dSl, dSlM, dNewK, dIsi, dIsiT, dLc, dFor, dDc, dCallS, dRaise, dTry, dIsE, dSortD, dFrzE, jKeys, dIndexD, dEqS, dReprG, if_true, if_false, ite_true, ite_false, Bool.false_eq_true, reduceIte, Bool.not_true, Bool.not_false, List.getElem?_cons_zero, List.getElem?_cons_succ, List.set_cons_zero, List.set_cons_succ, List.map_cons, List.map_nil, List.replicate, List.cons_append, List.nil_append, List.length_cons, List.length_nil, dstart, hp, mset_same, mset_mset, putD, bne]
  refine ⟨trivial, by decide, trivial, by decide, fun f hf => ⟨_, rfl, n, ps, rfl, by omega, by omega, by omega, ok.pr, fun hf2 => ⟨by decide, ?_⟩⟩⟩
  have fp : f ≠ p := fun e => by rw [e, mset_same] at hf; cases hf
  have hf0 : M2 f = none := by rw [mset_ne fp] at hf; exact hf
  have e2 : (dput [] (.inr "tied") (.lst (rowsD n ps)) : List (Key × D)) = [(.inr "tied", .lst (rowsD n ps))] := rfl
  simp only [e2, mset_ne (Ne.symm fp), mset_same, if_true, if_false, ite_true, ite_false, Bool.false_eq_true, reduceIte, Bool.not_true, Bool.not_false, List.getElem?_cons_zero, List.getElem?_cons_succ, List.set_cons_zero, List.set_cons_succ, List.map_cons, List.map_nil, List.replicate, List.cons_append, List.nil_append, List.length_cons, List.length_nil, dstart, putD, bne]
  rw [rgD_all]
  refine ⟨trivial, by decide, by omega, by rw [List.length_map, allOf_len]; exact len_ok (by omega), ?_⟩
  have hb : BookAt C_TB (mset (mset (mset M2 p (.ins C_TB [("kept_size", .int n), ("kept_ties", .tup (ps.map prD))])) f (.dK [(.inr "tied", .lst (rowsD n ps))])) p (.ins C_TB (bookF n ps f))) p n ps f := ⟨mset_same, by rw [mset_ne fp, mset_same], ok⟩
  have ag : Agree M2 (mset (mset (mset M2 p (.ins C_TB [("kept_size", .int n), ("kept_ties", .tup (ps.map prD))])) f (.dK [(.inr "tied", .lst (rowsD n ps))])) p (.ins C_TB (bookF n ps f))) [p, f] := ((Agree.mset (by simp)).trans (Agree.mset (by simp))).trans (Agree.mset (by simp))
  change dDcI _ _ _ _ _ _ _ (mset (mset (mset M2 p (.ins C_TB [("kept_size", .int n), ("kept_ties", .tup (ps.map prD))])) f (.dK [(.inr "tied", .lst (rowsD n ps))])) p (.ins C_TB (bookF n ps f))) _
  revert hb ag
  generalize mset (mset (mset M2 p (.ins C_TB [("kept_size", .int n), ("kept_ties", .tup (ps.map prD))])) f (.dK [(.inr "tied", .lst (rowsD n ps))])) p (.ins C_TB (bookF n ps f)) = Ma
  intro B ag
  refine dDcI_map (fun d => match d with | .int i => .inl i | _ => .inl 0) (fun _ => .bl true) (fun i e he Q2 q2 => ?_) fun i hi => ?_
  · obtain ⟨y, hy, rfl⟩ := get_int he
    simp only [dVar, dC, dOp, dTest, dII, dIC, dFld, dFldS, dMake, dProp, dLcM, toM, dppNil, dppCons, dMerge, dDisp, dCatL, dRep, dRepM, dExtend, dChain, dEq, dAnd, dOr, dNot, dIfE, dNext, dSeq, dDrop, dRet, dIfS, dNever, dFrz, hName, hNil, hCons, hTup, hSub, dAsg, dAug, dipI, dNil, dCons, dTup, dLst, dLstM, dIx, dSet, dCall, dwipe, dYes, jSeq, jRng1, jRng2, dCB, dLen, dList, dListM, dTuple, dAbs, dInt, dBM0, dBM, dAppend, dPop, dPopAt, dAndV, dNotV, dNeg, dIn, dNoPart, dPart, dSl, dSlM, dNewK, dIsi, dIsiT, dLc, dFor, dDc, dCallS, dRaise, dTry, dIsE, dSortD, dFrzE, jKeys, dIndexD, dEqS, dReprG, if_true, if_false, ite_true, ite_false, Bool.false_eq_true, reduceIte, Bool.not_true, Bool.not_false, List.getElem?_cons_zero, List.getElem?_cons_succ, List.set_cons_zero, List.set_cons_succ, List.map_cons, List.map_nil, List.replicate, List.cons_append, List.nil_append, List.length_cons, List.length_nil, dstart]
    exact ⟨_, rfl, q2⟩
  have e := fold_kvT (allOf n) [] (by simpa using allOf_nodup n)
  rw [List.nil_append] at e
  have e2 : (List.map kvT ([] : List Int)) = ([] : List (Key × D)) := rfl
  rw [e2] at e
  rw [e]
  have ip : i ≠ p := fun e => by (rw [e, B.ob] at hi; cases hi)
  have jf : i ≠ f := fun e => by (rw [e, B.fc] at hi; cases hi)
  have B2 : BookAt C_TB (mset Ma i (.dK ((allOf n).map kvT))) p n ps f := B.keep (S := [i]) (Agree.mset (by simp)) (by simpa using Ne.symm ip) (by simpa using Ne.symm jf)
  simp only [B2.ob]
  have e0 : (0 : Int) ∈ allOf n := allOf_mem.mpr ⟨by omega, by omega⟩
  refine ⟨trivial, .ref f, fb_facts n ps f, .lst (rowsD n ps), by rw [ix_dK B2.fc, dval_cons, if_pos rfl], n, ps, i, allOf n, 0, rfl, ok.pr, .of mset_same, by rw [allOf_len]; omega, fun x hx => allOf_mem.mp hx, e0, fun r ks hr nd mem => ⟨ks.length, by simp only [lenV, mset_same, List.length_map], ?_⟩⟩
  have kl : ks.length = n.toNat := by
    have h1 := nodup_len nd fun x hx => ((mem x).mp hx).mem e0
    have h2 := nodup_len (allOf_nodup n) fun x hx => (mem x).mpr (ok.hang 0 e0 x hx)
    rw [allOf_len] at h1 h2
    omega
  rw [show decide ((ks.length : Int) < n) = false from decide_eq_false (by omega)]
  simp only [if_true, if_false, ite_true, ite_false, Bool.false_eq_true, reduceIte, Bool.not_true, Bool.not_false, List.getElem?_cons_zero, List.getElem?_cons_succ, List.set_cons_zero, List.set_cons_succ, List.map_cons, List.map_nil, List.replicate, List.cons_append, List.nil_append, List.length_cons, List.length_nil, dstart]
  have rp : r ≠ p := fun e => by (rw [e, B2.ob] at hr; cases hr)
  have rf : r ≠ f := fun e => by (rw [e, B2.fc] at hr; cases hr)
  have ex : Ext M2 (mset (mset Ma i (.dK ((allOf n).map kvT))) r (.dK (ks.map kvT))) [p, f] := by
    have x1 := (ag.ext).mset (o := .dK ((allOf n).map kvT)) (ag.ext.fresh (by simp [ip, jf]) hi)
    exact x1.mset (x1.fresh (by simp [rp, rf]) hr)
  obtain ⟨M3, le, ag3, ep⟩ := ex.cutL
  have B3 : BookAt C_TB (mset (mset Ma i (.dK ((allOf n).map kvT))) r (.dK (ks.map kvT))) p n ps f := B2.keep (S := [r]) (Agree.mset (by simp)) (by simpa using Ne.symm rp) (by simpa using Ne.symm rf)
  exact fin_less le (q f M3 hf0 ⟨(ep p (by simp)).trans B3.ob, (ep f (by simp)).trans B3.fc, ok⟩ ag3)
theorem sc_law : FnScope ["_law_script", "_law_dice_here", "_law_many", "_law_ties", "_law_book_here", "_law_log_here", "_law_turn", "_law_thing", "_law_kept", "_law_none", "_law_first", "_law_due"] ["_law_script"] (defScope s_law) := ⟨rfl, rfl, rfl, by decide +kernel, rfl, by decide +kernel, by decide +kernel⟩
def sp_law : DSp := spLaw
theorem c_law {f : Addr} {fd : FuncData} {C_TB : Addr} (F : Fun K "law" "law" s_law f fd) (B : Bn mg) (G : Gs mg) (c__law_bent : DCal P w K mg base CX0 2 "_law_bent" sp__law_bent) (c__law_book : DCal P w K mg base CX0 3 "_law_book" sp__law_book) (c__law_dice : DCal P w K mg base CX0 1 "_law_dice" sp__law_dice) (c__law_draw : DCal P w K mg base CX0 1 "_law_draw" sp__law_draw) (c__law_is_log : DCal P w K mg base CX0 2 "_law_is_log" sp__law_is_log) (c__law_log : DCal P w K mg base CX0 2 "_law_log" sp__law_log) (c__law_word : DCal P w K mg base CX0 7 "_law_word" (sp__law_word C_TB)) (MK_Book : DMk P w K mg base CX0 6 "Book" C_TB (sp_Book___init__ C_TB)) : TopOk P w K mg base f fd ["_law_script"] (liftSp K sp_law) := by
  refine dokTop (k := 7) F sc_law ⟨rfl, by decide, by decide⟩ (fun ds M Q E h => (by obtain ⟨_, h⟩ := h; first | (obtain ⟨e, _⟩ := h; subst e; rfl) | (obtain ⟨_, e, _⟩ := h; subst e; rfl) | (obtain ⟨_, _, e, _⟩ := h; subst e; rfl) | (obtain ⟨_, _, _, e, _⟩ := h; subst e; rfl) | (obtain ⟨_, _, _, _, e, _⟩ := h; subst e; rfl) | (obtain ⟨_, _, _, _, _, e, _⟩ := h; subst e; rfl) | (obtain ⟨_, _, _, _, _, _, e, _⟩ := h; subst e; rfl) | (obtain ⟨_, _, _, _, _, _, _, e, _⟩ := h; subst e; rfl) | (obtain ⟨_, _, _, _, _, _, _, _, e, _⟩ := h; subst e; rfl) | (obtain ⟨_, _, _, _, _, _, _, _, _, e, _⟩ := h; subst e; rfl) | (obtain ⟨_, _, _, _, _, _, _, _, _, _, e, _⟩ := h; subst e; rfl) | (obtain ⟨_, _, _, _, _, _, _, _, _, _, _, e, _⟩ := h; subst e; rfl) | (obtain ⟨_, _, _, _, _, _, _, _, _, _, _, _, e, _⟩ := h; subst e; rfl) | (obtain ⟨_, _, _, _, _, _, _, _, _, _, _, _, _, e, _⟩ := h; subst e; rfl) | (obtain ⟨_, _, _, _, _, _, _, _, _, _, _, _, _, _, e, _⟩ := h; subst e; rfl) | (obtain ⟨_, _, _, _, _, _, _, _, _, _, _, _, _, _, _, e, _⟩ := h; subst e; rfl) | (obtain ⟨_, _, _, _, _, _, _, _, _, _, _, _, _, _, _, _, e, _⟩ := h; subst e; rfl) | (obtain ⟨_, _, _, _, _, _, _, _, _, _, _, _, _, _, _, _, _, e, _⟩ := h; subst e; rfl) | (obtain ⟨_, _, _, _, _, _, _, _, _, _, _, _, _, _, _, _, _, _, e, _⟩ := h; subst e; rfl) | (obtain ⟨_, _, _, _, _, _, _, _, _, _, _, _, _, _, _, _, _, _, _, e, _⟩ := h; subst e; rfl) | (obtain ⟨_, _, _, _, _, _, _, _, _, _, _, _, _, _, _, _, _, _, _, _, e, _⟩ := h; subst e; rfl) | (obtain ⟨_, _, _, _, _, _, _, _, _, _, _, _, _, _, _, _, _, _, _, _, _, e, _⟩ := h; subst e; rfl) | (obtain ⟨_, _, _, _, _, _, _, _, _, _, _, _, _, _, _, _, _, _, _, _, _, _, e, _⟩ := h; subst e; rfl) | (obtain ⟨_, _, _, _, _, _, _, _, _, _, _, _, _, _, _, _, _, _, _, _, _, _, _, e, _⟩ := h; subst e; rfl) | (obtain ⟨_, _, _, _, _, _, _, _, _, _, _, _, _, _, _, _, _, _, _, _, _, _, _, _, e, _⟩ := h; subst e; rfl) | (obtain ⟨_, _, _, _, _, _, _, _, _, _, _, _, _, _, _, _, _, _, _, _, _, _, _, _, _, e, _⟩ := h; subst e; rfl))) (fun cdv s H E F0 hr => ?_)
  have nd := (sc_law).nd
  refine ⟨_, _, (db_cons (ds_set 1 nd (de_call c__law_dice hr (goes0A (E := DXK.no)) (da_cons (de_var 0) da_nil)))
      (db_cons (ds_asg (de_call c__law_book hr (goes0A (E := DXK.no)) (da_cons (de_var 1) (da_cons de_int da_nil))) (dg_tup (n := 2) rfl (dgs_cons (dg_name 2 nd) (dgs_cons (dg_name 3 nd) dgs_nil))))
      (db_cons (ds_set 4 nd (de_make MK_Book hr (goes0A (E := DXK.no)) (da_cons (de_var 2) (da_cons (de_var 3) da_nil))))
      (db_cons (ds_set 5 nd (de_frz (de_call c__law_log hr (goes0A (E := DXK.no)) (da_cons (de_var 1) (da_cons (de_var 2) (da_cons (de_var 3) (da_cons (de_add de_int (de_call c__law_draw hr (goes0A (E := DXK.no)) (da_cons (de_var 1) (da_cons de_int da_nil)))) da_nil)))))))
      (db_cons (ds_for PassesOwn.never rfl (di_range1 B.range (da_cons de_int da_nil)) (dg_name 6 nd) (db_cons (ds_set 7 nd (de_frz (de_call c__law_bent hr (goes0A (E := DXK.no)) (da_cons (de_var 1) (da_cons (de_var 2) (da_cons (de_var 5) da_nil))))))
      (db_cons (ds_set 8 nd (de_blt (call_reprG rfl hr.units) lc_reprG B.repr (da_cons (de_var 7) da_nil)))
      (db_cons (ds_set 9 nd (de_ix hr (de_lst (da_cons (de_var 2) (da_cons (de_neg de_int) (da_cons de_bl (da_cons de_bl (da_cons de_non (da_cons de_str (da_cons (de_tup (da_cons de_int da_nil)) (da_cons (de_pow de_int de_int) (da_cons (de_lst (da_cons de_int da_nil)) da_nil)))))))))) (de_call c__law_draw hr (goes0A (E := DXK.no)) (da_cons (de_var 1) (da_cons de_int da_nil)))))
      (db_cons (ds_set 10 nd (de_call c__law_draw hr (goes0A (E := DXK.no)) (da_cons (de_var 1) (da_cons (de_var 2) da_nil))))
      (db_cons (ds_set 11 nd (de_ifExp (dt_val (de_call c__law_is_log hr (goes0A (E := DXK.no)) (da_cons (de_var 2) (da_cons (de_var 7) da_nil)))) de_str de_str))
      (db_cons (ds_if (DW.dt (dw_or (dt_neS (de_call c__law_word hr (goes0A (E := DXK.no)) (da_cons de_int (da_cons (de_var 4) (da_cons (de_var 10) (da_cons (de_var 7) da_nil))))) (de_var 11)) (dw_or1 (dt_neS (de_call c__law_word hr (goes0A (E := DXK.no)) (da_cons de_int (da_cons (de_var 4) (da_cons de_non (da_cons (de_var 7) da_nil))))) (de_var 11))))) (db_one (ds_ret de_bl)) db_nil)
      (db_cons (ds_if (DW.dt (dw_or (dt_neS (de_call c__law_word hr (goes0A (E := DXK.no)) (da_cons de_int (da_cons (de_var 4) (da_cons (de_var 9) (da_cons (de_var 7) da_nil))))) de_str) (dw_or1 (dt_neS (de_blt (call_reprG rfl hr.units) lc_reprG B.repr (da_cons (de_var 7) da_nil)) (de_var 8))))) (db_one (ds_ret de_bl)) db_nil)
      (db_cons (ds_if (DW.dt (dw_or (dt_neS (de_call c__law_word hr (goes0A (E := DXK.no)) (da_cons de_int (da_cons (de_var 4) (da_cons (de_var 9) (da_cons (de_var 10) da_nil))))) de_str) (dw_or1 (dt_neS (de_call c__law_word hr (goes0A (E := DXK.no)) (da_cons de_int (da_cons (de_var 4) (da_cons (de_var 10) (da_cons (de_var 9) da_nil))))) de_str)))) (db_one (ds_ret de_bl)) db_nil)
      (db_one (ds_if (dt_neS (de_call c__law_word hr (goes0A (E := DXK.no)) (da_cons de_int (da_cons (de_var 4) (da_cons (de_var 10) (da_cons (de_var 10) da_nil))))) de_str) (db_one (ds_ret de_bl)) db_nil)))))))))))
      (db_one (ds_ret de_bl))))))), ?_⟩
  rintro ds M Q E ⟨ss, rfl, hl, hM, q⟩
  refine dSeq_then (fun γ' M' => ∃ p : Addr, γ' = [some (.ls (ss.map .int)), some (.ref p), none, none, none, none, none, none, none, none, none, none] ∧ DiL M' p) (fun nx hn => ?_) (fun γ1 M1 h1 => ?_)
  · simp only [dVar, dC, dOp, dTest, dII, dIC, dFld, dFldS, dMake, dProp, dLcM, toM, dppNil, dppCons, dMerge, dDisp, dCatL, dRep, dRepM, dExtend, dChain, dEq, dAnd, dOr, dNot, dIfE, dNext, dSeq, dDrop, dRet, dIfS, dNever, dFrz, hName, hNil, hCons, hTup, hSub, dAsg, dAug, dipI, dNil, dCons, dTup, dLst, dLstM, dIx, dSet, dCall, dwipe, dYes, jSeq, jRng1, jRng2, dCB, dLen, dList, dListM, dTuple, dAbs, dInt, dBM0, dBM, dAppend, dPop, dPopAt, dAndV, dNotV, dNeg, dIn, dNoPart, dPart, dSl, dSlM, dNewK, dIsi, dIsiT, dLc, dFor, dDc, dCallS, dRaise, dTry, dIsE, dSortD, dFrzE, jKeys, dIndexD, dEqS, dReprG, if_true, if_false, ite_true, ite_false, Bool.false_eq_true, reduceIte, Bool.not_true, Bool.not_false, List.getElem?_cons_zero, List.getElem?_cons_succ, List.set_cons_zero, List.set_cons_succ, List.map_cons, List.map_nil, List.replicate, List.cons_append, List.nil_append, List.length_cons, List.length_nil, dstart]
    exact ⟨ss, rfl, hl, fun p M2 _ hd _ => hn _ _ ⟨p, rfl, hd⟩⟩
  obtain ⟨p, rfl, hp⟩ := h1
  refine dSeq_then (fun γ' M' => ∃ (n : Int) (ps : List (Int × Int)), γ' = [some (.ls (ss.map .int)), some (.ref p), some (.int n), some (.tup (ps.map prD)), none, none, none, none, none, none, none, none] ∧ BookOk n ps ∧ DiL M' p) (fun nx hn => ?_) (fun γ3 M3 h => ?_)
  · simp only [dVar, dC, dOp, dTest, dII, dIC, dFld, dFldS, dMake, dProp, dLcM, toM, dppNil, dppCons, dMerge, dDisp, dCatL, dRep, dRepM, dExtend, dChain, dEq, dAnd, dOr, dNot, dIfE, dNext, dSeq, dDrop, dRet, dIfS, dNever, dFrz, hName, hNil, hCons, hTup, hSub, dAsg, dAug, dipI, dNil, dCons, dTup, dLst, dLstM, dIx, dSet, dCall, dwipe, dYes, jSeq, jRng1, jRng2, dCB, dLen, dList, dListM, dTuple, dAbs, dInt, dBM0, dBM, dAppend, dPop, dPopAt, dAndV, dNotV, dNeg, dIn, dNoPart, dPart, dSl, dSlM, dNewK, dIsi, dIsiT, dLc, dFor, dDc, dCallS, dRaise, dTry, dIsE, dSortD, dFrzE, jKeys, dIndexD, dEqS, dReprG, if_true, if_false, ite_true, ite_false, Bool.false_eq_true, reduceIte, Bool.not_true, Bool.not_false, List.getElem?_cons_zero, List.getElem?_cons_succ, List.set_cons_zero, List.set_cons_succ, List.map_cons, List.map_nil, List.replicate, List.cons_append, List.nil_append, List.length_cons, List.length_nil, dstart]
    exact ⟨p, 8, rfl, hp, by decide, by decide, fun n ps M2 ok _ d2 _ => ⟨rfl, hn _ _ ⟨n, ps, rfl, ok, d2⟩⟩⟩
  clear hp
  obtain ⟨n, ps, rfl, ok, hp⟩ := h
  have n1 := ok.lo
  have n8 := ok.hi
  refine dSeq_then (fun γ' M' => ∃ b d, γ' = [some (.ls (ss.map .int)), some (.ref p), some (.int n), some (.tup (ps.map prD)), some (.ref b), none, none, none, none, none, none, none] ∧ BookAt C_TB M' b n ps d ∧ b ≠ p ∧ d ≠ p ∧ DiL M' p) (fun nx hn => ?_) (fun γ4 M4 h => ?_)
  · simp only [dVar, dC, dOp, dTest, dII, dIC, dFld, dFldS, dMake, dProp, dLcM, toM, dppNil, dppCons, dMerge, dDisp, dCatL, dRep, dRepM, dExtend, dChain, dEq, dAnd, dOr, dNot, dIfE, dNext, dSeq, dDrop, dRet, dIfS, dNever, dFrz, hName, hNil, hCons, hTup, hSub, dAsg, dAug, dipI, dNil, dCons, dTup, dLst, dLstM, dIx, dSet, dCall, dwipe, dYes, jSeq, jRng1, jRng2, dCB, dLen, dList, dListM, dTuple, dAbs, dInt, dBM0, dBM, dAppend, dPop, dPopAt, dAndV, dNotV, dNeg, dIn, dNoPart, dPart, dSl, dSlM, dNewK, dIsi, dIsiT, dLc, dFor, dDc, dCallS, dRaise, dTry, dIsE, dSortD, dFrzE, jKeys, dIndexD, dEqS, dReprG, if_true, if_false, ite_true, ite_false, Bool.false_eq_true, reduceIte, Bool.not_true, Bool.not_false, List.getElem?_cons_zero, List.getElem?_cons_succ, List.set_cons_zero, List.set_cons_succ, List.map_cons, List.map_nil, List.replicate, List.cons_append, List.nil_append, List.length_cons, List.length_nil, dstart]
    refine fun b hb => ⟨b, n, ps, rfl, mset_same, ok, fun d M2 hd W ag => ⟨rfl, ?_⟩⟩
    have nb := hp.some hb
    have ndp : d ≠ p := (hp.mset nb).some hd
    exact hn _ _ ⟨b, d, rfl, W, nb, ndp, hp.ext (Agree.newM hb hd ag) (by simp)⟩
  clear hp
  obtain ⟨b, d, rfl, W, nb, ndp, hp⟩ := h
  have nb' : b ∉ [p] := by simpa using nb
  have nd' : d ∉ [p] := by simpa using ndp
  refine dSeq_then (fun γ' M' => ∃ es : List (Bool × Int), γ' = [some (.ls (ss.map .int)), some (.ref p), some (.int n), some (.tup (ps.map prD)), some (.ref b), some (.lst (es.map entD)), none, none, none, none, none, none] ∧ 1 ≤ es.length ∧ es.length ≤ 12 ∧ (∀ e ∈ es, 0 ≤ e.2 ∧ e.2 < n) ∧ BookAt C_TB M' b n ps d ∧ DiL M' p) (fun nx hn => ?_) (fun γ5 M5 h => ?_)
  · simp only [dVar, dC, dOp, dTest, dII, dIC, dFld, dFldS, dMake, dProp, dLcM, toM, dppNil, dppCons, dMerge, dDisp, dCatL, dRep, dRepM, dExtend, dChain, dEq, dAnd, dOr, dNot, dIfE, dNext, dSeq, dDrop, dRet, dIfS, dNever, dFrz, hName, hNil, hCons, hTup, hSub, dAsg, dAug, dipI, dNil, dCons, dTup, dLst, dLstM, dIx, dSet, dCall, dwipe, dYes, jSeq, jRng1, jRng2, dCB, dLen, dList, dListM, dTuple, dAbs, dInt, dBM0, dBM, dAppend, dPop, dPopAt, dAndV, dNotV, dNeg, dIn, dNoPart, dPart, dSl, dSlM, dNewK, dIsi, dIsiT, dLc, dFor, dDc, dCallS, dRaise, dTry, dIsE, dSortD, dFrzE, jKeys, dIndexD, dEqS, dReprG, if_true, if_false, ite_true, ite_false, Bool.false_eq_true, reduceIte, Bool.not_true, Bool.not_false, List.getElem?_cons_zero, List.getElem?_cons_succ, List.set_cons_zero, List.set_cons_succ, List.map_cons, List.map_nil, List.replicate, List.cons_append, List.nil_append, List.length_cons, List.length_nil, dstart]
    refine ⟨p, 12, rfl, hp, by decide, by decide, fun r M2 r0 r1 d2 a2 => ⟨p, n, 1 + r, ps, rfl, d2, n1, n8, ok.pr, by omega, by omega, fun es l M3 d3 E3 hl0 hl1 he er => ?_⟩⟩
    have W2 := W.keep a2 nb' nd'
    have bl : b ≠ l := fun z => by rw [← z, W2.ob] at hl0; cases hl0
    have dl : d ≠ l := fun z => by rw [← z, W2.fc] at hl0; cases hl0
    simp only [hl1]
    exact hn _ _ ⟨es, rfl, by omega, by omega, er, (W2.ext E3 nb' nd').del bl dl, d3.mdel (d2.some hl0)⟩
  clear hp W
  obtain ⟨es, rfl, e1, e12, er, W, hp⟩ := h
  refine dSeq_then (fun γ' M' => ∃ (o6 o7 o8 o9 o10 o11 : Option D), γ' = [some (.ls (ss.map .int)), some (.ref p), some (.int n), some (.tup (ps.map prD)), some (.ref b), some (.lst (es.map entD)), o6, o7, o8, o9, o10, o11]) (fun nx hn => ?_) (fun γ2 M2 h => ?_)
  · simp only [dFor, jRng1, dCons, dNil, dC, hName, if_true, if_false, ite_true, ite_false, Bool.false_eq_true, reduceIte, Bool.not_true, Bool.not_false, List.getElem?_cons_zero, List.getElem?_cons_succ, List.set_cons_zero, List.set_cons_succ, List.map_cons, List.map_nil, List.replicate, List.cons_append, List.nil_append, List.length_cons, List.length_nil, dstart]
    refine ⟨by decide, dForI_of (fun i γ M' => (∃ (o6 o7 o8 o9 o10 o11 : Option D), γ = [some (.ls (ss.map .int)), some (.ref p), some (.int n), some (.tup (ps.map prD)), some (.ref b), some (.lst (es.map entD)), o6, o7, o8, o9, o10, o11]) ∧ BookAt C_TB M' b n ps d ∧ DiL M' p) ⟨⟨none, none, none, none, none, none, rfl⟩, W, hp⟩ ?_ ?_⟩
    rotate_left
    · rintro γ M' ⟨⟨o6, o7, o8, o9, o10, o11, rfl⟩, _⟩
      exact hn _ _ ⟨o6, o7, o8, o9, o10, o11, rfl⟩
    clear W hp
    rintro i e γ M' he ⟨⟨o6, o7, o8, o9, o10, o11, rfl⟩, W, hp⟩
    simp only [if_true, if_false, ite_true, ite_false, Bool.false_eq_true, reduceIte, Bool.not_true, Bool.not_false, List.getElem?_cons_zero, List.getElem?_cons_succ, List.set_cons_zero, List.set_cons_succ, List.map_cons, List.map_nil, List.replicate, List.cons_append, List.nil_append, List.length_cons, List.length_nil, dstart]
    refine dSeq_then (fun γ' M' => ∃ o6 th, γ' = [some (.ls (ss.map .int)), some (.ref p), some (.int n), some (.tup (ps.map prD)), some (.ref b), some (.lst (es.map entD)), o6, some th, o8, o9, o10, o11] ∧ ThG th ∧ BookAt C_TB M' b n ps d ∧ DiL M' p) (fun nx hn => ?_) (fun γ3 M3 h => ?_)
    · simp only [dVar, dC, dOp, dTest, dII, dIC, dFld, dFldS, dMake, dProp, dLcM, toM, dppNil, dppCons, dMerge, dDisp, dCatL, dRep, dRepM, dExtend, dChain, dEq, dAnd, dOr, dNot, dIfE, dNext, dSeq, dDrop, dRet, dIfS, dNever, dFrz, hName, hNil, hCons, hTup, hSub, dAsg, dAug, dipI, dNil, dCons, dTup, dLst, dLstM, dIx, dSet, dCall, dwipe, dYes, jSeq, jRng1, jRng2, dCB, dLen, dList, dListM, dTuple, dAbs, dInt, dBM0, dBM, dAppend, dPop, dPopAt, dAndV, dNotV, dNeg, dIn, dNoPart, dPart, dSl, dSlM, dNewK, dIsi, dIsiT, dLc, dFor, dDc, dCallS, dRaise, dTry, dIsE, dSortD, dFrzE, jKeys, dIndexD, dEqS, dReprG, if_true, if_false, ite_true, ite_false, Bool.false_eq_true, reduceIte, Bool.not_true, Bool.not_false, List.getElem?_cons_zero, List.getElem?_cons_succ, List.set_cons_zero, List.set_cons_succ, List.map_cons, List.map_nil, List.replicate, List.cons_append, List.nil_append, List.length_cons, List.length_nil, dstart]
      refine ⟨p, n, es, rfl, hp, n1, n8, e1, e12, er, fun v M2 d2 E2 tg => ?_, fun a L M2 d2 E2 ha ha0 tg => ?_⟩
      · have k := hn _ _ ⟨some e, v, rfl, tg, W.ext E2 nb' nd', d2⟩
        cases v with
        | ref _ => exact tg.1.elim
        | _ => exact k
      · have bl : b ≠ a := fun z => by rw [← z, W.ob] at ha0; cases ha0
        have dl : d ≠ a := fun z => by rw [← z, W.fc] at ha0; cases ha0
        simp only [ha]
        exact hn _ _ ⟨some e, _, rfl, tg, (W.ext E2 nb' nd').del bl dl, d2.mdel (hp.some ha0)⟩
    clear W hp
    obtain ⟨o6, th, rfl, tg, W, hp⟩ := h
    refine dSeq_then (fun γ' M' => γ' = [some (.ls (ss.map .int)), some (.ref p), some (.int n), some (.tup (ps.map prD)), some (.ref b), some (.lst (es.map entD)), o6, some th, some (.str th.gp.shown), o9, o10, o11] ∧ M' = M3) (fun nx hn => ?_) (fun γ3 M4 h => ?_)
    · simp only [dVar, dC, dOp, dTest, dII, dIC, dFld, dFldS, dMake, dProp, dLcM, toM, dppNil, dppCons, dMerge, dDisp, dCatL, dRep, dRepM, dExtend, dChain, dEq, dAnd, dOr, dNot, dIfE, dNext, dSeq, dDrop, dRet, dIfS, dNever, dFrz, hName, hNil, hCons, hTup, hSub, dAsg, dAug, dipI, dNil, dCons, dTup, dLst, dLstM, dIx, dSet, dCall, dwipe, dYes, jSeq, jRng1, jRng2, dCB, dLen, dList, dListM, dTuple, dAbs, dInt, dBM0, dBM, dAppend, dPop, dPopAt, dAndV, dNotV, dNeg, dIn, dNoPart, dPart, dSl, dSlM, dNewK, dIsi, dIsiT, dLc, dFor, dDc, dCallS, dRaise, dTry, dIsE, dSortD, dFrzE, jKeys, dIndexD, dEqS, dReprG, if_true, if_false, ite_true, ite_false, Bool.false_eq_true, reduceIte, Bool.not_true, Bool.not_false, List.getElem?_cons_zero, List.getElem?_cons_succ, List.set_cons_zero, List.set_cons_succ, List.map_cons, List.map_nil, List.replicate, List.cons_append, List.nil_append, List.length_cons, List.length_nil, dstart]
      exact ⟨tg.2.1, tg.2.2, hn _ _ ⟨rfl, rfl⟩⟩
    obtain ⟨rfl, rfl⟩ := h
    refine dSeq_then (fun γ' M' => ∃ x, γ' = [some (.ls (ss.map .int)), some (.ref p), some (.int n), some (.tup (ps.map prD)), some (.ref b), some (.lst (es.map entD)), o6, some th, some (.str th.gp.shown), some x, o10, o11] ∧ anyD x = true ∧ x.within 0 (n - 1) = false ∧ BookAt C_TB M' b n ps d ∧ DiL M' p) (fun nx hn => ?_) (fun γ3 M5 h => ?_)
    · simp only [dVar, dC, dOp, dTest, dII, dIC, dFld, dFldS, dMake, dProp, dLcM, toM, dppNil, dppCons, dMerge, dDisp, dCatL, dRep, dRepM, dExtend, dChain, dEq, dAnd, dOr, dNot, dIfE, dNext, dSeq, dDrop, dRet, dIfS, dNever, dFrz, hName, hNil, hCons, hTup, hSub, dAsg, dAug, dipI, dNil, dCons, dTup, dLst, dLstM, dIx, dSet, dCall, dwipe, dYes, jSeq, jRng1, jRng2, dCB, dLen, dList, dListM, dTuple, dAbs, dInt, dBM0, dBM, dAppend, dPop, dPopAt, dAndV, dNotV, dNeg, dIn, dNoPart, dPart, dSl, dSlM, dNewK, dIsi, dIsiT, dLc, dFor, dDc, dCallS, dRaise, dTry, dIsE, dSortD, dFrzE, jKeys, dIndexD, dEqS, dReprG, if_true, if_false, ite_true, ite_false, Bool.false_eq_true, reduceIte, Bool.not_true, Bool.not_false, List.getElem?_cons_zero, List.getElem?_cons_succ, List.set_cons_zero, List.set_cons_succ, List.map_cons, List.map_nil, List.replicate, List.cons_append, List.nil_append, List.length_cons, List.length_nil, dstart]
      refine ⟨by decide, by unfold CPow; decide +kernel, by decide, by decide, p, 9, rfl, hp, by decide, by decide, fun r M2 r0 r1 d2 a2 => ?_⟩
      obtain ⟨x, hx⟩ : ∃ x, [D.int n, .int (-1), .bl true, .bl false, .non, .str (Str.ofString "0"), .tup [.int 0], .int (10 ^ 30), .lst [.int 0]][r.toNat]? = some x := ⟨_, List.getElem?_eq_getElem (by show r.toNat < 9; omega)⟩
      have hh := none_x n1 x (List.mem_of_getElem? hx) n8
      exact ⟨x, ixL_at (k := r.toNat) (by omega) hx, hn _ _ ⟨x, rfl, hh.1, hh.2, W.keep a2 nb' nd', d2⟩⟩
    clear W hp
    obtain ⟨x, rfl, xa, xw, W, hp⟩ := h
    refine dSeq_then (fun γ' M' => ∃ f : Int, γ' = [some (.ls (ss.map .int)), some (.ref p), some (.int n), some (.tup (ps.map prD)), some (.ref b), some (.lst (es.map entD)), o6, some th, some (.str th.gp.shown), some x, some (.int f), o11] ∧ 0 ≤ f ∧ f < n ∧ BookAt C_TB M' b n ps d ∧ DiL M' p) (fun nx hn => ?_) (fun γ3 M6 h => ?_)
    · simp only [dVar, dC, dOp, dTest, dII, dIC, dFld, dFldS, dMake, dProp, dLcM, toM, dppNil, dppCons, dMerge, dDisp, dCatL, dRep, dRepM, dExtend, dChain, dEq, dAnd, dOr, dNot, dIfE, dNext, dSeq, dDrop, dRet, dIfS, dNever, dFrz, hName, hNil, hCons, hTup, hSub, dAsg, dAug, dipI, dNil, dCons, dTup, dLst, dLstM, dIx, dSet, dCall, dwipe, dYes, jSeq, jRng1, jRng2, dCB, dLen, dList, dListM, dTuple, dAbs, dInt, dBM0, dBM, dAppend, dPop, dPopAt, dAndV, dNotV, dNeg, dIn, dNoPart, dPart, dSl, dSlM, dNewK, dIsi, dIsiT, dLc, dFor, dDc, dCallS, dRaise, dTry, dIsE, dSortD, dFrzE, jKeys, dIndexD, dEqS, dReprG, if_true, if_false, ite_true, ite_false, Bool.false_eq_true, reduceIte, Bool.not_true, Bool.not_false, List.getElem?_cons_zero, List.getElem?_cons_succ, List.set_cons_zero, List.set_cons_succ, List.map_cons, List.map_nil, List.replicate, List.cons_append, List.nil_append, List.length_cons, List.length_nil, dstart]
      exact ⟨p, n, rfl, hp, by omega, by omega, fun r M2 r0 r1 d2 a2 => hn _ _ ⟨r, rfl, r0, r1, W.keep a2 nb' nd', d2⟩⟩
    clear W hp
    obtain ⟨f, rfl, f0, f1, W, hp⟩ := h
    refine dSeq_then (fun γ' M' => γ' = [some (.ls (ss.map .int)), some (.ref p), some (.int n), some (.tup (ps.map prD)), some (.ref b), some (.lst (es.map entD)), o6, some th, some (.str th.gp.shown), some x, some (.int f), some (.str (if logB n th then "told" else "log"))] ∧ M' = M6) (fun nx hn => ?_) (fun γ3 M7 h => ?_)
    · simp only [dVar, dC, dOp, dTest, dII, dIC, dFld, dFldS, dMake, dProp, dLcM, toM, dppNil, dppCons, dMerge, dDisp, dCatL, dRep, dRepM, dExtend, dChain, dEq, dAnd, dOr, dNot, dIfE, dNext, dSeq, dDrop, dRet, dIfS, dNever, dFrz, hName, hNil, hCons, hTup, hSub, dAsg, dAug, dipI, dNil, dCons, dTup, dLst, dLstM, dIx, dSet, dCall, dwipe, dYes, jSeq, jRng1, jRng2, dCB, dLen, dList, dListM, dTuple, dAbs, dInt, dBM0, dBM, dAppend, dPop, dPopAt, dAndV, dNotV, dNeg, dIn, dNoPart, dPart, dSl, dSlM, dNewK, dIsi, dIsiT, dLc, dFor, dDc, dCallS, dRaise, dTry, dIsE, dSortD, dFrzE, jKeys, dIndexD, dEqS, dReprG, if_true, if_false, ite_true, ite_false, Bool.false_eq_true, reduceIte, Bool.not_true, Bool.not_false, List.getElem?_cons_zero, List.getElem?_cons_succ, List.set_cons_zero, List.set_cons_succ, List.map_cons, List.map_nil, List.replicate, List.cons_append, List.nil_append, List.length_cons, List.length_nil, dstart]
      refine ⟨n, th, rfl, tg.1, ?_⟩
      cases hb : logB n th with
      | true => exact hn _ _ ⟨by rw [hb]; rfl, rfl⟩
      | false => exact hn _ _ ⟨by rw [hb]; rfl, rfl⟩
    obtain ⟨rfl, rfl⟩ := h
    have fw : (D.int f).within 0 (n - 1) = true := by simp [D.within]; omega
    have e0 : wordS n 0 (.int f) th = (if logB n th then Str.ofString "told" else Str.ofString "log") := by unfold wordS; rw [if_pos rfl, fw, if_pos rfl]
    have e1 : wordS n 1 .non th = (if logB n th then Str.ofString "told" else Str.ofString "log") := rfl
    have e2 : wordS n 0 x th = "content" := by unfold wordS; rw [if_pos rfl, xw]; rfl
    have e3 : wordS n 2 x (.int f) = "content" := by simp only [wordS, cntB, List.all_cons, xw, Bool.false_and]; rfl
    have e4 : wordS n 2 (.int f) x = "content" := by simp only [wordS, cntB, List.all_cons, xw, Bool.false_and, Bool.and_false]; rfl
    have e5 : wordS n 2 (.int f) (.int f) = "told" := by simp only [wordS, cntB, List.all_cons, fw, List.all_nil, Bool.and_true]; rfl
    have eqs : ∀ z : Str, (z == z) = true := fun z => by simp
    refine dSeq_then (fun γ' M' => γ' = [some (.ls (ss.map .int)), some (.ref p), some (.int n), some (.tup (ps.map prD)), some (.ref b), some (.lst (es.map entD)), o6, some th, some (.str th.gp.shown), some x, some (.int f), some (.str (if logB n th then "told" else "log"))] ∧ BookAt C_TB M' b n ps d ∧ DiL M' p) (fun nx hn => ?_) (fun γ3 M8 h => ?_)
    · simp only [dVar, dC, dOp, dTest, dII, dIC, dFld, dFldS, dMake, dProp, dLcM, toM, dppNil, dppCons, dMerge, dDisp, dCatL, dRep, dRepM, dExtend, dChain, dEq, dAnd, dOr, dNot, dIfE, dNext, dSeq, dDrop, dRet, dIfS, dNever, dFrz, hName, hNil, hCons, hTup, hSub, dAsg, dAug, dipI, dNil, dCons, dTup, dLst, dLstM, dIx, dSet, dCall, dwipe, dYes, jSeq, jRng1, jRng2, dCB, dLen, dList, dListM, dTuple, dAbs, dInt, dBM0, dBM, dAppend, dPop, dPopAt, dAndV, dNotV, dNeg, dIn, dNoPart, dPart, dSl, dSlM, dNewK, dIsi, dIsiT, dLc, dFor, dDc, dCallS, dRaise, dTry, dIsE, dSortD, dFrzE, jKeys, dIndexD, dEqS, dReprG, if_true, if_false, ite_true, ite_false, Bool.false_eq_true, reduceIte, Bool.not_true, Bool.not_false, List.getElem?_cons_zero, List.getElem?_cons_succ, List.set_cons_zero, List.set_cons_succ, List.map_cons, List.map_nil, List.replicate, List.cons_append, List.nil_append, List.length_cons, List.length_nil, dstart]
      refine ⟨b, n, ps, d, 0, .int f, th, rfl, W, .inl ⟨rfl, rfl, tg.1⟩, fun M8 E8 => ?_⟩
      rw [e0]
      simp only [eqs, Bool.not_true, if_true, if_false, ite_true, ite_false, Bool.false_eq_true, reduceIte, Bool.not_true, Bool.not_false, List.getElem?_cons_zero, List.getElem?_cons_succ, List.set_cons_zero, List.set_cons_succ, List.map_cons, List.map_nil, List.replicate, List.cons_append, List.nil_append, List.length_cons, List.length_nil, dstart]
      have W8 := W.ext E8 (by simp) (by simp)
      refine ⟨b, n, ps, d, 1, .non, th, rfl, W8, .inr (.inl ⟨rfl, tg.1⟩), fun M9 E9 => ?_⟩
      rw [e1]
      simp only [eqs, Bool.not_true, if_true, if_false, ite_true, ite_false, Bool.false_eq_true, reduceIte, Bool.not_true, Bool.not_false, List.getElem?_cons_zero, List.getElem?_cons_succ, List.set_cons_zero, List.set_cons_succ, List.map_cons, List.map_nil, List.replicate, List.cons_append, List.nil_append, List.length_cons, List.length_nil, dstart]
      exact hn _ _ ⟨rfl, W8.ext E9 (by simp) (by simp), (hp.ext E8 (by simp)).ext E9 (by simp)⟩
    clear W hp
    obtain ⟨rfl, W, hp⟩ := h
    refine dSeq_then (fun γ' M' => γ' = [some (.ls (ss.map .int)), some (.ref p), some (.int n), some (.tup (ps.map prD)), some (.ref b), some (.lst (es.map entD)), o6, some th, some (.str th.gp.shown), some x, some (.int f), some (.str (if logB n th then "told" else "log"))] ∧ BookAt C_TB M' b n ps d ∧ DiL M' p) (fun nx hn => ?_) (fun γ3 M9 h => ?_)
    · simp only [dVar, dC, dOp, dTest, dII, dIC, dFld, dFldS, dMake, dProp, dLcM, toM, dppNil, dppCons, dMerge, dDisp, dCatL, dRep, dRepM, dExtend, dChain, dEq, dAnd, dOr, dNot, dIfE, dNext, dSeq, dDrop, dRet, dIfS, dNever, dFrz, hName, hNil, hCons, hTup, hSub, dAsg, dAug, dipI, dNil, dCons, dTup, dLst, dLstM, dIx, dSet, dCall, dwipe, dYes, jSeq, jRng1, jRng2, dCB, dLen, dList, dListM, dTuple, dAbs, dInt, dBM0, dBM, dAppend, dPop, dPopAt, dAndV, dNotV, dNeg, dIn, dNoPart, dPart, dSl, dSlM, dNewK, dIsi, dIsiT, dLc, dFor, dDc, dCallS, dRaise, dTry, dIsE, dSortD, dFrzE, jKeys, dIndexD, dEqS, dReprG, if_true, if_false, ite_true, ite_false, Bool.false_eq_true, reduceIte, Bool.not_true, Bool.not_false, List.getElem?_cons_zero, List.getElem?_cons_succ, List.set_cons_zero, List.set_cons_succ, List.map_cons, List.map_nil, List.replicate, List.cons_append, List.nil_append, List.length_cons, List.length_nil, dstart]
      refine ⟨b, n, ps, d, 0, x, th, rfl, W, .inl ⟨rfl, xa, tg.1⟩, fun M8 E8 => ?_⟩
      rw [e2]
      simp only [eqs, Bool.not_true, if_true, if_false, ite_true, ite_false, Bool.false_eq_true, reduceIte, Bool.not_true, Bool.not_false, List.getElem?_cons_zero, List.getElem?_cons_succ, List.set_cons_zero, List.set_cons_succ, List.map_cons, List.map_nil, List.replicate, List.cons_append, List.nil_append, List.length_cons, List.length_nil, dstart]
      refine ⟨tg.2.1, tg.2.2, ?_⟩
      exact hn _ _ ⟨rfl, W.ext E8 (by simp) (by simp), hp.ext E8 (by simp)⟩
    clear W hp
    obtain ⟨rfl, W, hp⟩ := h
    refine dSeq_then (fun γ' M' => γ' = [some (.ls (ss.map .int)), some (.ref p), some (.int n), some (.tup (ps.map prD)), some (.ref b), some (.lst (es.map entD)), o6, some th, some (.str th.gp.shown), some x, some (.int f), some (.str (if logB n th then "told" else "log"))] ∧ BookAt C_TB M' b n ps d ∧ DiL M' p) (fun nx hn => ?_) (fun γ3 M9 h => ?_)
    · simp only [dVar, dC, dOp, dTest, dII, dIC, dFld, dFldS, dMake, dProp, dLcM, toM, dppNil, dppCons, dMerge, dDisp, dCatL, dRep, dRepM, dExtend, dChain, dEq, dAnd, dOr, dNot, dIfE, dNext, dSeq, dDrop, dRet, dIfS, dNever, dFrz, hName, hNil, hCons, hTup, hSub, dAsg, dAug, dipI, dNil, dCons, dTup, dLst, dLstM, dIx, dSet, dCall, dwipe, dYes, jSeq, jRng1, jRng2, dCB, dLen, dList, dListM, dTuple, dAbs, dInt, dBM0, dBM, dAppend, dPop, dPopAt, dAndV, dNotV, dNeg, dIn, dNoPart, dPart, dSl, dSlM, dNewK, dIsi, dIsiT, dLc, dFor, dDc, dCallS, dRaise, dTry, dIsE, dSortD, dFrzE, jKeys, dIndexD, dEqS, dReprG, if_true, if_false, ite_true, ite_false, Bool.false_eq_true, reduceIte, Bool.not_true, Bool.not_false, List.getElem?_cons_zero, List.getElem?_cons_succ, List.set_cons_zero, List.set_cons_succ, List.map_cons, List.map_nil, List.replicate, List.cons_append, List.nil_append, List.length_cons, List.length_nil, dstart]
      refine ⟨b, n, ps, d, 2, x, .int f, rfl, W, .inr (.inr ⟨rfl, xa, rfl⟩), fun M8 E8 => ?_⟩
      rw [e3]
      simp only [eqs, Bool.not_true, if_true, if_false, ite_true, ite_false, Bool.false_eq_true, reduceIte, Bool.not_true, Bool.not_false, List.getElem?_cons_zero, List.getElem?_cons_succ, List.set_cons_zero, List.set_cons_succ, List.map_cons, List.map_nil, List.replicate, List.cons_append, List.nil_append, List.length_cons, List.length_nil, dstart]
      have W8 := W.ext E8 (by simp) (by simp)
      refine ⟨b, n, ps, d, 2, .int f, x, rfl, W8, .inr (.inr ⟨rfl, rfl, xa⟩), fun M9 E9 => ?_⟩
      rw [e4]
      simp only [eqs, Bool.not_true, if_true, if_false, ite_true, ite_false, Bool.false_eq_true, reduceIte, Bool.not_true, Bool.not_false, List.getElem?_cons_zero, List.getElem?_cons_succ, List.set_cons_zero, List.set_cons_succ, List.map_cons, List.map_nil, List.replicate, List.cons_append, List.nil_append, List.length_cons, List.length_nil, dstart]
      exact hn _ _ ⟨rfl, W8.ext E9 (by simp) (by simp), (hp.ext E8 (by simp)).ext E9 (by simp)⟩
    clear W hp
    obtain ⟨rfl, W, hp⟩ := h
    simp only [dVar, dC, dOp, dTest, dII, dIC, dFld, dFldS, dMake, dProp, dLcM, toM, dppNil, dppCons, dMerge, dDisp, dCatL, dRep, dRepM, dExtend, dChain, dEq, dAnd, dOr, dNot, dIfE, dNext, dSeq, dDrop, dRet, dIfS, dNever, dFrz, hName, hNil, hCons, hTup, hSub, dAsg, dAug, dipI, dNil, dCons, dTup, dLst, dLstM, dIx, dSet, dCall, dwipe, dYes, jSeq, jRng1, jRng2, dCB, dLen, dList, dListM, dTuple, dAbs, dInt, dBM0, dBM, dAppend, dPop, dPopAt, dAndV, dNotV, dNeg, dIn, dNoPart, dPart, dSl, dSlM, dNewK, dIsi, dIsiT, dLc, dFor, dDc, dCallS, dRaise, dTry, dIsE, dSortD, dFrzE, jKeys, dIndexD, dEqS, dReprG, if_true, if_false, ite_true, ite_false, Bool.false_eq_true, reduceIte, Bool.not_true, Bool.not_false, List.getElem?_cons_zero, List.getElem?_cons_succ, List.set_cons_zero, List.set_cons_succ, List.map_cons, List.map_nil, List.replicate, List.cons_append, List.nil_append, List.length_cons, List.length_nil, dstart]
    refine ⟨b, n, ps, d, 2, .int f, .int f, rfl, W, .inr (.inr ⟨rfl, rfl, rfl⟩), fun M8 E8 => ?_⟩
    rw [e5]
    simp only [eqs, Bool.not_true, if_true, if_false, ite_true, ite_false, Bool.false_eq_true, reduceIte, Bool.not_true, Bool.not_false, List.getElem?_cons_zero, List.getElem?_cons_succ, List.set_cons_zero, List.set_cons_succ, List.map_cons, List.map_nil, List.replicate, List.cons_append, List.nil_append, List.length_cons, List.length_nil, dstart]
    exact ⟨⟨_, _, _, _, _, _, rfl⟩, W.ext E8 (by simp) (by simp), hp.ext E8 (by simp)⟩
  obtain ⟨o6, o7, o8, o9, o10, o11, rfl⟩ := h
  simp only [dVar, dC, dOp, dTest, dII, dIC, dFld, dFldS, dMake, dProp, dLcM, toM, dppNil, dppCons, dMerge, dDisp, dCatL, dRep, dRepM, dExtend, dChain, dEq, dAnd, dOr, dNot, dIfE, dNext, dSeq, dDrop, dRet, dIfS, dNever, dFrz, hName, hNil, hCons, hTup, hSub, dAsg, dAug, dipI, dNil, dCons, dTup, dLst, dLstM, dIx, dSet, dCall, dwipe, dYes, jSeq, jRng1, jRng2, dCB, dLen, dList, dListM, dTuple, dAbs, dInt, dBM0, dBM, dAppend, dPop, dPopAt, dAndV, dNotV, dNeg, dIn, dNoPart, dPart, dSl, dSlM, dNewK, dIsi, dIsiT, dLc, dFor, dDc, dCallS, dRaise, dTry, dIsE, dSortD, dFrzE, jKeys, dIndexD, dEqS, dReprG, if_true, if_false, ite_true, ite_false, Bool.false_eq_true, reduceIte, Bool.not_true, Bool.not_false, List.getElem?_cons_zero, List.getElem?_cons_succ, List.set_cons_zero, List.set_cons_succ, List.map_cons, List.map_nil, List.replicate, List.cons_append, List.nil_append, List.length_cons, List.length_nil, dstart]
  exact fin_self (q _)
end
theorem all_mk {l : PySem.W.OpenLaw} {w : World} {K : PySem.W.Frag} {h : Heap} {mg : Str → Option Value} {fa : Addr} (X : K.In h) (G : h.Ns mainGlobals mg) (hfa : mg "law" = some (.ref fa))
    {C_TB : Addr} {E_LandsError : Addr} {E_NoContent : Addr} {E_NoLog : Addr} {f1 : Addr} {od1 an1 : Option Addr} {sl1 : Array (Option Value)} {oc1 kV1 dc1 pm1 cd1 ct1 : Value} {pa1 : Addr} {re1 : List Value} {f2 : Addr} {od2 an2 : Option Addr} {sl2 : Array (Option Value)} {oc2 kV2 dc2 pm2 cd2 ct2 : Value} {f3 : Addr} {od3 an3 : Option Addr} {sl3 : Array (Option Value)} {oc3 kV3 dc3 pm3 cd3 ct3 : Value} {f4 : Addr} {od4 an4 : Option Addr} {sl4 : Array (Option Value)} {oc4 kV4 dc4 pm4 cd4 ct4 : Value} {f5 : Addr} {od5 an5 : Option Addr} {sl5 : Array (Option Value)} {oc5 kV5 dc5 pm5 cd5 ct5 : Value} {f6 : Addr} {od6 an6 : Option Addr} {sl6 : Array (Option Value)} {oc6 kV6 dc6 pm6 cd6 ct6 : Value} {f7 : Addr} {od7 an7 : Option Addr} {sl7 : Array (Option Value)} {oc7 kV7 dc7 pm7 cd7 ct7 : Value} {f8 : Addr} {od8 an8 : Option Addr} {sl8 : Array (Option Value)} {oc8 kV8 dc8 pm8 cd8 ct8 : Value} {f9 : Addr} {od9 an9 : Option Addr} {sl9 : Array (Option Value)} {oc9 kV9 dc9 pm9 cd9 ct9 : Value} {f10 : Addr} {od10 an10 : Option Addr} {sl10 : Array (Option Value)} {oc10 kV10 dc10 pm10 cd10 ct10 : Value} {f11 : Addr} {od11 an11 : Option Addr} {sl11 : Array (Option Value)} {oc11 kV11 dc11 pm11 cd11 ct11 : Value} {f12 : Addr} {od12 an12 : Option Addr} {sl12 : Array (Option Value)} {oc12 kV12 dc12 pm12 cd12 ct12 : Value} {f13 : Addr} {od13 an13 : Option Addr} {sl13 : Array (Option Value)} {oc13 kV13 dc13 pm13 cd13 ct13 : Value} {f14 : Addr} {od14 an14 : Option Addr} {sl14 : Array (Option Value)} {oc14 kV14 dc14 pm14 cd14 ct14 : Value} {f15 : Addr} {od15 an15 : Option Addr} {sl15 : Array (Option Value)} {oc15 kV15 dc15 pm15 cd15 ct15 : Value} {f16 : Addr} {od16 an16 : Option Addr} {sl16 : Array (Option Value)} {oc16 kV16 dc16 pm16 cd16 ct16 : Value} {f17 : Addr} {od17 an17 : Option Addr} {sl17 : Array (Option Value)} {oc17 kV17 dc17 pm17 cd17 ct17 : Value} {f18 : Addr} {od18 an18 : Option Addr} {sl18 : Array (Option Value)} {oc18 kV18 dc18 pm18 cd18 ct18 : Value} {f19 : Addr} {od19 an19 : Option Addr} {sl19 : Array (Option Value)} {oc19 kV19 dc19 pm19 cd19 ct19 : Value} {f20 : Addr} {od20 an20 : Option Addr} {sl20 : Array (Option Value)} {oc20 kV20 dc20 pm20 cd20 ct20 : Value} {f21 : Addr} {od21 an21 : Option Addr} {sl21 : Array (Option Value)} {oc21 kV21 dc21 pm21 cd21 ct21 : Value} {f22 : Addr} {od22 an22 : Option Addr} {sl22 : Array (Option Value)} {oc22 kV22 dc22 pm22 cd22 ct22 : Value} {f23 : Addr} {od23 an23 : Option Addr} {sl23 : Array (Option Value)} {oc23 kV23 dc23 pm23 cd23 ct23 : Value} {f24 : Addr} {od24 an24 : Option Addr} {sl24 : Array (Option Value)} {oc24 kV24 dc24 pm24 cd24 ct24 : Value} {f25 : Addr} {od25 an25 : Option Addr} {sl25 : Array (Option Value)} {oc25 kV25 dc25 pm25 cd25 ct25 : Value} {f26 : Addr} {od26 an26 : Option Addr} {sl26 : Array (Option Value)} {oc26 kV26 dc26 pm26 cd26 ct26 : Value} {f27 : Addr} {od27 an27 : Option Addr} {sl27 : Array (Option Value)} {oc27 kV27 dc27 pm27 cd27 ct27 : Value} {f28 : Addr} {od28 an28 : Option Addr} {sl28 : Array (Option Value)} {oc28 kV28 dc28 pm28 cd28 ct28 : Value} {f29 : Addr} {od29 an29 : Option Addr} {sl29 : Array (Option Value)} {oc29 kV29 dc29 pm29 cd29 ct29 : Value} {f30 : Addr} {od30 an30 : Option Addr} {sl30 : Array (Option Value)} {oc30 kV30 dc30 pm30 cd30 ct30 : Value} {f31 : Addr} {od31 an31 : Option Addr} {sl31 : Array (Option Value)} {oc31 kV31 dc31 pm31 cd31 ct31 : Value} {f32 : Addr} {od32 an32 : Option Addr} {sl32 : Array (Option Value)} {oc32 kV32 dc32 pm32 cd32 ct32 : Value} {f33 : Addr} {od33 an33 : Option Addr} {sl33 : Array (Option Value)} {oc33 kV33 dc33 pm33 cd33 ct33 : Value} {tk_MOST_CONTENTS : Tok} {tk_MOST_ENTRIES : Tok} {tk_MOST_TIES : Tok} {tA_WORDS : Addr} {tS_WORDS : Array (Option Value)} {tN_WORDS : Nat} {tk_WORDS0 tk_WORDS1 : Tok}
    (aC_TB : PySem.W.nsIn K mainGlobals "Book" = some (some (.ref C_TB)))
    (pg_TB : PySem.W.plainGet K C_TB Str.empty = true)
    (hd_TB : PySem.W.hasDictIn K C_TB = true)
    (po_TB : PySem.W.plainOver K C_TB = true)
    (sa_TB : PySem.W.findIn K (.ref C_TB) "__setattr__" = some (some (.builtin "object.__setattr__")))
    (n_TB_kept_size : PySem.W.findIn K (.ref C_TB) "kept_size" = some none)
    (n_TB_kept_ties : PySem.W.findIn K (.ref C_TB) "kept_ties" = some none)
    (n_TB_kept_facts : PySem.W.findIn K (.ref C_TB) "kept_facts" = some none)
    (aE_LandsError : PySem.W.nsIn K mainGlobals "LandsError" = some (some (.ref E_LandsError)))
    (bE_LandsError : PySem.W.subIn K (.ref E_LandsError) (.type "BaseException") = some true)
    (tE_LandsError : PySem.W.typeIn K (.ref E_LandsError) = some (.type "type"))
    (iE_LandsError : PySem.W.isClsIn K E_LandsError = true)
    (sE_LandsError : PySem.W.subIn K (.ref E_LandsError) (.ref E_LandsError) = some true)
    (aE_NoContent : PySem.W.nsIn K mainGlobals "NoContent" = some (some (.ref E_NoContent)))
    (bE_NoContent : PySem.W.subIn K (.ref E_NoContent) (.type "BaseException") = some true)
    (tE_NoContent : PySem.W.typeIn K (.ref E_NoContent) = some (.type "type"))
    (iE_NoContent : PySem.W.isClsIn K E_NoContent = true)
    (sE_NoContent : PySem.W.subIn K (.ref E_NoContent) (.ref E_NoContent) = some true)
    (aE_NoLog : PySem.W.nsIn K mainGlobals "NoLog" = some (some (.ref E_NoLog)))
    (bE_NoLog : PySem.W.subIn K (.ref E_NoLog) (.type "BaseException") = some true)
    (tE_NoLog : PySem.W.typeIn K (.ref E_NoLog) = some (.type "type"))
    (iE_NoLog : PySem.W.isClsIn K E_NoLog = true)
    (sE_NoLog : PySem.W.subIn K (.ref E_NoLog) (.ref E_NoLog) = some true)
    (kE_NoContent : PySem.W.keepIn K (.ref E_NoContent) = true)
    (xE_NoContent : PySem.W.excIn K E_NoContent [.type "ValueError", .type "Exception", .type "BaseException", .type "object"] "ValueError.__new__" = true)
    (hgE_NoContent : PySem.W.findIn K (.ref E_NoContent) "__getattribute__" = some (some (.builtin "BaseException.__getattribute__")))
    (hkE_NoContent : PySem.W.findIn K (.ref E_NoContent) "__getattr__" = some none)
    (hdE_NoContent : PySem.W.hasDictIn K E_NoContent = true)
    (haE_NoContent : PySem.W.findIn K (.ref E_NoContent) "__class__" = some (some (.builtin "object.__class__")))
    (hmE_NoContent : PySem.W.mroIn K E_NoContent (.type "object") = some true)
    (sE_NoContent_LandsError : PySem.W.subIn K (.ref E_NoContent) (.ref E_LandsError) = some true)
    (sE_NoContent_NoLog : PySem.W.subIn K (.ref E_NoContent) (.ref E_NoLog) = some false)
    (vE_NoContent_ValueError : PySem.W.subIn K (.ref E_NoContent) (.type "ValueError") = some true)
    (kE_NoLog : PySem.W.keepIn K (.ref E_NoLog) = true)
    (xE_NoLog : PySem.W.excIn K E_NoLog [.type "ValueError", .type "Exception", .type "BaseException", .type "object"] "ValueError.__new__" = true)
    (hgE_NoLog : PySem.W.findIn K (.ref E_NoLog) "__getattribute__" = some (some (.builtin "BaseException.__getattribute__")))
    (hkE_NoLog : PySem.W.findIn K (.ref E_NoLog) "__getattr__" = some none)
    (hdE_NoLog : PySem.W.hasDictIn K E_NoLog = true)
    (haE_NoLog : PySem.W.findIn K (.ref E_NoLog) "__class__" = some (some (.builtin "object.__class__")))
    (hmE_NoLog : PySem.W.mroIn K E_NoLog (.type "object") = some true)
    (sE_NoLog_LandsError : PySem.W.subIn K (.ref E_NoLog) (.ref E_LandsError) = some true)
    (sE_NoLog_NoContent : PySem.W.subIn K (.ref E_NoLog) (.ref E_NoContent) = some false)
    (vE_NoLog_ValueError : PySem.W.subIn K (.ref E_NoLog) (.type "ValueError") = some true)
    (hnE : PySem.W.specialIn K (.builtin "object.__class__") "__get__" = some (some (.builtin "getset_descriptor.__get__")))
    (htE : PySem.W.takesIn K (.builtin "object.__class__") = some true)
    (a1 : PySem.W.findIn K (.ref C_TB) "size" = some (some (.ref pa1)))
    (g1 : PySem.W.specialIn K (.ref pa1) "__get__" = some (some (.builtin "property.__get__")))
    (t1 : PySem.W.takesIn K (.ref pa1) = some true)
    (r1 : PySem.W.recIn K pa1 "property" = some (.ref f1 :: re1))
    (l1 : K.lookup f1 = some ⟨oc1, od1, .func (PySem.W.fnOf "size" "Book.size" (defArgs s_Book_size) (defBody s_Book_size) (defScope s_Book_size) .none kV1 dc1 pm1 an1 cd1 ct1), sl1⟩)
    (c1 : PySem.W.codeIn K cd1 "Book.size" = true)
    (k1 : PySem.W.keepIn K (.ref f1) = true)
    (a2 : PySem.W.findIn K (.ref C_TB) "__init__" = some (some (.ref f2)))
    (i2 : PySem.W.isFn K (.ref f2) = true)
    (l2 : K.lookup f2 = some ⟨oc2, od2, .func (PySem.W.fnOf "__init__" "Book.__init__" (defArgs s_Book___init__) (defBody s_Book___init__) (defScope s_Book___init__) .none kV2 dc2 pm2 an2 cd2 ct2), sl2⟩)
    (c2 : PySem.W.codeIn K cd2 "Book.__init__" = true)
    (k2 : PySem.W.keepIn K (.ref f2) = true)
    (mk2 : PySem.W.makesIn K C_TB = true)
    (kc2 : PySem.W.keepIn K (.ref C_TB) = true)
    (a3 : PySem.W.nsIn K mainGlobals "_law_deep" = some (some (.ref f3)))
    (l3 : K.lookup f3 = some ⟨oc3, od3, .func (PySem.W.fnOf "_law_deep" "_law_deep" (defArgs s__law_deep) (defBody s__law_deep) (defScope s__law_deep) .none kV3 dc3 pm3 an3 cd3 ct3), sl3⟩)
    (c3 : PySem.W.codeIn K cd3 "_law_deep" = true)
    (k3 : PySem.W.keepIn K (.ref f3) = true)
    (a4 : PySem.W.nsIn K mainGlobals "_law_draw" = some (some (.ref f4)))
    (l4 : K.lookup f4 = some ⟨oc4, od4, .func (PySem.W.fnOf "_law_draw" "_law_draw" (defArgs s__law_draw) (defBody s__law_draw) (defScope s__law_draw) .none kV4 dc4 pm4 an4 cd4 ct4), sl4⟩)
    (c4 : PySem.W.codeIn K cd4 "_law_draw" = true)
    (k4 : PySem.W.keepIn K (.ref f4) = true)
    (a5 : PySem.W.nsIn K mainGlobals "_law_bent" = some (some (.ref f5)))
    (l5 : K.lookup f5 = some ⟨oc5, od5, .func (PySem.W.fnOf "_law_bent" "_law_bent" (defArgs s__law_bent) (defBody s__law_bent) (defScope s__law_bent) .none kV5 dc5 pm5 an5 cd5 ct5), sl5⟩)
    (c5 : PySem.W.codeIn K cd5 "_law_bent" = true)
    (k5 : PySem.W.keepIn K (.ref f5) = true)
    (a6 : PySem.W.nsIn K mainGlobals "_law_drawn_ties" = some (some (.ref f6)))
    (l6 : K.lookup f6 = some ⟨oc6, od6, .func (PySem.W.fnOf "_law_drawn_ties" "_law_drawn_ties" (defArgs s__law_drawn_ties) (defBody s__law_drawn_ties) (defScope s__law_drawn_ties) .none kV6 dc6 pm6 an6 cd6 ct6), sl6⟩)
    (c6 : PySem.W.codeIn K cd6 "_law_drawn_ties" = true)
    (k6 : PySem.W.keepIn K (.ref f6) = true)
    (a7 : PySem.W.nsIn K mainGlobals "_law_mixed" = some (some (.ref f7)))
    (l7 : K.lookup f7 = some ⟨oc7, od7, .func (PySem.W.fnOf "_law_mixed" "_law_mixed" (defArgs s__law_mixed) (defBody s__law_mixed) (defScope s__law_mixed) .none kV7 dc7 pm7 an7 cd7 ct7), sl7⟩)
    (c7 : PySem.W.codeIn K cd7 "_law_mixed" = true)
    (k7 : PySem.W.keepIn K (.ref f7) = true)
    (a8 : PySem.W.nsIn K mainGlobals "_law_pairs" = some (some (.ref f8)))
    (l8 : K.lookup f8 = some ⟨oc8, od8, .func (PySem.W.fnOf "_law_pairs" "_law_pairs" (defArgs s__law_pairs) (defBody s__law_pairs) (defScope s__law_pairs) .none kV8 dc8 pm8 an8 cd8 ct8), sl8⟩)
    (c8 : PySem.W.codeIn K cd8 "_law_pairs" = true)
    (k8 : PySem.W.keepIn K (.ref f8) = true)
    (a9 : PySem.W.nsIn K mainGlobals "_law_book" = some (some (.ref f9)))
    (l9 : K.lookup f9 = some ⟨oc9, od9, .func (PySem.W.fnOf "_law_book" "_law_book" (defArgs s__law_book) (defBody s__law_book) (defScope s__law_book) .none kV9 dc9 pm9 an9 cd9 ct9), sl9⟩)
    (c9 : PySem.W.codeIn K cd9 "_law_book" = true)
    (k9 : PySem.W.keepIn K (.ref f9) = true)
    (a10 : PySem.W.nsIn K mainGlobals "_law_dice" = some (some (.ref f10)))
    (l10 : K.lookup f10 = some ⟨oc10, od10, .func (PySem.W.fnOf "_law_dice" "_law_dice" (defArgs s__law_dice) (defBody s__law_dice) (defScope s__law_dice) .none kV10 dc10 pm10 an10 cd10 ct10), sl10⟩)
    (c10 : PySem.W.codeIn K cd10 "_law_dice" = true)
    (k10 : PySem.W.keepIn K (.ref f10) = true)
    (a11 : PySem.W.nsIn K mainGlobals "_law_is_count" = some (some (.ref f11)))
    (l11 : K.lookup f11 = some ⟨oc11, od11, .func (PySem.W.fnOf "_law_is_count" "_law_is_count" (defArgs s__law_is_count) (defBody s__law_is_count) (defScope s__law_is_count) .none kV11 dc11 pm11 an11 cd11 ct11), sl11⟩)
    (c11 : PySem.W.codeIn K cd11 "_law_is_count" = true)
    (k11 : PySem.W.keepIn K (.ref f11) = true)
    (a12 : PySem.W.nsIn K mainGlobals "_law_is_log" = some (some (.ref f12)))
    (l12 : K.lookup f12 = some ⟨oc12, od12, .func (PySem.W.fnOf "_law_is_log" "_law_is_log" (defArgs s__law_is_log) (defBody s__law_is_log) (defScope s__law_is_log) .none kV12 dc12 pm12 an12 cd12 ct12), sl12⟩)
    (c12 : PySem.W.codeIn K cd12 "_law_is_log" = true)
    (k12 : PySem.W.keepIn K (.ref f12) = true)
    (a13 : PySem.W.nsIn K mainGlobals "_law_rows" = some (some (.ref f13)))
    (l13 : K.lookup f13 = some ⟨oc13, od13, .func (PySem.W.fnOf "_law_rows" "_law_rows" (defArgs s__law_rows) (defBody s__law_rows) (defScope s__law_rows) .none kV13 dc13 pm13 an13 cd13 ct13), sl13⟩)
    (c13 : PySem.W.codeIn K cd13 "_law_rows" = true)
    (k13 : PySem.W.keepIn K (.ref f13) = true)
    (a14 : PySem.W.nsIn K mainGlobals "_law_log" = some (some (.ref f14)))
    (l14 : K.lookup f14 = some ⟨oc14, od14, .func (PySem.W.fnOf "_law_log" "_law_log" (defArgs s__law_log) (defBody s__law_log) (defScope s__law_log) .none kV14 dc14 pm14 an14 cd14 ct14), sl14⟩)
    (c14 : PySem.W.codeIn K cd14 "_law_log" = true)
    (k14 : PySem.W.keepIn K (.ref f14) = true)
    (a15 : PySem.W.nsIn K mainGlobals "is_integer" = some (some (.ref f15)))
    (l15 : K.lookup f15 = some ⟨oc15, od15, .func (PySem.W.fnOf "is_integer" "is_integer" (defArgs s_is_integer) (defBody s_is_integer) (defScope s_is_integer) .none kV15 dc15 pm15 an15 cd15 ct15), sl15⟩)
    (c15 : PySem.W.codeIn K cd15 "is_integer" = true)
    (k15 : PySem.W.keepIn K (.ref f15) = true)
    (a16 : PySem.W.nsIn K mainGlobals "is_within" = some (some (.ref f16)))
    (l16 : K.lookup f16 = some ⟨oc16, od16, .func (PySem.W.fnOf "is_within" "is_within" (defArgs s_is_within) (defBody s_is_within) (defScope s_is_within) .none kV16 dc16 pm16 an16 cd16 ct16), sl16⟩)
    (c16 : PySem.W.codeIn K cd16 "is_within" = true)
    (k16 : PySem.W.keepIn K (.ref f16) = true)
    (a17 : PySem.W.nsIn K mainGlobals "is_index" = some (some (.ref f17)))
    (l17 : K.lookup f17 = some ⟨oc17, od17, .func (PySem.W.fnOf "is_index" "is_index" (defArgs s_is_index) (defBody s_is_index) (defScope s_is_index) .none kV17 dc17 pm17 an17 cd17 ct17), sl17⟩)
    (c17 : PySem.W.codeIn K cd17 "is_index" = true)
    (k17 : PySem.W.keepIn K (.ref f17) = true)
    (a18 : PySem.W.nsIn K mainGlobals "is_entry" = some (some (.ref f18)))
    (l18 : K.lookup f18 = some ⟨oc18, od18, .func (PySem.W.fnOf "is_entry" "is_entry" (defArgs s_is_entry) (defBody s_is_entry) (defScope s_is_entry) .none kV18 dc18 pm18 an18 cd18 ct18), sl18⟩)
    (c18 : PySem.W.codeIn K cd18 "is_entry" = true)
    (k18 : PySem.W.keepIn K (.ref f18) = true)
    (a19 : PySem.W.nsIn K mainGlobals "check_log" = some (some (.ref f19)))
    (l19 : K.lookup f19 = some ⟨oc19, od19, .func (PySem.W.fnOf "check_log" "check_log" (defArgs s_check_log) (defBody s_check_log) (defScope s_check_log) .none kV19 dc19 pm19 an19 cd19 ct19), sl19⟩)
    (c19 : PySem.W.codeIn K cd19 "check_log" = true)
    (k19 : PySem.W.keepIn K (.ref f19) = true)
    (a20 : PySem.W.nsIn K mainGlobals "tied_of" = some (some (.ref f20)))
    (l20 : K.lookup f20 = some ⟨oc20, od20, .func (PySem.W.fnOf "tied_of" "tied_of" (defArgs s_tied_of) (defBody s_tied_of) (defScope s_tied_of) .none kV20 dc20 pm20 an20 cd20 ct20), sl20⟩)
    (c20 : PySem.W.codeIn K cd20 "tied_of" = true)
    (k20 : PySem.W.keepIn K (.ref f20) = true)
    (a21 : PySem.W.nsIn K mainGlobals "behind_entry" = some (some (.ref f21)))
    (l21 : K.lookup f21 = some ⟨oc21, od21, .func (PySem.W.fnOf "behind_entry" "behind_entry" (defArgs s_behind_entry) (defBody s_behind_entry) (defScope s_behind_entry) .none kV21 dc21 pm21 an21 cd21 ct21), sl21⟩)
    (c21 : PySem.W.codeIn K cd21 "behind_entry" = true)
    (k21 : PySem.W.keepIn K (.ref f21) = true)
    (a22 : PySem.W.nsIn K mainGlobals "standings_behind" = some (some (.ref f22)))
    (l22 : K.lookup f22 = some ⟨oc22, od22, .func (PySem.W.fnOf "standings_behind" "standings_behind" (defArgs s_standings_behind) (defBody s_standings_behind) (defScope s_standings_behind) .none kV22 dc22 pm22 an22 cd22 ct22), sl22⟩)
    (c22 : PySem.W.codeIn K cd22 "standings_behind" = true)
    (k22 : PySem.W.keepIn K (.ref f22) = true)
    (a23 : PySem.W.nsIn K mainGlobals "can_have_stood" = some (some (.ref f23)))
    (l23 : K.lookup f23 = some ⟨oc23, od23, .func (PySem.W.fnOf "can_have_stood" "can_have_stood" (defArgs s_can_have_stood) (defBody s_can_have_stood) (defScope s_can_have_stood) .none kV23 dc23 pm23 an23 cd23 ct23), sl23⟩)
    (c23 : PySem.W.codeIn K cd23 "can_have_stood" = true)
    (k23 : PySem.W.keepIn K (.ref f23) = true)
    (a24 : PySem.W.nsIn K mainGlobals "check_contents" = some (some (.ref f24)))
    (l24 : K.lookup f24 = some ⟨oc24, od24, .func (PySem.W.fnOf "check_contents" "check_contents" (defArgs s_check_contents) (defBody s_check_contents) (defScope s_check_contents) .none kV24 dc24 pm24 an24 cd24 ct24), sl24⟩)
    (c24 : PySem.W.codeIn K cd24 "check_contents" = true)
    (k24 : PySem.W.keepIn K (.ref f24) = true)
    (a25 : PySem.W.nsIn K mainGlobals "can_stand" = some (some (.ref f25)))
    (l25 : K.lookup f25 = some ⟨oc25, od25, .func (PySem.W.fnOf "can_stand" "can_stand" (defArgs s_can_stand) (defBody s_can_stand) (defScope s_can_stand) .none kV25 dc25 pm25 an25 cd25 ct25), sl25⟩)
    (c25 : PySem.W.codeIn K cd25 "can_stand" = true)
    (k25 : PySem.W.keepIn K (.ref f25) = true)
    (a26 : PySem.W.nsIn K mainGlobals "far_from" = some (some (.ref f26)))
    (l26 : K.lookup f26 = some ⟨oc26, od26, .func (PySem.W.fnOf "far_from" "far_from" (defArgs s_far_from) (defBody s_far_from) (defScope s_far_from) .none kV26 dc26 pm26 an26 cd26 ct26), sl26⟩)
    (c26 : PySem.W.codeIn K cd26 "far_from" = true)
    (k26 : PySem.W.keepIn K (.ref f26) = true)
    (a27 : PySem.W.nsIn K mainGlobals "shortest_log" = some (some (.ref f27)))
    (l27 : K.lookup f27 = some ⟨oc27, od27, .func (PySem.W.fnOf "shortest_log" "shortest_log" (defArgs s_shortest_log) (defBody s_shortest_log) (defScope s_shortest_log) .none kV27 dc27 pm27 an27 cd27 ct27), sl27⟩)
    (c27 : PySem.W.codeIn K cd27 "shortest_log" = true)
    (k27 : PySem.W.keepIn K (.ref f27) = true)
    (a28 : PySem.W.nsIn K mainGlobals "_law_word" = some (some (.ref f28)))
    (l28 : K.lookup f28 = some ⟨oc28, od28, .func (PySem.W.fnOf "_law_word" "_law_word" (defArgs s__law_word) (defBody s__law_word) (defScope s__law_word) .none kV28 dc28 pm28 an28 cd28 ct28), sl28⟩)
    (c28 : PySem.W.codeIn K cd28 "_law_word" = true)
    (k28 : PySem.W.keepIn K (.ref f28) = true)
    (a29 : PySem.W.nsIn K mainGlobals "is_rising_pair" = some (some (.ref f29)))
    (l29 : K.lookup f29 = some ⟨oc29, od29, .func (PySem.W.fnOf "is_rising_pair" "is_rising_pair" (defArgs s_is_rising_pair) (defBody s_is_rising_pair) (defScope s_is_rising_pair) .none kV29 dc29 pm29 an29 cd29 ct29), sl29⟩)
    (c29 : PySem.W.codeIn K cd29 "is_rising_pair" = true)
    (k29 : PySem.W.keepIn K (.ref f29) = true)
    (a30 : PySem.W.nsIn K mainGlobals "are_rising_pairs" = some (some (.ref f30)))
    (l30 : K.lookup f30 = some ⟨oc30, od30, .func (PySem.W.fnOf "are_rising_pairs" "are_rising_pairs" (defArgs s_are_rising_pairs) (defBody s_are_rising_pairs) (defScope s_are_rising_pairs) .none kV30 dc30 pm30 an30 cd30 ct30), sl30⟩)
    (c30 : PySem.W.codeIn K cd30 "are_rising_pairs" = true)
    (k30 : PySem.W.keepIn K (.ref f30) = true)
    (a31 : PySem.W.nsIn K mainGlobals "beside_lists" = some (some (.ref f31)))
    (l31 : K.lookup f31 = some ⟨oc31, od31, .func (PySem.W.fnOf "beside_lists" "beside_lists" (defArgs s_beside_lists) (defBody s_beside_lists) (defScope s_beside_lists) .none kV31 dc31 pm31 an31 cd31 ct31), sl31⟩)
    (c31 : PySem.W.codeIn K cd31 "beside_lists" = true)
    (k31 : PySem.W.keepIn K (.ref f31) = true)
    (a32 : PySem.W.nsIn K mainGlobals "reached" = some (some (.ref f32)))
    (l32 : K.lookup f32 = some ⟨oc32, od32, .func (PySem.W.fnOf "reached" "reached" (defArgs s_reached) (defBody s_reached) (defScope s_reached) .none kV32 dc32 pm32 an32 cd32 ct32), sl32⟩)
    (c32 : PySem.W.codeIn K cd32 "reached" = true)
    (k32 : PySem.W.keepIn K (.ref f32) = true)
    (a33 : PySem.W.nsIn K mainGlobals "law" = some (some (.ref f33)))
    (l33 : K.lookup f33 = some ⟨oc33, od33, .func (PySem.W.fnOf "law" "law" (defArgs s_law) (defBody s_law) (defScope s_law) .none kV33 dc33 pm33 an33 cd33 ct33), sl33⟩)
    (c33 : PySem.W.codeIn K cd33 "law" = true)
    (k33 : PySem.W.keepIn K (.ref f33) = true)
    (z_ValueError : PySem.W.nsIn K mainGlobals "ValueError" = some none)
    (z_abs : PySem.W.nsIn K mainGlobals "abs" = some none)
    (z_all : PySem.W.nsIn K mainGlobals "all" = some none)
    (z_any : PySem.W.nsIn K mainGlobals "any" = some none)
    (z_bool : PySem.W.nsIn K mainGlobals "bool" = some none)
    (z_int : PySem.W.nsIn K mainGlobals "int" = some none)
    (z_isinstance : PySem.W.nsIn K mainGlobals "isinstance" = some none)
    (z_len : PySem.W.nsIn K mainGlobals "len" = some none)
    (z_list : PySem.W.nsIn K mainGlobals "list" = some none)
    (z_range : PySem.W.nsIn K mainGlobals "range" = some none)
    (z_repr : PySem.W.nsIn K mainGlobals "repr" = some none)
    (z_sorted : PySem.W.nsIn K mainGlobals "sorted" = some none)
    (z_str : PySem.W.nsIn K mainGlobals "str" = some none)
    (z_tuple : PySem.W.nsIn K mainGlobals "tuple" = some none)
    (v_MOST_CONTENTS : PySem.W.nsIn K mainGlobals "MOST_CONTENTS" = some (some (.int (8) tk_MOST_CONTENTS)))
    (v_MOST_ENTRIES : PySem.W.nsIn K mainGlobals "MOST_ENTRIES" = some (some (.int (40) tk_MOST_ENTRIES)))
    (v_MOST_TIES : PySem.W.nsIn K mainGlobals "MOST_TIES" = some (some (.int (28) tk_MOST_TIES)))
    (aT_WORDS : PySem.W.nsIn K mainGlobals "WORDS" = some (some (.ref tA_WORDS)))
    (lT_WORDS : K.lookup tA_WORDS = some ⟨.type "tuple", none, .seq #[.str "order" tk_WORDS0, .str "read" tk_WORDS1] tN_WORDS, tS_WORDS⟩) :
    ∃ fd : FuncData, (∀ (s : Shared) (v : Value), BindsTo s fd ⟨[v], []⟩ [("_law_script", v)]) ∧ ∀ base : Heap, K.In base → base.Ns mainGlobals mg → TopOk l.prog w K mg base fa fd ["_law_script"] (liftSp K spLaw) := by
  have e := hfa.symm.trans (PySem.W.mg_of X G a33)
  cases e
  have B : Bn mg := ⟨PySem.W.mg_none_of X G z_ValueError, PySem.W.mg_none_of X G z_abs, PySem.W.mg_none_of X G z_all, PySem.W.mg_none_of X G z_any, PySem.W.mg_none_of X G z_bool, PySem.W.mg_none_of X G z_int, PySem.W.mg_none_of X G z_isinstance, PySem.W.mg_none_of X G z_len, PySem.W.mg_none_of X G z_list, PySem.W.mg_none_of X G z_range, PySem.W.mg_none_of X G z_repr, PySem.W.mg_none_of X G z_sorted, PySem.W.mg_none_of X G z_str, PySem.W.mg_none_of X G z_tuple⟩
  have GG : Gs mg := ⟨⟨_, PySem.W.mg_of X G v_MOST_CONTENTS⟩, ⟨_, PySem.W.mg_of X G v_MOST_ENTRIES⟩, ⟨_, PySem.W.mg_of X G v_MOST_TIES⟩⟩
  have KT_WORDS : GT K mg "WORDS" [.str "order", .str "read"] := ⟨_, [.str "order", .str "read"], PySem.W.mg_of X G aT_WORDS, ktup_of lT_WORDS (show 2 ≤ sizeLine from by decide) (.cons ⟨_, rfl⟩ (.cons ⟨_, rfl⟩ .nil)), fun F => (.cons (.str _) (.cons (.str _) .nil))⟩
  have TB : Cl_TB K mg C_TB := ⟨⟨pg_TB, hd_TB, po_TB, sa_TB⟩, n_TB_kept_size, n_TB_kept_ties, n_TB_kept_facts⟩
  have EX_LandsError : mg "LandsError" = some (.ref E_LandsError) := PySem.W.mg_of X G aE_LandsError
  have EX_NoContent : mg "NoContent" = some (.ref E_NoContent) := PySem.W.mg_of X G aE_NoContent
  have EX_NoLog : mg "NoLog" = some (.ref E_NoLog) := PySem.W.mg_of X G aE_NoLog
  have XC_NoContent : ExCls K mg "NoContent" E_NoContent := ⟨EX_NoContent, kE_NoContent, xE_NoContent, bE_NoContent, tE_NoContent⟩
  have XC_NoLog : ExCls K mg "NoLog" E_NoLog := ⟨EX_NoLog, kE_NoLog, xE_NoLog, bE_NoLog, tE_NoLog⟩
  have XS : Exs K E_LandsError E_NoContent E_NoLog := { c_NoContent := ⟨hgE_NoContent, hkE_NoContent, bE_NoContent, hdE_NoContent, haE_NoContent, hnE, htE, hmE_NoContent⟩, m_NoContent_LandsError := exm_ref bE_LandsError iE_LandsError tE_LandsError sE_NoContent_LandsError, k_NoContent_LandsError := kit_ref iE_LandsError tE_LandsError sE_NoContent sE_NoContent_LandsError, m_NoContent_NoContent := exm_ref bE_NoContent iE_NoContent tE_NoContent sE_NoContent, k_NoContent_NoContent := kit_ref iE_NoContent tE_NoContent sE_NoContent sE_NoContent, m_NoContent_NoLog := exm_ref bE_NoLog iE_NoLog tE_NoLog sE_NoContent_NoLog, k_NoContent_NoLog := kit_ref iE_NoLog tE_NoLog sE_NoContent sE_NoContent_NoLog, b_NoContent_ValueError := kit_typ rfl vE_NoContent_ValueError, c_NoLog := ⟨hgE_NoLog, hkE_NoLog, bE_NoLog, hdE_NoLog, haE_NoLog, hnE, htE, hmE_NoLog⟩, m_NoLog_LandsError := exm_ref bE_LandsError iE_LandsError tE_LandsError sE_NoLog_LandsError, k_NoLog_LandsError := kit_ref iE_LandsError tE_LandsError sE_NoLog sE_NoLog_LandsError, m_NoLog_NoContent := exm_ref bE_NoContent iE_NoContent tE_NoContent sE_NoLog_NoContent, k_NoLog_NoContent := kit_ref iE_NoContent tE_NoContent sE_NoLog sE_NoLog_NoContent, m_NoLog_NoLog := exm_ref bE_NoLog iE_NoLog tE_NoLog sE_NoLog, k_NoLog_NoLog := kit_ref iE_NoLog tE_NoLog sE_NoLog sE_NoLog, b_NoLog_ValueError := kit_typ rfl vE_NoLog_ValueError }
  have F1 : DMet K "size" "Book.size" s_Book_size f1 ["self"] := dmet_mk l1 c1 k1 (fun _ _ _ _ _ _ us hl => match us, hl with | [_], _ => rfl)
  have F2 : DMet K "__init__" "Book.__init__" s_Book___init__ f2 ["self", "size", "ties"] := dmet_mk l2 c2 k2 (fun _ _ _ _ _ _ us hl => match us, hl with | [_, _, _], _ => rfl)
  have F3 : DFun K mg "_law_deep" s__law_deep [] := dfun_mk X G a3 l3 c3 k3 (fun _ _ _ _ _ _ us hl => match us, hl with | [], _ => rfl)
  have F4 : DFun K mg "_law_draw" s__law_draw ["_law_dice_here", "_law_sides"] := dfun_mk X G a4 l4 c4 k4 (fun _ _ _ _ _ _ us hl => match us, hl with | [_, _], _ => rfl)
  have F5 : DFun K mg "_law_bent" s__law_bent ["_law_dice_here", "_law_many", "_law_log_here"] := dfun_mk X G a5 l5 c5 k5 (fun _ _ _ _ _ _ us hl => match us, hl with | [_, _, _], _ => rfl)
  have F6 : DFun K mg "_law_drawn_ties" s__law_drawn_ties ["_law_dice_here", "_law_many", "_law_pairs_here"] := dfun_mk X G a6 l6 c6 k6 (fun _ _ _ _ _ _ us hl => match us, hl with | [_, _, _], _ => rfl)
  have F7 : DFun K mg "_law_mixed" s__law_mixed ["_law_dice_here", "_law_items"] := dfun_mk X G a7 l7 c7 k7 (fun _ _ _ _ _ _ us hl => match us, hl with | [_, _], _ => rfl)
  have F8 : DFun K mg "_law_pairs" s__law_pairs ["_law_size"] := dfun_mk X G a8 l8 c8 k8 (fun _ _ _ _ _ _ us hl => match us, hl with | [_], _ => rfl)
  have F9 : DFun K mg "_law_book" s__law_book ["_law_dice_here", "_law_most"] := dfun_mk X G a9 l9 c9 k9 (fun _ _ _ _ _ _ us hl => match us, hl with | [_, _], _ => rfl)
  have F10 : DFun K mg "_law_dice" s__law_dice ["_law_script"] := dfun_mk X G a10 l10 c10 k10 (fun _ _ _ _ _ _ us hl => match us, hl with | [_], _ => rfl)
  have F11 : DFun K mg "_law_is_count" s__law_is_count ["_law_thing", "_law_many"] := dfun_mk X G a11 l11 c11 k11 (fun _ _ _ _ _ _ us hl => match us, hl with | [_, _], _ => rfl)
  have F12 : DFun K mg "_law_is_log" s__law_is_log ["_law_many", "_law_thing"] := dfun_mk X G a12 l12 c12 k12 (fun _ _ _ _ _ _ us hl => match us, hl with | [_, _], _ => rfl)
  have F13 : DFun K mg "_law_rows" s__law_rows ["_law_size", "_law_pairs_here"] := dfun_mk X G a13 l13 c13 k13 (fun _ _ _ _ _ _ us hl => match us, hl with | [_, _], _ => rfl)
  have F14 : DFun K mg "_law_log" s__law_log ["_law_dice_here", "_law_many", "_law_ties", "_law_size"] := dfun_mk X G a14 l14 c14 k14 (fun _ _ _ _ _ _ us hl => match us, hl with | [_, _, _, _], _ => rfl)
  have F15 : DFun K mg "is_integer" s_is_integer ["thing"] := dfun_mk X G a15 l15 c15 k15 (fun _ _ _ _ _ _ us hl => match us, hl with | [_], _ => rfl)
  have F16 : DFun K mg "is_within" s_is_within ["thing", "least", "most"] := dfun_mk X G a16 l16 c16 k16 (fun _ _ _ _ _ _ us hl => match us, hl with | [_, _, _], _ => rfl)
  have F17 : DFun K mg "is_index" s_is_index ["thing", "many"] := dfun_mk X G a17 l17 c17 k17 (fun _ _ _ _ _ _ us hl => match us, hl with | [_, _], _ => rfl)
  have F18 : DFun K mg "is_entry" s_is_entry ["book", "thing"] := dfun_mk X G a18 l18 c18 k18 (fun _ _ _ _ _ _ us hl => match us, hl with | [_, _], _ => rfl)
  have F19 : DFun K mg "check_log" s_check_log ["book", "log"] := dfun_mk X G a19 l19 c19 k19 (fun _ _ _ _ _ _ us hl => match us, hl with | [_, _], _ => rfl)
  have F20 : DFun K mg "tied_of" s_tied_of ["book"] := dfun_mk X G a20 l20 c20 k20 (fun _ _ _ _ _ _ us hl => match us, hl with | [_], _ => rfl)
  have F21 : DFun K mg "behind_entry" s_behind_entry ["book", "contents", "entry"] := dfun_mk X G a21 l21 c21 k21 (fun _ _ _ _ _ _ us hl => match us, hl with | [_, _, _], _ => rfl)
  have F22 : DFun K mg "standings_behind" s_standings_behind ["book", "first", "log"] := dfun_mk X G a22 l22 c22 k22 (fun _ _ _ _ _ _ us hl => match us, hl with | [_, _, _], _ => rfl)
  have F23 : DFun K mg "can_have_stood" s_can_have_stood ["book", "log"] := dfun_mk X G a23 l23 c23 k23 (fun _ _ _ _ _ _ us hl => match us, hl with | [_, _], _ => rfl)
  have F24 : DFun K mg "check_contents" s_check_contents ["book", "contents"] := dfun_mk X G a24 l24 c24 k24 (fun _ _ _ _ _ _ us hl => match us, hl with | [_, _], _ => rfl)
  have F25 : DFun K mg "can_stand" s_can_stand ["book", "first", "log"] := dfun_mk X G a25 l25 c25 k25 (fun _ _ _ _ _ _ us hl => match us, hl with | [_, _, _], _ => rfl)
  have F26 : DFun K mg "far_from" s_far_from ["book", "wanted"] := dfun_mk X G a26 l26 c26 k26 (fun _ _ _ _ _ _ us hl => match us, hl with | [_, _], _ => rfl)
  have F27 : DFun K mg "shortest_log" s_shortest_log ["book", "first", "wanted"] := dfun_mk X G a27 l27 c27 k27 (fun _ _ _ _ _ _ us hl => match us, hl with | [_, _, _], _ => rfl)
  have F28 : DFun K mg "_law_word" s__law_word ["_law_which", "_law_book_here", "_law_first", "_law_other"] := dfun_mk X G a28 l28 c28 k28 (fun _ _ _ _ _ _ us hl => match us, hl with | [_, _, _, _], _ => rfl)
  have F29 : DFun K mg "is_rising_pair" s_is_rising_pair ["thing", "many"] := dfun_mk X G a29 l29 c29 k29 (fun _ _ _ _ _ _ us hl => match us, hl with | [_, _], _ => rfl)
  have F30 : DFun K mg "are_rising_pairs" s_are_rising_pairs ["thing", "many", "most"] := dfun_mk X G a30 l30 c30 k30 (fun _ _ _ _ _ _ us hl => match us, hl with | [_, _, _], _ => rfl)
  have F31 : DFun K mg "beside_lists" s_beside_lists ["many", "pairs"] := dfun_mk X G a31 l31 c31 k31 (fun _ _ _ _ _ _ us hl => match us, hl with | [_, _], _ => rfl)
  have F32 : DFun K mg "reached" s_reached ["rows", "inside", "start"] := dfun_mk X G a32 l32 c32 k32 (fun _ _ _ _ _ _ us hl => match us, hl with | [_, _, _], _ => rfl)
  refine ⟨PySem.W.fnOf "law" "law" (defArgs s_law) (defBody s_law) (defScope s_law) .none kV33 dc33 pm33 an33 cd33 ct33, fun s v => .of_eq rfl, fun base _ _ => ?_⟩
  have c__law_deep := c__law_deep (P := l.prog) (w := w) (base := base) F3 B GG 
  have c__law_draw := c__law_draw (P := l.prog) (w := w) (base := base) F4 B GG 
  have c__law_bent := c__law_bent (P := l.prog) (w := w) (base := base) F5 B GG c__law_deep c__law_draw
  have c__law_drawn_ties := c__law_drawn_ties (P := l.prog) (w := w) (base := base) F6 B GG c__law_draw
  have c__law_mixed := c__law_mixed (P := l.prog) (w := w) (base := base) F7 B GG c__law_draw
  have c__law_pairs := c__law_pairs (P := l.prog) (w := w) (base := base) F8 B GG 
  have c__law_book := c__law_book (P := l.prog) (w := w) (base := base) F9 B GG c__law_draw c__law_drawn_ties c__law_mixed c__law_pairs
  have c__law_dice := c__law_dice (P := l.prog) (w := w) (base := base) F10 B GG 
  have c__law_is_count := c__law_is_count (P := l.prog) (w := w) (base := base) F11 B GG 
  have c__law_is_log := c__law_is_log (P := l.prog) (w := w) (base := base) F12 B GG c__law_is_count
  have c__law_rows := c__law_rows (P := l.prog) (w := w) (base := base) F13 B GG 
  have c__law_log := c__law_log (P := l.prog) (w := w) (base := base) F14 B GG c__law_draw c__law_rows
  have c_is_integer := c_is_integer (P := l.prog) (w := w) (base := base) F15 B GG 
  have c_is_within := c_is_within (P := l.prog) (w := w) (base := base) F16 B GG c_is_integer
  have c_is_index := c_is_index (P := l.prog) (w := w) (base := base) F17 B GG c_is_within
  have m1 := c_Book_size (P := l.prog) (w := w) (base := base) (C_TB := C_TB) F1 B GG TB
  have TB_p_size := dpr_mk ⟨a1, g1, t1, ⟨_, r1⟩⟩ m1
  have c_is_entry := c_is_entry (P := l.prog) (w := w) (base := base) (C_TB := C_TB) F18 B GG TB c_is_index KT_WORDS TB_p_size
  have c_check_log := c_check_log (P := l.prog) (w := w) (base := base) (C_TB := C_TB) (E_NoLog := E_NoLog) F19 B GG c_is_entry XC_NoLog
  have c_tied_of := c_tied_of (P := l.prog) (w := w) (base := base) (C_TB := C_TB) F20 B GG TB
  have c_behind_entry := c_behind_entry (P := l.prog) (w := w) (base := base) (C_TB := C_TB) F21 B GG c_tied_of
  have c_standings_behind := c_standings_behind (P := l.prog) (w := w) (base := base) (C_TB := C_TB) F22 B GG c_behind_entry
  have c_can_have_stood := c_can_have_stood (P := l.prog) (w := w) (base := base) (C_TB := C_TB) (E_NoLog := E_NoLog) F23 B GG TB c_check_log c_standings_behind TB_p_size
  have c_check_contents := c_check_contents (P := l.prog) (w := w) (base := base) (C_TB := C_TB) (E_NoContent := E_NoContent) F24 B GG TB c_is_index XC_NoContent TB_p_size
  have c_can_stand := c_can_stand (P := l.prog) (w := w) (base := base) (C_TB := C_TB) (E_NoContent := E_NoContent) (E_NoLog := E_NoLog) F25 B GG c_check_contents c_check_log c_standings_behind
  have c_far_from := c_far_from (P := l.prog) (w := w) (base := base) (C_TB := C_TB) F26 B GG c_tied_of
  have c_shortest_log := c_shortest_log (P := l.prog) (w := w) (base := base) (C_TB := C_TB) (E_NoContent := E_NoContent) F27 B GG c_check_contents c_far_from c_tied_of
  have c__law_word := c__law_word (P := l.prog) (w := w) (base := base) (C_TB := C_TB) (E_NoLog := E_NoLog) (E_NoContent := E_NoContent) (E_LandsError := E_LandsError) F28 B GG c_can_have_stood c_can_stand c_shortest_log EX_LandsError EX_NoContent EX_NoLog XS
  have c_is_rising_pair := c_is_rising_pair (P := l.prog) (w := w) (base := base) F29 B GG c_is_index
  have c_are_rising_pairs := c_are_rising_pairs (P := l.prog) (w := w) (base := base) F30 B GG c_is_rising_pair
  have c_beside_lists := c_beside_lists (P := l.prog) (w := w) (base := base) F31 B GG 
  have c_reached := c_reached (P := l.prog) (w := w) (base := base) F32 B GG 
  have m2 := c_Book___init__ (P := l.prog) (w := w) (base := base) (C_TB := C_TB) F2 B GG TB c_are_rising_pairs c_beside_lists c_is_within c_reached
  have MK_Book := dmk_mk X G aC_TB ⟨mk2, a2, i2, kc2⟩ m2
  exact c_law (fun_mk (st := s_law) l33 c33 k33) B GG c__law_bent c__law_book c__law_dice c__law_draw c__law_is_log c__law_log c__law_word MK_Book
end DL
open PySem PySem.W PyProof.Rows
set_option maxRecDepth 100000 in
set_option maxHeartbeats 0 in
theorem PySem.Challenge.cw_storelands_k88_logs_refused_holds : PySem.Challenge.rw_storelands_k88_logs_refused.Holds := by
  w_on; o_law; k_head; (case hw => w_witness2)
  k_fill
  refine DL.walk_lawT (x := "_law_script") (l := PySem.Challenge.rw_storelands_k88_logs_refused) rfl rfl (fun w h Y => PySem.W.kIn_of Y) ?F
  case F =>
    intro w mg fa h KX G hmg
    refine' DL.all_mk KX G hmg ?aC_TB ?pg_TB ?hd_TB ?po_TB ?sa_TB ?n_TB_kept_size ?n_TB_kept_ties ?n_TB_kept_facts ?aE_LandsError ?bE_LandsError ?tE_LandsError ?iE_LandsError ?sE_LandsError ?aE_NoContent ?bE_NoContent ?tE_NoContent ?iE_NoContent ?sE_NoContent ?aE_NoLog ?bE_NoLog ?tE_NoLog ?iE_NoLog ?sE_NoLog ?kE_NoContent ?xE_NoContent ?hgE_NoContent ?hkE_NoContent ?hdE_NoContent ?haE_NoContent ?hmE_NoContent ?sE_NoContent_LandsError ?sE_NoContent_NoLog ?vE_NoContent_ValueError ?kE_NoLog ?xE_NoLog ?hgE_NoLog ?hkE_NoLog ?hdE_NoLog ?haE_NoLog ?hmE_NoLog ?sE_NoLog_LandsError ?sE_NoLog_NoContent ?vE_NoLog_ValueError ?hnE ?htE ?a1 ?g1 ?t1 ?r1 ?l1 ?c1 ?k1 ?a2 ?i2 ?l2 ?c2 ?k2 ?mk2 ?kc2 ?a3 ?l3 ?c3 ?k3 ?a4 ?l4 ?c4 ?k4 ?a5 ?l5 ?c5 ?k5 ?a6 ?l6 ?c6 ?k6 ?a7 ?l7 ?c7 ?k7 ?a8 ?l8 ?c8 ?k8 ?a9 ?l9 ?c9 ?k9 ?a10 ?l10 ?c10 ?k10 ?a11 ?l11 ?c11 ?k11 ?a12 ?l12 ?c12 ?k12 ?a13 ?l13 ?c13 ?k13 ?a14 ?l14 ?c14 ?k14 ?a15 ?l15 ?c15 ?k15 ?a16 ?l16 ?c16 ?k16 ?a17 ?l17 ?c17 ?k17 ?a18 ?l18 ?c18 ?k18 ?a19 ?l19 ?c19 ?k19 ?a20 ?l20 ?c20 ?k20 ?a21 ?l21 ?c21 ?k21 ?a22 ?l22 ?c22 ?k22 ?a23 ?l23 ?c23 ?k23 ?a24 ?l24 ?c24 ?k24 ?a25 ?l25 ?c25 ?k25 ?a26 ?l26 ?c26 ?k26 ?a27 ?l27 ?c27 ?k27 ?a28 ?l28 ?c28 ?k28 ?a29 ?l29 ?c29 ?k29 ?a30 ?l30 ?c30 ?k30 ?a31 ?l31 ?c31 ?k31 ?a32 ?l32 ?c32 ?k32 ?a33 ?l33 ?c33 ?k33 ?z_ValueError ?z_abs ?z_all ?z_any ?z_bool ?z_int ?z_isinstance ?z_len ?z_list ?z_range ?z_repr ?z_sorted ?z_str ?z_tuple ?v_MOST_CONTENTS ?v_MOST_ENTRIES ?v_MOST_TIES ?aT_WORDS ?lT_WORDS
    (case aC_TB => k_is); (case pg_TB => k_is); (case hd_TB => k_is); (case po_TB => k_is); (case sa_TB => k_is); (case n_TB_kept_size => k_is)
    (case n_TB_kept_ties => k_is); (case n_TB_kept_facts => k_is); (case aE_LandsError => k_is); (case bE_LandsError => k_is); (case tE_LandsError => k_is); (case iE_LandsError => k_is)
    (case sE_LandsError => k_is); (case aE_NoContent => k_is); (case bE_NoContent => k_is); (case tE_NoContent => k_is); (case iE_NoContent => k_is); (case sE_NoContent => k_is)
    (case aE_NoLog => k_is); (case bE_NoLog => k_is); (case tE_NoLog => k_is); (case iE_NoLog => k_is); (case sE_NoLog => k_is); (case kE_NoContent => k_is)
    (case xE_NoContent => k_exc); (case hgE_NoContent => k_is); (case hkE_NoContent => k_is); (case hdE_NoContent => k_is); (case haE_NoContent => k_is); (case hmE_NoContent => k_is)
    (case sE_NoContent_LandsError => k_is); (case sE_NoContent_NoLog => k_is); (case vE_NoContent_ValueError => k_is); (case kE_NoLog => k_is); (case xE_NoLog => k_exc); (case hgE_NoLog => k_is)
    (case hkE_NoLog => k_is); (case hdE_NoLog => k_is); (case haE_NoLog => k_is); (case hmE_NoLog => k_is); (case sE_NoLog_LandsError => k_is); (case sE_NoLog_NoContent => k_is)
    (case vE_NoLog_ValueError => k_is); (case hnE => k_is); (case htE => k_is); (case a1 => k_is); (case g1 => k_is); (case t1 => k_is)
    (case r1 => k_is); (case l1 => k_is); (case c1 => k_is); (case k1 => k_is); (case a2 => k_is); (case i2 => k_is)
    (case l2 => k_is); (case c2 => k_is); (case k2 => k_is); (case mk2 => k_is); (case kc2 => k_is); (case a3 => k_is)
    (case l3 => k_is); (case c3 => k_is); (case k3 => k_is); (case a4 => k_is); (case l4 => k_is); (case c4 => k_is)
    (case k4 => k_is); (case a5 => k_is); (case l5 => k_is); (case c5 => k_is); (case k5 => k_is); (case a6 => k_is)
    (case l6 => k_is); (case c6 => k_is); (case k6 => k_is); (case a7 => k_is); (case l7 => k_is); (case c7 => k_is)
    (case k7 => k_is); (case a8 => k_is); (case l8 => k_is); (case c8 => k_is); (case k8 => k_is); (case a9 => k_is)
    (case l9 => k_is); (case c9 => k_is); (case k9 => k_is); (case a10 => k_is); (case l10 => k_is); (case c10 => k_is)
    (case k10 => k_is); (case a11 => k_is); (case l11 => k_is); (case c11 => k_is); (case k11 => k_is); (case a12 => k_is)
    (case l12 => k_is); (case c12 => k_is); (case k12 => k_is); (case a13 => k_is); (case l13 => k_is); (case c13 => k_is)
    (case k13 => k_is); (case a14 => k_is); (case l14 => k_is); (case c14 => k_is); (case k14 => k_is); (case a15 => k_is)
    (case l15 => k_is); (case c15 => k_is); (case k15 => k_is); (case a16 => k_is); (case l16 => k_is); (case c16 => k_is)
    (case k16 => k_is); (case a17 => k_is); (case l17 => k_is); (case c17 => k_is); (case k17 => k_is); (case a18 => k_is)
    (case l18 => k_is); (case c18 => k_is); (case k18 => k_is); (case a19 => k_is); (case l19 => k_is); (case c19 => k_is)
    (case k19 => k_is); (case a20 => k_is); (case l20 => k_is); (case c20 => k_is); (case k20 => k_is); (case a21 => k_is)
    (case l21 => k_is); (case c21 => k_is); (case k21 => k_is); (case a22 => k_is); (case l22 => k_is); (case c22 => k_is)
    (case k22 => k_is); (case a23 => k_is); (case l23 => k_is); (case c23 => k_is); (case k23 => k_is); (case a24 => k_is)
    (case l24 => k_is); (case c24 => k_is); (case k24 => k_is); (case a25 => k_is); (case l25 => k_is); (case c25 => k_is)
    (case k25 => k_is); (case a26 => k_is); (case l26 => k_is); (case c26 => k_is); (case k26 => k_is); (case a27 => k_is)
    (case l27 => k_is); (case c27 => k_is); (case k27 => k_is); (case a28 => k_is); (case l28 => k_is); (case c28 => k_is)
    (case k28 => k_is); (case a29 => k_is); (case l29 => k_is); (case c29 => k_is); (case k29 => k_is); (case a30 => k_is)
    (case l30 => k_is); (case c30 => k_is); (case k30 => k_is); (case a31 => k_is); (case l31 => k_is); (case c31 => k_is)
    (case k31 => k_is); (case a32 => k_is); (case l32 => k_is); (case c32 => k_is); (case k32 => k_is); (case a33 => k_is)
    (case l33 => k_is); (case c33 => k_is); (case k33 => k_is); (case z_ValueError => k_is); (case z_abs => k_is); (case z_all => k_is)
    (case z_any => k_is); (case z_bool => k_is); (case z_int => k_is); (case z_isinstance => k_is); (case z_len => k_is); (case z_list => k_is)
    (case z_range => k_is); (case z_repr => k_is); (case z_sorted => k_is); (case z_str => k_is); (case z_tuple => k_is); (case v_MOST_CONTENTS => k_is)
    (case v_MOST_ENTRIES => k_is); (case v_MOST_TIES => k_is); (case aT_WORDS => k_is); (case lT_WORDS => k_is)

