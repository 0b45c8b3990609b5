import PyProof.Rows.All
import Wide.All
import OpenK.AllK
import Wide.FinOn
import HandS.ForMost
import HandS.ForExc
import HandS.IsInst
import HandS.TupAny
import HandS.Deep
import HandS.Flow
import HandS.Zip
import HandS.Comp
import HandS.ExcCtx
import HandS.Walk
import HandS.TupLen
import HandS.Conv
import HandS.SortInts
import HandS.SortRule
import HandS.SetFor
import HandS.More
import HandS.Property
import HandS.NoneIn
import HandS.TupLe
import HandS.Ends
import HandS.DictComp
import HandS.Style
import HandS.ExcOwn
import HandS.ExcIs
import PyProof.ExcBaseAll.ValueError
import HandS.Iter
import KE.SortUse
import KE.DataCmp
import HandS.Strs
import PyProof.EqKinds
import HandS.ExcInit
import HandS.ExcField
import KE.KExcSuper
import KE.KSuper
import HandS.TryMany
import HandS.HeadHook3
import HandS.Codes
import HandS.TupMul
import HandS.TupSets
import KE.GoesMore
import PyProof.AutoSeq1
import PyProof.SumWalk
import PyProof.ListOps
import PyProof.ReprRoads
import PyProof.CallFns
import PyProof.ReprLen
import KE.KDictCopyH
import HandS.SetKeys
import HandS.DictTup
import KE.KUnpackStar
import HandS.FStr
import HandS.CallLocal
import KE.KIntText
import PyProof.StrLawsTight
import PyProof.StrLawsChain
import PyProof.Rows.StrSplitAre
import PyProof.StrLawsIn
import HandS.Hot
import HandS.HotCalls
import HandS.Head0
import HandS.Head1
import HandS.Head2
import HandS.HeadEnd
import HandS.HeadHook1
import HandS.HeadHook2
import KE.KDictZip
import KE.KDictKeyed
import KE.DataMinMax
import PyProof.P3Eq
import HandS.StrMore
import PySem.Challenge.RW_storelands_k57_whole_bars_spoiled
set_option Elab.async false
set_option linter.all false
set_option maxRecDepth 100000
set_option maxHeartbeats 2000000
namespace DL
open PySem PySem.Spec PyProof.Rows L2

/-- data: scalars, references (what may change), frozen tuples and lists -/
inductive D where
  | non | bl (b : Bool) | int (i : Int) | str (x : Str) | ref (a : Addr) | ty (n : String)
  | tup (l : List D) | lst (l : List D) | kt (l : List D) | ls (l : List D)
  | dk (ks : List Key) (l : List D) | dt (ks : List (List Key)) (l : List D)

/-- what may change -/
inductive MO where
  | lst (l : List D)
  | dK (kvs : List (Key × D))
  | dT (kvs : List (List Key × D))
  | ins (C : Addr) (fs : List (Str × D))

abbrev Mp := Addr → Option MO
def mset (M : Mp) (a : Addr) (o : MO) : Mp := fun b => if b = a then some o else M b
def mdel (M : Mp) (a : Addr) : Mp := fun b => if b = a then none else M b
theorem mne_of_none {M : Mp} {a b : Addr} {o : MO} (h : M a = some o) (h' : M b = none) : a ≠ b := by
  intro e; subst e; rw [h] at h'; cases h'
theorem mset_same {M : Mp} {a : Addr} {o : MO} : mset M a o a = some o := if_pos rfl
theorem mset_ne {M : Mp} {a b : Addr} {o : MO} (h : b ≠ a) : mset M a o b = M b := if_neg h
theorem mdel_same {M : Mp} {a : Addr} : mdel M a a = none := if_pos rfl
theorem mdel_ne {M : Mp} {a b : Addr} (h : b ≠ a) : mdel M a b = M b := if_neg h
theorem mset_mset {M : Mp} {a : Addr} {o u : MO} : mset (mset M a o) a u = mset M a u := by
  funext b; unfold mset; split <;> rfl

/-- what is frozen, what is somebody else's (it stays as it is), dicts that are frozen -/
structure FZ where
  f : Hp
  p : Hp
  d : Hp
abbrev Sm (F F1 : FZ) : Prop := Same F.f F1.f ∧ Same F.d F1.d
theorem Sm.rfl' {F : FZ} : Sm F F := ⟨Same.refl _, Same.refl _⟩
theorem Sm.trans' {F F1 F2 : FZ} (a : Sm F F1) (b : Sm F1 F2) : Sm F F2 := ⟨a.1.trans b.1, a.2.trans b.2⟩
structure FLe (F F1 : FZ) : Prop where
  s : Sm F F1
  e : F1.p = F.p
theorem FLe.refl (F : FZ) : FLe F F := ⟨Sm.rfl', rfl⟩
theorem FLe.trans {F F1 F2 : FZ} (a : FLe F F1) (b : FLe F1 F2) : FLe F F2 := ⟨a.s.trans' b.s, b.e.trans a.e⟩
/-- what stands on a base: its frozen things, and what was somebody else's -/
structure Bs (F0 F : FZ) : Prop where
  f : Sm F0 F
  p : Same F0.p F.p
theorem Bs.refl (F : FZ) : Bs F F := ⟨Sm.rfl', Same.refl _⟩
theorem Bs.tr {F0 F F1 : FZ} (a : Bs F0 F) (b : FLe F F1) : Bs F0 F1 := ⟨a.f.trans' b.s, by rw [b.e]; exact a.p⟩
def FZ.put (F : FZ) (a : Addr) (o : HO) : FZ := ⟨upd F.f a o, F.p, F.d⟩
/-- a tuple of the written part -/
def KTup (K : PySem.W.Frag) (a : Addr) (xs : List V) : Prop := ∃ (o : Obj) (its : Array Value) (n : Nat), K.lookup a = some o ∧ o.cls = .type "tuple" ∧ o.data = .seq its n ∧ its.size ≤ sizeLine ∧ Vals xs its.toList ∧ o.dict = none
/-- a tuple of the written part, or one whose object is known: it has no attributes of its own -/
def KtF (K : PySem.W.Frag) (F : FZ) (a : Addr) (xs : List V) : Prop := KTup K a xs ∨ ∃ o : Obj, F.f a = some (.frz o (.tup xs)) ∧ o.dict = none
theorem KtF.mono {K : PySem.W.Frag} {F F' : FZ} {a : Addr} {xs : List V} (h : KtF K F a xs) (e : Sm F F') : KtF K F' a xs := h.imp (fun z => z) fun ⟨o, z, y⟩ => ⟨o, e.1 _ _ z, y⟩
mutual
inductive Rp (K : PySem.W.Frag) (F : FZ) : D → V → Prop
  | non : Rp K F .non .non
  | bl (b : Bool) : Rp K F (.bl b) (.bl b)
  | int (i : Int) : Rp K F (.int i) (.int i)
  | str (x : Str) : Rp K F (.str x) (.str x)
  | ref (a : Addr) : Rp K F (.ref a) (.ref a)
  | ty (n : String) : Rp K F (.ty n) (.ty n)
  | tup {a : Addr} {xs : List V} {ds : List D} : F.f a = some (.tup xs) → RpL K F ds xs → Rp K F (.tup ds) (.ref a)
  | kt {a : Addr} {xs : List V} {ds : List D} : KtF K F a xs → RpL K F ds xs → Rp K F (.kt ds) (.ref a)
  | lst {a : Addr} {xs : List V} {ds : List D} : F.f a = some (.lst xs) → RpL K F ds xs → Rp K F (.lst ds) (.ref a)
  | ls {a : Addr} {xs : List V} {ds : List D} : SqL K F.f a xs → RpL K F ds xs → Rp K F (.ls ds) (.ref a)
  | dk {a : Addr} {ps : List (Key × V)} {ds : List D} : F.d a = some (.dK ps) → RpL K F ds (ps.map (·.2)) → Rp K F (.dk (ps.map (·.1)) ds) (.ref a)
  | dt {a : Addr} {ps : List (List Key × V)} {ds : List D} : F.d a = some (.dT ps) → RpL K F ds (ps.map (·.2)) → Rp K F (.dt (ps.map (·.1)) ds) (.ref a)
inductive RpL (K : PySem.W.Frag) (F : FZ) : List D → List V → Prop
  | nil : RpL K F [] []
  | cons {d : D} {v : V} {ds : List D} {xs : List V} : Rp K F d v → RpL K F ds xs → RpL K F (d :: ds) (v :: xs)
end

mutual
theorem Rp.monoS {K : PySem.W.Frag} {F F' : FZ} (e : Sm F F') : ∀ {d : D} {v : V}, Rp K F d v → Rp K F' d v
  | _, _, .non => .non
  | _, _, .bl b => .bl b
  | _, _, .int i => .int i
  | _, _, .str x => .str x
  | _, _, .ref a => .ref a
  | _, _, .ty n => .ty n
  | _, _, .tup t r => .tup (e.1 _ _ t) (RpL.monoS e r)
  | _, _, .kt t r => .kt (t.mono e) (RpL.monoS e r)
  | _, _, .lst t r => .lst (e.1 _ _ t) (RpL.monoS e r)
  | _, _, .ls t r => .ls (e.1.seq t) (RpL.monoS e r)
  | _, _, .dk t r => .dk (e.2 _ _ t) (RpL.monoS e r)
  | _, _, .dt t r => .dt (e.2 _ _ t) (RpL.monoS e r)
theorem RpL.monoS {K : PySem.W.Frag} {F F' : FZ} (e : Sm F F') : ∀ {ds : List D} {xs : List V}, RpL K F ds xs → RpL K F' ds xs
  | _, _, .nil => .nil
  | _, _, .cons h t => .cons (Rp.monoS e h) (RpL.monoS e t)
end
section
variable {K : PySem.W.Frag} {F F' : FZ}
theorem Rp.mono (e : FLe F F') {d : D} {v : V} (r : Rp K F d v) : Rp K F' d v := r.monoS e.s
theorem RpL.mono (e : FLe F F') {ds : List D} {xs : List V} (r : RpL K F ds xs) : RpL K F' ds xs := r.monoS e.s
theorem RpL.length : ∀ {ds : List D} {xs : List V}, RpL K F ds xs → ds.length = xs.length
  | _, _, .nil => rfl
  | _, _, .cons _ t => by simp [RpL.length t]
theorem RpL.get : ∀ {ds : List D} {xs : List V} {i : Nat} {d : D}, RpL K F ds xs → ds[i]? = some d → ∃ v, xs[i]? = some v ∧ Rp K F d v
  | _, _, _, _, .nil, e => by simp at e
  | _, _, 0, _, .cons r _, e => by simp at e; subst e; exact ⟨_, rfl, r⟩
  | _, _, i + 1, d, .cons _ t, e => by
    obtain ⟨u, h1, h2⟩ := RpL.get (i := i) (d := d) t (by simpa using e)
    exact ⟨u, by simpa using h1, h2⟩
theorem RpL.append : ∀ {ds es : List D} {xs ys : List V}, RpL K F ds xs → RpL K F es ys → RpL K F (ds ++ es) (xs ++ ys)
  | _, _, _, _, .nil, s => s
  | _, _, _, _, .cons r t, s => .cons r (RpL.append t s)
theorem RpL.take : ∀ {ds : List D} {xs : List V} (n : Nat), RpL K F ds xs → RpL K F (ds.take n) (xs.take n)
  | _, _, 0, _ => .nil
  | _, _, _ + 1, .nil => .nil
  | _, _, n + 1, .cons r t => .cons r (RpL.take n t)
theorem RpL.drop : ∀ {ds : List D} {xs : List V} (n : Nat), RpL K F ds xs → RpL K F (ds.drop n) (xs.drop n)
  | _, _, 0, r => r
  | _, _, _ + 1, .nil => .nil
  | _, _, n + 1, .cons _ t => RpL.drop n t
theorem RpL.set {d : D} {v : V} (r : Rp K F d v) : ∀ {ds : List D} {xs : List V} (i : Nat), RpL K F ds xs → RpL K F (ds.set i d) (xs.set i v)
  | _, _, _, .nil => .nil
  | _, _, 0, .cons _ t => .cons r t
  | _, _, i + 1, .cons q t => .cons q (RpL.set r i t)
theorem RpL.reverse : ∀ {ds : List D} {xs : List V}, RpL K F ds xs → RpL K F ds.reverse xs.reverse
  | _, _, .nil => .nil
  | _, _, .cons r t => by
    rw [List.reverse_cons, List.reverse_cons]
    exact RpL.append (RpL.reverse t) (.cons r .nil)
theorem RpL.eraseIdx : ∀ {ds : List D} {xs : List V} (i : Nat), RpL K F ds xs → RpL K F (ds.eraseIdx i) (xs.eraseIdx i)
  | _, _, _, .nil => .nil
  | _, _, 0, .cons _ t => t
  | _, _, i + 1, .cons r t => .cons r (RpL.eraseIdx i t)
theorem RpL.dropLast : ∀ {ds : List D} {xs : List V}, RpL K F ds xs → RpL K F ds.dropLast xs.dropLast
  | _, _, .nil => .nil
  | _, _, .cons _ .nil => .nil
  | _, _, .cons r (.cons q t) => .cons r (RpL.dropLast (.cons q t))
theorem RpL.int : ∀ (ns : List Int) {xs : List V}, RpL K F (ns.map D.int) xs → xs = ns.map V.int
  | [], _, .nil => rfl
  | _ :: ns, _, .cons (.int _) t => by rw [RpL.int ns t]; rfl
theorem RpL.ofInt : ∀ (ns : List Int), RpL K F (ns.map D.int) (ns.map V.int)
  | [] => .nil
  | _ :: ns => .cons (.int _) (RpL.ofInt ns)
theorem RpL.bl : ∀ (ns : List Bool) {xs : List V}, RpL K F (ns.map D.bl) xs → xs = ns.map V.bl
  | [], _, .nil => rfl
  | _ :: ns, _, .cons (.bl _) t => by rw [RpL.bl ns t]; rfl
theorem RpL.str : ∀ (ns : List Str) {xs : List V}, RpL K F (ns.map D.str) xs → xs = ns.map V.str
  | [], _, .nil => rfl
  | _ :: ns, _, .cons (.str _) t => by rw [RpL.str ns t]; rfl
end

abbrev KVR (K : PySem.W.Frag) (F : FZ) {κ : Type} : List (κ × D) → List (κ × V) → Prop := Paired fun p q => p.1 = q.1 ∧ Rp K F p.2 q.2
theorem KVR.monoS {K : PySem.W.Frag} {F F' : FZ} {κ : Type} (e : Sm F F') {l : List (κ × D)} {m : List (κ × V)} (h : KVR K F l m) : KVR K F' l m := Paired.mapP h fun _ _ q => ⟨q.1, q.2.monoS e⟩
theorem KVR.mono {K : PySem.W.Frag} {F F' : FZ} {κ : Type} (e : FLe F F') {l : List (κ × D)} {m : List (κ × V)} (h : KVR K F l m) : KVR K F' l m := h.monoS e.s

inductive MR (K : PySem.W.Frag) (F : FZ) : MO → HO → Prop
  | lst {ds : List D} {xs : List V} : RpL K F ds xs → xs.length ≤ sizeLine → MR K F (.lst ds) (.lst xs)
  | dK {kvs : List (Key × D)} {ps : List (Key × V)} : KVR K F kvs ps → ps.length ≤ sizeLine → MR K F (.dK kvs) (.dK ps)
  | dT {kvs : List (List Key × D)} {ps : List (List Key × V)} : KVR K F kvs ps → ps.length ≤ sizeLine → (∀ p ∈ ps, p.1.length ≤ sizeLine) → MR K F (.dT kvs) (.dT ps)
  | ins {C dx : Addr} {fs : List (Str × D)} {gs : List (Str × V)} : KVR K F fs gs → MR K F (.ins C fs) (.ins C dx gs)
theorem MR.monoS {K : PySem.W.Frag} {F F' : FZ} (e : Sm F F') {o : MO} {u : HO} : MR K F o u → MR K F' o u
  | .lst r z => .lst (r.monoS e) z
  | .dK r z => .dK (r.monoS e) z
  | .dT r z y => .dT (r.monoS e) z y
  | .ins r => .ins (r.monoS e)
theorem MR.mono {K : PySem.W.Frag} {F F' : FZ} (e : FLe F F') {o : MO} {u : HO} (r : MR K F o u) : MR K F' o u := r.monoS e.s

/-- what may be frozen -/
def FzO : HO → Prop
  | .lst xs => xs.length ≤ sizeLine
  | .tup xs => xs.length ≤ sizeLine
  | .frz _ (.lst xs) => xs.length ≤ sizeLine
  | .frz _ (.tup xs) => xs.length ≤ sizeLine
  | _ => False

/-- a dict -/
def DcO : HO → Prop
  | .dK ps => ps.length ≤ sizeLine
  | .dT ps => ps.length ≤ sizeLine ∧ ∀ p ∈ ps, p.1.length ≤ sizeLine
  | _ => False
structure SR (K : PySem.W.Frag) (F : FZ) (M : Mp) (H : Hp) : Prop where
  fz : Same F.f H
  ok : ∀ a o, F.f a = some o → FzO o
  dj : ∀ a o, M a = some o → F.f a = none
  pz : Same F.p H
  pf : ∀ a o, F.p a = some o → F.f a = none ∧ M a = none ∧ (∀ xs, o ≠ .tup xs) ∧ ∀ u, F.d a = some u → ∃ od, o = .frz od u
  mu : ∀ a o, M a = some o → ∃ u, H a = some u ∧ MR K F o u
  dz : ∀ a u, F.d a = some u → Rd H a u
  df : ∀ a u, F.d a = some u → F.f a = none ∧ M a = none ∧ DcO u

abbrev G := List (Option D)
structure GR (K : PySem.W.Frag) (F : FZ) (γ : G) (σ : L2.St) : Prop where
  len : γ.length = σ.length
  at' : ∀ (i : Nat) (d : D), γ[i]? = some (some d) → ∃ v, σ[i]? = some (some v) ∧ Rp K F d v
theorem GR.monoS {K : PySem.W.Frag} {F F' : FZ} (e : Sm F F') {γ : G} {σ : L2.St} (h : GR K F γ σ) : GR K F' γ σ := ⟨h.len, fun i d q => let ⟨v, a, b⟩ := h.at' i d q; ⟨v, a, b.monoS e⟩⟩
theorem GR.mono {K : PySem.W.Frag} {F F' : FZ} (e : FLe F F') {γ : G} {σ : L2.St} (h : GR K F γ σ) : GR K F' γ σ := h.monoS e.s
theorem GR.set {K : PySem.W.Frag} {F : FZ} {γ : G} {σ : L2.St} {d : D} {v : V} (h : GR K F γ σ) (r : Rp K F d v) (i : Nat) : GR K F (γ.set i (some d)) (σ.set i (some v)) := by
  refine ⟨by simp [h.len], fun j e q => ?_⟩
  by_cases hj : i = j
  · subst hj
    by_cases hl : i < γ.length
    · rw [List.getElem?_set_self hl] at q
      cases q
      exact ⟨v, List.getElem?_set_self (h.len ▸ hl), r⟩
    · rw [List.getElem?_eq_none (by simpa using hl)] at q
      cases q
  · rw [List.getElem?_set_ne hj] at q ⊢
    exact h.at' j e q

section
variable {K : PySem.W.Frag} {F F' : FZ} {M : Mp} {H : Hp}
/-- an address that is not tracked is neither frozen nor changeable -/
theorem SR.freeF (s : SR K F M H) {p : Addr} (h : H p = none) : F.f p = none := s.fz.free h
theorem SR.freeD (s : SR K F M H) {p : Addr} (h : H p = none) : F.d p = none := by
  cases e : F.d p with
  | none => rfl
  | some u =>
    rcases s.dz p u e with z | ⟨o, z⟩ <;> rw [h] at z <;> cases z
theorem rd_upd {H : Hp} {a p : Addr} {u o : HO} (h : Rd H a u) (ne : a ≠ p) : Rd (upd H p o) a u := by
  rcases h with z | ⟨x, z⟩
  · exact .inl (by rw [upd_ne ne]; exact z)
  · exact .inr ⟨x, by rw [upd_ne ne]; exact z⟩
theorem SR.freeP (s : SR K F M H) {p : Addr} (h : H p = none) : F.p p = none := s.pz.free h
theorem SR.freeM (s : SR K F M H) {p : Addr} (h : H p = none) : M p = none := by
  cases e : M p with
  | none => rfl
  | some o =>
    obtain ⟨u, q, _⟩ := s.mu p o e
    rw [h] at q; cases q
theorem SR.notP (s : SR K F M H) {p : Addr} {o : MO} (h : M p = some o) : F.p p = none := by
  cases e : F.p p with
  | none => rfl
  | some u =>
    rw [(s.pf p u e).2.1] at h; cases h
theorem SR.notD (s : SR K F M H) {p : Addr} {o : MO} (h : M p = some o) : F.d p = none := by
  cases e : F.d p with
  | none => rfl
  | some u =>
    rw [(s.df p u e).2.1] at h; cases h
theorem same_upd {F : FZ} {p : Addr} {o : HO} (h : F.f p = none) : FLe F (F.put p o) := ⟨⟨fun b u e => by show upd F.f p o b = _; rw [upd_ne (ne_of_none e h)]; exact e, Same.refl _⟩, rfl⟩
theorem put_f {F : FZ} {p : Addr} {o : HO} : (F.put p o).f = upd F.f p o := rfl
theorem put_p {F : FZ} {p : Addr} {o : HO} : (F.put p o).p = F.p := rfl
/-- a new frozen thing -/
theorem SR.newF (s : SR K F M H) {p : Addr} {o : HO} (h : H p = none) (ok : FzO o) : SR K (F.put p o) M (upd H p o) := by
  have hF := s.freeF h
  have hM := s.freeM h
  have hP := s.freeP h
  have hD := s.freeD h
  refine ⟨fun b u e => ?_, fun b u e => ?_, fun b u e => ?_, fun b u e => ?_, fun b u e => ?_, fun b u e => ?_, fun b u e => rd_upd (s.dz b u e) (ne_of_none e hD), fun b u e => ⟨by rw [put_f, upd_ne (ne_of_none (show F.d b = some u from e) hD)]; exact (s.df b u e).1, (s.df b u e).2⟩⟩
  · rw [put_f] at e
    by_cases q : b = p
    · subst q; rw [upd_same] at e ⊢; exact e
    · rw [upd_ne q] at e ⊢; exact s.fz _ _ e
  · rw [put_f] at e
    by_cases q : b = p
    · subst q; rw [upd_same] at e; cases e; exact ok
    · rw [upd_ne q] at e; exact s.ok _ _ e
  · rw [put_f]
    have q : b ≠ p := fun z => by rw [z, hM] at e; cases e
    rw [upd_ne q]; exact s.dj _ _ e
  · rw [put_p] at e
    rw [upd_ne (ne_of_none e hP)]; exact s.pz _ _ e
  · rw [put_p] at e
    rw [put_f, upd_ne (ne_of_none e hP)]
    exact s.pf _ _ e
  · have q : b ≠ p := fun z => by rw [z, hM] at e; cases e
    obtain ⟨v, h1, h2⟩ := s.mu b u e
    exact ⟨v, by rw [upd_ne q]; exact h1, h2.mono (same_upd hF)⟩
/-- a new changeable thing, or one changed -/
theorem SR.put (s : SR K F M H) {p : Addr} {o : MO} {u : HO} (h : F.f p = none) (hp : F.p p = none) (hd : F.d p = none) (r : MR K F o u) : SR K F (mset M p o) (upd H p u) := by
  refine ⟨fun b x e => ?_, s.ok, fun b x e => ?_, fun b x e => ?_, fun b x e => ⟨(s.pf b x e).1, ?_, (s.pf b x e).2.2⟩, fun b x e => ?_, fun b x e => rd_upd (s.dz b x e) (ne_of_none e hd), fun b x e => ⟨(s.df b x e).1, by rw [mset_ne (ne_of_none e hd)]; exact (s.df b x e).2.1, (s.df b x e).2.2⟩⟩
  · rw [upd_ne (ne_of_none e h)]; exact s.fz _ _ e
  · by_cases q : b = p
    · subst q; exact h
    · rw [mset_ne q] at e; exact s.dj _ _ e
  · rw [upd_ne (ne_of_none e hp)]; exact s.pz _ _ e
  · rw [mset_ne (ne_of_none e hp)]; exact (s.pf b x e).2.1
  · by_cases q : b = p
    · subst q; rw [mset_same] at e; cases e; exact ⟨u, upd_same, r⟩
    · rw [mset_ne q] at e
      obtain ⟨v, h1, h2⟩ := s.mu b x e
      exact ⟨v, by rw [upd_ne q]; exact h1, h2⟩
theorem SR.putN (s : SR K F M H) {p : Addr} {o : MO} {u : HO} (h : H p = none) (r : MR K F o u) : SR K F (mset M p o) (upd H p u) := s.put (s.freeF h) (s.freeP h) (s.freeD h) r
theorem SR.putM (s : SR K F M H) {p : Addr} {o o' : MO} {u : HO} (h : M p = some o') (r : MR K F o u) : SR K F (mset M p o) (upd H p u) := s.put (s.dj p _ h) (s.notP h) (s.notD h) r
/-- nobody's thing is frozen -/
theorem SR.adopt (s : SR K F M H) {p : Addr} {o : HO} (hf : F.f p = none) (hp : F.p p = none) (hm : M p = none) (h : H p = some o) (ok : FzO o) : SR K (F.put p o) M H := by
  have hd : F.d p = none := by
    cases e : F.d p with
    | none => rfl
    | some u =>
      have dc := (s.df p u e).2.2
      have k1 : ∀ v : HO, DcO v → FzO v → False := fun v a b => by cases v <;> first | exact a | exact b
      have k2 : ∀ (x : Obj) (v : HO), DcO v → FzO (.frz x v) → False := fun x v a b => by cases v <;> first | exact a | exact b
      rcases s.dz p u e with z | ⟨x, z⟩
      · rw [h] at z; cases z
        exact (k1 _ dc ok).elim
      · rw [h] at z; cases z
        exact (k2 _ _ dc ok).elim
  refine ⟨fun b u e => ?_, fun b u e => ?_, fun b u e => ?_, fun b u e => s.pz b u e, fun b u e => ?_, fun b u e => ?_, s.dz, fun b u e => ⟨by rw [put_f, upd_ne (ne_of_none (show F.d b = some u from e) hd)]; exact (s.df b u e).1, (s.df b u e).2⟩⟩
  · rw [put_f] at e
    by_cases q : b = p
    · subst q; rw [upd_same] at e; cases e; exact h
    · rw [upd_ne q] at e; exact s.fz _ _ e
  · rw [put_f] at e
    by_cases q : b = p
    · subst q; rw [upd_same] at e; cases e; exact ok
    · rw [upd_ne q] at e; exact s.ok _ _ e
  · rw [put_f, upd_ne (mne_of_none e hm)]; exact s.dj _ _ e
  · have e' : F.p b = some u := e
    rw [put_f, upd_ne (ne_of_none e' hp)]
    exact s.pf _ _ e'
  · obtain ⟨v, h1, h2⟩ := s.mu b u e
    exact ⟨v, h1, h2.mono (same_upd hf)⟩
/-- a tuple that is tracked is frozen -/
theorem SR.adoptT (s : SR K F M H) {p : Addr} {xs : List V} (h : H p = some (.tup xs)) (ok : xs.length ≤ sizeLine) : ∃ F1, FLe F F1 ∧ SR K F1 M H ∧ F1.f p = some (.tup xs) := by
  have hm : M p = none := by
    cases e : M p with
    | none => rfl
    | some o =>
      obtain ⟨u, h1, h2⟩ := s.mu p o e
      rw [h] at h1; cases h1
      cases h2
  have hp : F.p p = none := by
    cases e : F.p p with
    | none => rfl
    | some o =>
      have h1 := s.pz p o e
      rw [h] at h1; cases h1
      exact absurd rfl ((s.pf p _ e).2.2.1 xs)
  cases e : F.f p with
  | some o =>
    have h1 := s.fz p o e
    rw [h] at h1; cases h1
    exact ⟨F, FLe.refl F, s, e⟩
  | none => exact ⟨F.put p (.tup xs), same_upd e, s.adopt e hp hm h ok, upd_same⟩
/-- hidden no more, and changed -/
theorem SR.unhide (s : SR K F M H) {q : Hp} {p : Addr} {o u : HO} (e : F.p = upd q p o) (hq : q p = none) (hu : ∀ od u', o = .frz od u' → u = u' := by exact fun _ _ z => nomatch z) : SR K ⟨F.f, q, F.d⟩ M (upd H p u) ∧ H p = some o ∧ F.f p = none ∧ M p = none := by
  have hp : F.p p = some o := by rw [e, upd_same]
  obtain ⟨hf, hm, _, hpd⟩ := s.pf p o hp
  refine ⟨⟨fun b x z => by rw [upd_ne (ne_of_none z hf)]; exact s.fz _ _ z, s.ok, s.dj, fun b x z => ?_, fun b x z => ?_, fun b x z => ?_, fun b x z => ?_, s.df⟩, s.pz _ _ hp, hf, hm⟩
  · have z' : q b = some x := z
    have ne := ne_of_none z' hq
    rw [upd_ne ne]
    exact s.pz b x (by rw [e, upd_ne ne]; exact z')
  · have z' : q b = some x := z
    have ne := ne_of_none z' hq
    exact s.pf b x (by rw [e, upd_ne ne]; exact z')
  · obtain ⟨v, h1, h2⟩ := s.mu b x z
    exact ⟨v, by rw [upd_ne (mne_of_none z hm)]; exact h1, MR.monoS (F := F) (F' := ⟨F.f, q, F.d⟩) Sm.rfl' h2⟩
  · have z' : F.d b = some x := z
    by_cases w : b = p
    · subst w
      obtain ⟨od, eo⟩ := hpd x z'
      rw [hu od x eo]
      exact .inl upd_same
    · exact rd_upd (s.dz b x z') w
/-- a thing is lent to nobody: it stays as it is -/
def FZ.hide (F : FZ) (a : Addr) (o : HO) : FZ := ⟨F.f, upd F.p a o, F.d⟩
/-- a new thing that is not ours -/
theorem SR.other (s : SR K F M H) {p : Addr} {o : HO} (h : H p = none) : SR K F M (upd H p o) :=
  ⟨fun b u e => by rw [upd_ne (ne_of_none e (s.freeF h))]; exact s.fz _ _ e, s.ok, s.dj, fun b u e => by rw [upd_ne (ne_of_none e (s.freeP h))]; exact s.pz _ _ e, s.pf, fun b u e => by
    obtain ⟨v, h1, h2⟩ := s.mu b u e
    exact ⟨v, by rw [upd_ne (mne_of_none e (s.freeM h))]; exact h1, h2⟩, fun b u e => rd_upd (s.dz b u e) (ne_of_none e (s.freeD h)), s.df⟩
theorem SR.noL (s : SR K F M H) {p : Addr} {xs : List V} (h : H p = some (.lst xs)) : ∀ u, F.d p = some u → ∃ od, HO.lst xs = .frz od u := fun u e => by
  have dc := (s.df p u e).2.2
  rcases s.dz p u e with z | ⟨x, z⟩
  · rw [h] at z; cases z; exact False.elim dc
  · rw [h] at z; cases z
theorem SR.noL0 (s : SR K F M H) {p : Addr} {xs : List V} (h : H p = some (.lst xs)) : F.d p = none := by
  cases e : F.d p with
  | none => rfl
  | some u =>
    obtain ⟨od, z⟩ := s.noL h u e
    cases z
theorem SR.hidD (s : SR K F M H) {p : Addr} {o : HO} (e : F.p p = some o) (ho : ∀ od u, o ≠ .frz od u) : F.d p = none := by
  cases e2 : F.d p with
  | none => rfl
  | some u =>
    obtain ⟨od, z⟩ := (s.pf p o e).2.2.2 u e2
    exact absurd z (ho od u)
/-- what a walk asks of the world: frozen things, and what is locked -/
structure Bj (F F1 : FZ) : Prop where
  f : Sm F F1
  p : ∀ a od u, F.p a = some (.frz od u) → F1.p a = some (.frz od u)
theorem FLe.bj {F F1 : FZ} (e : FLe F F1) : Bj F F1 := ⟨e.s, fun a od u h => by rw [e.e]; exact h⟩
theorem Bj.trans {F F1 F2 : FZ} (a : Bj F F1) (b : Bj F1 F2) : Bj F F2 := ⟨a.f.trans' b.f, fun x od u h => b.p x od u (a.p x od u h)⟩
theorem bj_hide {F1 F2 : FZ} {p : Addr} {o : HO} (e : FLe F1 F2) (h : F1.p p = none) : Bj F1 (F2.hide p o) := ⟨e.s, fun b od u hb => by show upd F2.p p o b = _; rw [upd_ne (ne_of_none hb h), e.e]; exact hb⟩
theorem bj_rehide {q : Hp} {F1 F2 : FZ} {p : Addr} {o o' : HO} (e : Sm F1 F2) (h1 : F1.p = upd q p o) (h2 : F2.p = q) (ho : ∀ od u, o ≠ .frz od u) : Bj F1 (F2.hide p o') := ⟨e, fun b od u hb => by
  rw [h1] at hb
  show upd F2.p p o' b = _
  by_cases w : b = p
  · subst w
    rw [upd_same] at hb
    cases hb
    exact absurd rfl (ho _ _)
  · rw [upd_ne w] at hb ⊢
    rw [h2]; exact hb⟩
theorem bj_rehide0 {q : Hp} {F1 F2 : FZ} {p : Addr} {o : HO} (e : Sm F1 F2) (h1 : F1.p = upd q p o) (h2 : F2.p = q) (ho : ∀ od u, o ≠ .frz od u) : Bj F1 F2 := ⟨e, fun b od u hb => by
  rw [h1] at hb
  by_cases w : b = p
  · subst w
    rw [upd_same] at hb
    cases hb
    exact absurd rfl (ho _ _)
  · rw [upd_ne w] at hb
    rw [h2]; exact hb⟩
def MLe (M' M : Mp) : Prop := ∀ a o, M' a = some o → M a = some o
theorem MLe.refl (M : Mp) : MLe M M := fun _ _ h => h
theorem MLe.none {M' M : Mp} (l : MLe M' M) {a : Addr} (h : M a = none) : M' a = none := by
  cases e : M' a with
  | none => rfl
  | some o => rw [l a o e] at h; cases h
theorem SR.less (s : SR K F M H) {M' : Mp} (h : MLe M' M) : SR K F M' H := ⟨s.fz, s.ok, fun a o e => s.dj a o (h a o e), s.pz, fun a o e => ⟨(s.pf a o e).1, h.none (s.pf a o e).2.1, (s.pf a o e).2.2⟩, fun a o e => s.mu a o (h a o e), s.dz, fun a u e => ⟨(s.df a u e).1, h.none (s.df a u e).2.1, (s.df a u e).2.2⟩⟩
/-- a list is frozen -/
theorem SR.freeze (s : SR K F M H) {p : Addr} {ds : List D} (h : M p = some (.lst ds)) : ∃ xs, SR K (F.put p (.lst xs)) (mdel M p) H ∧ FLe F (F.put p (.lst xs)) ∧ Rp K (F.put p (.lst xs)) (.lst ds) (.ref p) := by
  obtain ⟨u, h1, h2⟩ := s.mu p _ h
  have hF := s.dj p _ h
  have hP := s.notP h
  have hD := s.notD h
  cases h2 with
  | lst r z =>
    rename_i xs
    have e := same_upd (o := .lst xs) hF
    refine ⟨xs, ⟨fun b x q => ?_, fun b x q => ?_, fun b x q => ?_, fun b x q => s.pz b x q, fun b x q => ?_, fun b x q => ?_, s.dz, fun b x q => ⟨by rw [put_f, upd_ne (ne_of_none (show F.d b = some x from q) hD)]; exact (s.df b x q).1, by rw [mdel_ne (ne_of_none (show F.d b = some x from q) hD)]; exact (s.df b x q).2.1, (s.df b x q).2.2⟩⟩, e, .lst upd_same (r.mono e)⟩
    · rw [put_f] at q
      by_cases w : b = p
      · subst w; rw [upd_same] at q; cases q; exact h1
      · rw [upd_ne w] at q; exact s.fz _ _ q
    · rw [put_f] at q
      by_cases w : b = p
      · subst w; rw [upd_same] at q; cases q; exact z
      · rw [upd_ne w] at q; exact s.ok _ _ q
    · rw [put_f]
      by_cases w : b = p
      · subst w; rw [mdel_same] at q; cases q
      · rw [mdel_ne w] at q; rw [upd_ne w]; exact s.dj _ _ q
    · have q' : F.p b = some x := q
      rw [put_f, upd_ne (ne_of_none q' hP), mdel_ne (ne_of_none q' hP)]
      exact s.pf b x q'
    · by_cases w : b = p
      · subst w; rw [mdel_same] at q; cases q
      · rw [mdel_ne w] at q
        obtain ⟨v, a1, a2⟩ := s.mu b x q
        exact ⟨v, a1, a2.mono e⟩
theorem SR.hide (s : SR K F M H) {p : Addr} {o : HO} (hf : F.f p = none) (hm : M p = none) (h : H p = some o) (ht : ∀ xs, o ≠ .tup xs) (hd : ∀ u, F.d p = some u → ∃ od, o = .frz od u) : SR K (F.hide p o) M H := by
  refine ⟨s.fz, s.ok, s.dj, fun b x e => ?_, fun b x e => ?_, fun b x e => ?_, s.dz, s.df⟩
  · have e' : upd F.p p o b = some x := e
    by_cases q : b = p
    · subst q; rw [upd_same] at e'; cases e'; exact h
    · rw [upd_ne q] at e'; exact s.pz _ _ e'
  · have e' : upd F.p p o b = some x := e
    by_cases q : b = p
    · subst q; rw [upd_same] at e'; cases e'; exact ⟨hf, hm, ht, hd⟩
    · rw [upd_ne q] at e'; exact s.pf _ _ e'
  · obtain ⟨v, a1, a2⟩ := s.mu b x e
    exact ⟨v, a1, MR.monoS (F := F) (show Sm F (F.hide p o) from Sm.rfl' (F := F)) a2⟩
theorem SR.lenT (s : SR K F M H) {a : Addr} {xs : List V} (h : F.f a = some (.tup xs)) : xs.length ≤ sizeLine := s.ok _ _ h
theorem KTup.len {a : Addr} {xs : List V} (h : KTup K a xs) : xs.length ≤ sizeLine := by
  obtain ⟨o, its, n, _, _, _, hz, r, _⟩ := h
  have e := r.length
  simp only [Array.length_toList] at e
  omega
theorem SR.sqT (s : SR K F M H) {a : Addr} {xs : List V} (h : F.f a = some (.tup xs)) : SqT K H a xs := .inl (.inl (s.fz _ _ h))
theorem KTup.sqT {a : Addr} {xs : List V} (h : KTup K a xs) : SqT K H a xs := by
  obtain ⟨o, its, n, h1, h2, h3, h4, h5, _⟩ := h
  exact .inr ⟨o, its, n, h1, h2, h3, h4, h5⟩
theorem KtF.sq {a : Addr} {xs : List V} (h : KtF K F a xs) (e : Same F.f H) : SqT K H a xs := h.elim (fun z => z.sqT) fun ⟨o, z, _⟩ => .inl (.inr ⟨o, e _ _ z⟩)
theorem SR.sqK (s : SR K F M H) {a : Addr} {xs : List V} (h : KtF K F a xs) : SqT K H a xs := h.sq s.fz
theorem SR.lenK (s : SR K F M H) {a : Addr} {xs : List V} (h : KtF K F a xs) : xs.length ≤ sizeLine := h.elim (fun z => z.len) fun ⟨o, z, _⟩ => s.ok _ _ z
theorem SR.lenL (s : SR K F M H) {a : Addr} {xs : List V} (h : SqL K F.f a xs) : xs.length ≤ sizeLine := by
  rcases h with (h | ⟨o, h⟩) | ⟨o, its, n, _, _, _, _, hz, r⟩
  · exact s.ok _ _ h
  · exact s.ok _ _ h
  · have e := r.length
    simp only [Array.length_toList] at e
    omega
end

/-! ### readings -/
abbrev DK := D → Mp → Prop
abbrev DTE := G → Mp → DK → Prop
abbrev DTT := G → Mp → (Bool → Mp → Prop) → Prop
abbrev DTA := G → Mp → (List D → Mp → Prop) → Prop
section
variable (K : PySem.W.Frag) (F0 : FZ)
def LE (t' : DTE) (t : TE) : Prop := ∀ (F : FZ) (γ : G) (M : Mp) (σ : L2.St) (H : Hp) (Q' : DK) (Q : VK), Bs F0 F → SR K F M H → GR K F γ σ → t' γ M Q' →
  (∀ F1 d v M1 H1, FLe F F1 → SR K F1 M1 H1 → Rp K F1 d v → Q' d M1 → Q v H1) → t σ H Q
def LT (t' : DTT) (t : TT) : Prop := ∀ (F : FZ) (γ : G) (M : Mp) (σ : L2.St) (H : Hp) (Q' : Bool → Mp → Prop) (Q : Bool → Hp → Prop), Bs F0 F → SR K F M H → GR K F γ σ → t' γ M Q' →
  (∀ F1 b M1 H1, FLe F F1 → SR K F1 M1 H1 → Q' b M1 → Q b H1) → t σ H Q
def LA (t' : DTA) (t : TA) : Prop := ∀ (F : FZ) (γ : G) (M : Mp) (σ : L2.St) (H : Hp) (Q' : List D → Mp → Prop) (Q : List V → Hp → Prop), Bs F0 F → SR K F M H → GR K F γ σ → t' γ M Q' →
  (∀ F1 ds vs M1 H1, FLe F F1 → SR K F1 M1 H1 → RpL K F1 ds vs → Q' ds M1 → Q vs H1) → t σ H Q
end
structure DE (X : Cx) (F0 : FZ) (e : Expr) (t : TE) (t' : DTE) : Prop where
  pe : PE X e t
  le : LE X.K F0 t' t
structure DT (X : Cx) (F0 : FZ) (e : Expr) (t : TT) (t' : DTT) : Prop where
  pt : PT X e t
  le : LT X.K F0 t' t
structure DW (X : Cx) (F0 : FZ) (e : Expr) (t : TT) (t' : DTT) : Prop where
  pw : PW X e t
  le : LT X.K F0 t' t
structure DA (X : Cx) (F0 : FZ) (es : List Expr) (t : TA) (t' : DTA) : Prop where
  pa : PA X es t
  le : LA X.K F0 t' t

/-! ### names, constants -/
def dVar (i : Nat) : DTE := fun γ M Q => match γ[i]? with
  | some (some d) => Q d M
  | _ => False
def dC (d : D) : DTE := fun _ M Q => Q d M
section
variable {X : Cx} {K : PySem.W.Frag} {F0 : FZ}
theorem le_var (i : Nat) : LE K F0 (dVar i) (tVar i) := by
  intro F γ M σ H Q' Q e0 s g h k
  unfold dVar at h
  split at h
  · rename_i d e
    obtain ⟨v, e1, r⟩ := g.at' i d e
    exact ⟨v, e1, k F d v M H (FLe.refl F) s r h⟩
  · exact h.elim
theorem de_var (i : Nat) {x : Str} {pos : Pos} (hN : X.N[i]? = some x := by rfl) (hv : Vis X.env.scope x := by first | exact Or.inl rfl | exact Or.inr (Or.inl rfl) | exact Or.inr (Or.inr rfl)) (hd : (x == ("__debug__" : Str)) = false := by decide)
    (hcd : (x == ("__classdict__" : Str)) = false := by decide) : DE X F0 (.Name x pos) (tVar i) (dVar i) := ⟨pe_var hN hv hd hcd, le_var i⟩
theorem le_c {d : D} {v : V} (h : ∀ F, Rp K F d v) : LE K F0 (dC d) (tC v) := fun F γ M σ H Q' Q e0 s g q k => k F d v M H (FLe.refl F) s (h F) q
theorem de_int {i j pos} : DE X F0 (.Constant (.int i) j pos) (tC (.int i)) (dC (.int i)) := ⟨pe_int, le_c fun _ => .int i⟩
theorem de_bl {b j pos} : DE X F0 (.Constant (.bool b) j pos) (tC (.bl b)) (dC (.bl b)) := ⟨pe_bl, le_c fun _ => .bl b⟩
theorem de_non {j pos} : DE X F0 (.Constant .none j pos) (tC .non) (dC .non) := ⟨pe_non, le_c fun _ => .non⟩
theorem de_str {x j pos} : DE X F0 (.Constant (.str x) j pos) (tC (.str x)) (dC (.str x)) := ⟨pe_str, le_c fun _ => .str x⟩
theorem de_globI {x : Str} {i : Int} {t : Tok} {pos : Pos} (hm : X.mg x = some (.int i t)) (hg : Gl X x := by rfl) (hd : (x == ("__debug__" : Str)) = false := by decide) : DE X F0 (.Name x pos) (tC (.int i)) (dC (.int i)) :=
  ⟨pe_glob hg hm ⟨t, rfl⟩ hd, le_c fun _ => .int i⟩
/-! ### operators -/
abbrev DR2 := D → D → Mp → DK → Prop
def L2r (K : PySem.W.Frag) (F0 : FZ) (r' : DR2) (r : R2) : Prop := ∀ (F : FZ) (M : Mp) (H : Hp) (d e : D) (x y : V) (Q' : DK) (Q : VK), Bs F0 F → SR K F M H → Rp K F d x → Rp K F e y → r' d e M Q' →
  (∀ F1 d v M1 H1, FLe F F1 → SR K F1 M1 H1 → Rp K F1 d v → Q' d M1 → Q v H1) → r x y H Q
def dOp (r : DR2) (ta tb : DTE) : DTE := fun γ M Q => ta γ M fun x M1 => tb γ M1 fun y M2 => r x y M2 Q
theorem le_op {r' : DR2} {r : R2} {ta' tb' : DTE} {ta tb : TE} (hr : L2r K F0 r' r) (ha : LE K F0 ta' ta) (hb : LE K F0 tb' tb) : LE K F0 (dOp r' ta' tb') (tOp r ta tb) := by
  intro F γ M σ H Q' Q e0 s g h k
  refine ha F γ M σ H _ _ e0 s g h fun F1 d v M1 H1 e1 s1 r1 q1 => ?_
  refine hb F1 γ M1 σ H1 _ _ (e0.tr e1) s1 (g.mono e1) q1 fun F2 d2 v2 M2 H2 e2 s2 r2 q2 => ?_
  exact hr F2 M2 H2 d d2 v v2 Q' Q ((e0.tr e1).tr e2) s2 (r1.mono e2) r2 q2 fun F3 d3 v3 M3 H3 e3 s3 r3 q3 => k F3 d3 v3 M3 H3 ((e1.trans e2).trans e3) s3 r3 q3
variable {a b : Expr} {ta tb : TE} {ta' tb' : DTE} {pos : Pos}
theorem de_op {op : Operator} {r : R2} {r' : DR2} (ho : OpR X (binaryOp op) r) (hr : L2r X.K F0 r' r) (ha : DE X F0 a ta ta') (hb : DE X F0 b tb tb') : DE X F0 (.BinOp a op b pos) (tOp r ta tb) (dOp r' ta' tb') :=
  ⟨pe_op ho ha.pe hb.pe, le_op hr ha.le hb.le⟩
theorem de_cmp {op : CmpOp} {r : R2} {r' : DR2} (ho : OpR X (compareOp op) r) (hr : L2r X.K F0 r' r) (ha : DE X F0 a ta ta') (hb : DE X F0 b tb tb') (hm : behindInMarks op b = false) : DE X F0 (.Compare a [op] [b] pos) (tOp r ta tb) (dOp r' ta' tb') :=
  ⟨pe_cmpR ho ha.pe hb.pe hm, le_op hr ha.le hb.le⟩
def dTest (t : DTE) : DTT := fun γ M Q => t γ M fun x M' => match x with
  | .bl k => Q k M'
  | _ => False
theorem le_test {t' : DTE} {t : TE} (h : LE K F0 t' t) : LT K F0 (dTest t') (tTest t) := by
  intro F γ M σ H Q' Q e0 s g q k
  refine h F γ M σ H _ _ e0 s g q fun F1 d v M1 H1 e1 s1 r1 q1 => ?_
  split at q1
  · cases r1
    exact ⟨_, rfl, k F1 _ M1 H1 e1 s1 q1⟩
  · exact q1.elim
theorem dt_cmp {op : CmpOp} {r : R2} {r' : DR2} (ho : OpR X (compareOp op) r) (hr : L2r X.K F0 r' r) (ha : DE X F0 a ta ta') (hb : DE X F0 b tb tb') (hm : behindInMarks op b = false) : DT X F0 (.Compare a [op] [b] pos) (tTest (tOp r ta tb)) (dTest (dOp r' ta' tb')) :=
  ⟨pt_cmpR ho ha.pe hb.pe hm, le_test (le_op hr ha.le hb.le)⟩
theorem dt_val {e : Expr} {t : TE} {t' : DTE} (h : DE X F0 e t t') (he : ∀ whole, isTrue e X.env whole = (do let v ← whole; standAt e.pos; holding [v] (truthy v)) := by intro _; rfl) : DT X F0 e (tTest t) (dTest t') :=
  ⟨pt_val h.pe he, le_test h.le⟩

/-- two ints -/
def dII (g : Int → Int → D) : DR2 := fun x y M Q => match x, y with
  | .int i, .int j => Q (g i j) M
  | _, _ => False
def dIC (C : Int → Int → Prop) (g : Int → Int → D) : DR2 := fun x y M Q => match x, y with
  | .int i, .int j => C i j ∧ Q (g i j) M
  | _, _ => False
theorem l2_II {g' : Int → Int → D} {g : Int → Int → V} (h : ∀ F i j, Rp K F (g' i j) (g i j)) : L2r K F0 (dII g') (rI0 g) := by
  intro F M H d e x y Q' Q e0 s r1 r2 q k
  unfold dII at q
  split at q
  · cases r1; cases r2
    exact ⟨_, _, rfl, rfl, k F _ _ M H (FLe.refl F) s (h F _ _) q⟩
  · exact q.elim
theorem l2_IC {C : Int → Int → Prop} {g' : Int → Int → D} {g : Int → Int → V} (h : ∀ F i j, Rp K F (g' i j) (g i j)) : L2r K F0 (dIC C g') (rI C g) := by
  intro F M H d e x y Q' Q e0 s r1 r2 q k
  unfold dIC at q
  split at q
  · cases r1; cases r2
    exact ⟨_, _, rfl, rfl, q.1, k F _ _ M H (FLe.refl F) s (h F _ _) q.2⟩
  · exact q.elim
theorem de_add (ha : DE X F0 a ta ta') (hb : DE X F0 b tb tb') : DE X F0 (.BinOp a .Add b pos) (tOp (rI0 fun i j => .int (i + j)) ta tb) (dOp (dII fun i j => .int (i + j)) ta' tb') := de_op op_add (l2_II fun _ _ _ => .int _) ha hb
theorem de_sub (ha : DE X F0 a ta ta') (hb : DE X F0 b tb tb') : DE X F0 (.BinOp a .Sub b pos) (tOp (rI0 fun i j => .int (i - j)) ta tb) (dOp (dII fun i j => .int (i - j)) ta' tb') := de_op op_sub (l2_II fun _ _ _ => .int _) ha hb
theorem de_mul (ha : DE X F0 a ta ta') (hb : DE X F0 b tb tb') : DE X F0 (.BinOp a .Mult b pos) (tOp (rI CMul fun i j => .int (i * j)) ta tb) (dOp (dIC CMul fun i j => .int (i * j)) ta' tb') := de_op op_mul (l2_IC fun _ _ _ => .int _) ha hb
theorem de_fdiv (ha : DE X F0 a ta ta') (hb : DE X F0 b tb tb') : DE X F0 (.BinOp a .FloorDiv b pos) (tOp (rI CDiv fun i j => .int (i / j)) ta tb) (dOp (dIC CDiv fun i j => .int (i / j)) ta' tb') := de_op op_fdiv (l2_IC fun _ _ _ => .int _) ha hb
theorem de_mod (ha : DE X F0 a ta ta') (hb : DE X F0 b tb tb') : DE X F0 (.BinOp a .Mod b pos) (tOp (rI (fun _ j => 0 < j) fun i j => .int (i % j)) ta tb) (dOp (dIC (fun _ j => 0 < j) fun i j => .int (i % j)) ta' tb') := de_op op_mod (l2_IC fun _ _ _ => .int _) ha hb
theorem de_pow (ha : DE X F0 a ta ta') (hb : DE X F0 b tb tb') : DE X F0 (.BinOp a .Pow b pos) (tOp (rI CPow fun i j => .int (i ^ j.toNat)) ta tb) (dOp (dIC CPow fun i j => .int (i ^ j.toNat)) ta' tb') := de_op op_pow (l2_IC fun _ _ _ => .int _) ha hb
end
end DL

set_option maxRecDepth 100000
set_option maxHeartbeats 2000000
namespace DL
open PySem PySem.Spec PyProof.Rows L2

section
variable {X : Cx} {K : PySem.W.Frag} {F0 : FZ} {a b e : Expr} {ta tb te : TE} {ta' tb' te' : DTE} {pos : Pos}
/-! ### comparisons of ints, chains -/
theorem de_lt (ha : DE X F0 a ta ta') (hb : DE X F0 b tb tb') : DE X F0 (.Compare a [.Lt] [b] pos) (tOp (rI0 fun i j => .bl (decide (i < j))) ta tb) (dOp (dII fun i j => .bl (decide (i < j))) ta' tb') := de_cmp op_lt (l2_II fun _ _ _ => .bl _) ha hb (nomark _)
def dChain (r r' : DR2) (ta tb tc : DTE) : DTE := fun γ M Q => ta γ M fun x M1 => tb γ M1 fun y M2 => r x y M2 fun z M3 => match z with
  | .bl true => tc γ M3 fun w M4 => r' y w M4 Q
  | .bl false => Q (.bl false) M3
  | _ => False
end

/-! ### equality of data -/
mutual
def D.py : D → PyData
  | .non => .none
  | .bl b => .bool b
  | .int i => .int i
  | .str x => .str x
  | .tup l => .tuple (D.pyL l)
  | .lst l => .list (D.pyL l)
  | .kt l => .tuple (D.pyL l)
  | .ref _ => .none
  | .ty _ => .none
  | .ls _ => .none
  | .dk _ _ => .none
  | .dt _ _ => .none
def D.pyL : List D → List PyData
  | [] => []
  | d :: r => D.py d :: D.pyL r
end
mutual
/-- plain data, nested at most so deep -/
def D.ok : D → Nat → Bool
  | .non, _ => true
  | .bl _, _ => true
  | .int _, _ => true
  | .str x, _ => PyData.strOk x
  | .tup l, 0 => false
  | .tup l, n + 1 => D.okL l n
  | .lst l, 0 => false
  | .lst l, n + 1 => D.okL l n
  | .kt l, 0 => false
  | .kt l, n + 1 => D.okL l n
  | .ref _, _ => false
  | .ty _, _ => false
  | .ls _, _ => false
  | .dk _ _, _ => false
  | .dt _ _, _ => false
def D.okL : List D → Nat → Bool
  | [], _ => true
  | d :: r, n => D.ok d n && D.okL r n
end
theorem okL_iff {n : Nat} : ∀ {l : List D}, D.okL l n = true ↔ ∀ d ∈ l, D.ok d n = true
  | [] => by simp [D.okL]
  | d :: r => by simp [D.okL, okL_iff (l := r)]
mutual
theorem D.ok_lay : ∀ {d : D} {n : Nat}, d.ok n = true → d.py.canLay0 = true ∧ d.py.depth ≤ n
  | .non, _, _ => by simp [D.py, PyData.canLay0, PyData.depth]
  | .bl _, _, _ => by simp [D.py, PyData.canLay0, PyData.depth]
  | .int _, _, _ => by simp [D.py, PyData.canLay0, PyData.depth]
  | .str x, _, h => by
    have h' : PyData.strOk x = true := by simpa [D.ok] using h
    simp [D.py, PyData.canLay0, PyData.depth, h']
  | .tup l, 0, h => by simp [D.ok] at h
  | .tup l, n + 1, h => by
    have h' : D.okL l n = true := by simpa [D.ok] using h
    obtain ⟨a, b⟩ := D.okL_lay h'
    simp only [D.py, PyData.canLay0, PyData.depth]
    exact ⟨a, by omega⟩
  | .lst l, 0, h => by simp [D.ok] at h
  | .lst l, n + 1, h => by
    have h' : D.okL l n = true := by simpa [D.ok] using h
    obtain ⟨a, b⟩ := D.okL_lay h'
    simp only [D.py, PyData.canLay0, PyData.depth]
    exact ⟨a, by omega⟩
  | .kt l, 0, h => by simp [D.ok] at h
  | .kt l, n + 1, h => by
    have h' : D.okL l n = true := by simpa [D.ok] using h
    obtain ⟨a, b⟩ := D.okL_lay h'
    simp only [D.py, PyData.canLay0, PyData.depth]
    exact ⟨a, by omega⟩
  | .ref _, _, h => by simp [D.ok] at h
  | .ty _, _, h => by simp [D.ok] at h
  | .ls _, _, h => by simp [D.ok] at h
  | .dk _ _, _, h => by simp [D.ok] at h
  | .dt _ _, _, h => by simp [D.ok] at h
theorem D.okL_lay : ∀ {l : List D} {n : Nat}, D.okL l n = true → PyData.canLayAll0 (D.pyL l) = true ∧ PyData.depthAll (D.pyL l) ≤ n
  | [], _, _ => by simp [D.pyL, PyData.canLayAll0, PyData.depthAll]
  | d :: r, n, h => by
    simp only [D.okL, Bool.and_eq_true] at h
    obtain ⟨a, b⟩ := D.ok_lay h.1
    obtain ⟨a', b'⟩ := D.okL_lay h.2
    simp only [D.pyL, PyData.canLayAll0, PyData.depthAll, a, a', Bool.and_self, true_and]
    omega
end
theorem D.ok_shaped {d : D} (h : d.ok 60 = true) : SeqAt.shaped d.py = true := by
  obtain ⟨a, b⟩ := D.ok_lay h
  show (d.py.canLay0 && decide (d.py.depth ≤ 64)) = true
  rw [a, Bool.true_and]
  exact decide_eq_true (by omega)
mutual
theorem Rp.dp {K : PySem.W.Frag} {F : FZ} {H : Hp} (e : Same F.f H) : ∀ {d : D} {v : V} {n : Nat}, Rp K F d v → d.ok n = true → Dp K H v d.py
  | _, _, _, .non, _ => by simp only [D.py]; exact .non
  | _, _, _, .bl b, _ => by simp only [D.py]; exact .bl b
  | _, _, _, .int i, _ => by simp only [D.py]; exact .int i
  | _, _, _, .str x, _ => by simp only [D.py]; exact .str x
  | _, _, _, .ref a, h => by simp [D.ok] at h
  | _, _, _, .ty n, h => by simp [D.ok] at h
  | _, _, _, .ls _ _, h => by simp [D.ok] at h
  | _, _, _, .dk _ _, h => by simp [D.ok] at h
  | _, _, _, .dt _ _, h => by simp [D.ok] at h
  | _, _, 0, .tup t r, h => by simp [D.ok] at h
  | _, _, n + 1, .tup t r, h => by
    simp only [D.py]
    exact .tup (.inl (.inl (e _ _ t))) (RpL.dp e r (n := n) (by simpa [D.ok] using h))
  | _, _, 0, .kt t r, h => by simp [D.ok] at h
  | _, _, n + 1, .kt t r, h => by
    simp only [D.py]
    exact .tup (t.sq e) (RpL.dp e r (n := n) (by simpa [D.ok] using h))
  | _, _, 0, .lst t r, h => by simp [D.ok] at h
  | _, _, n + 1, .lst t r, h => by
    simp only [D.py]
    exact .lst (SqL.of (e _ _ t)) (RpL.dp e r (n := n) (by simpa [D.ok] using h))
theorem RpL.dp {K : PySem.W.Frag} {F : FZ} {H : Hp} (e : Same F.f H) : ∀ {ds : List D} {xs : List V} {n : Nat}, RpL K F ds xs → D.okL ds n = true → DpAll K H xs (D.pyL ds)
  | _, _, _, .nil, _ => by simp only [D.pyL]; exact .nil
  | _, _, n, .cons h t, k => by
    simp only [D.okL, Bool.and_eq_true] at k
    simp only [D.pyL]
    exact .cons (Rp.dp e h k.1) (RpL.dp e t k.2)
end
/-- == of data -/
def D.eq (x y : D) : Bool := PyData.eqv x.py y.py
def D.eqL (x y : List D) : Bool := PyData.eqvAll (D.pyL x) (D.pyL y)
@[simp] theorem D.eq_int (i j : Int) : D.eq (.int i) (.int j) = (i == j) := by simp only [D.eq, D.py, PyData.eqv]
@[simp] theorem D.eq_str (i j : Str) : D.eq (.str i) (.str j) = (i == j) := by simp only [D.eq, D.py, PyData.eqv]
@[simp] theorem D.eq_tup (i j : List D) : D.eq (.tup i) (.tup j) = D.eqL i j := by simp only [D.eq, D.eqL, D.py, PyData.eqv]
@[simp] theorem D.eq_lst (i j : List D) : D.eq (.lst i) (.lst j) = D.eqL i j := by simp only [D.eq, D.eqL, D.py, PyData.eqv]
@[simp] theorem D.eqL_nil : D.eqL [] [] = true := by simp only [D.eqL, D.pyL, PyData.eqvAll]
@[simp] theorem D.eqL_cons (x y : D) (r s : List D) : D.eqL (x :: r) (y :: s) = (D.eq x y && D.eqL r s) := by simp only [D.eqL, D.eq, D.pyL, PyData.eqvAll]
@[simp] theorem D.eqL_nc (y : D) (s : List D) : D.eqL [] (y :: s) = false := by simp only [D.eqL, D.pyL, PyData.eqvAll]
@[simp] theorem D.eqL_cn (y : D) (s : List D) : D.eqL (y :: s) [] = false := by simp only [D.eqL, D.pyL, PyData.eqvAll]
@[simp] theorem D.eq_bl (i j : Bool) : D.eq (.bl i) (.bl j) = (i == j) := by simp only [D.eq, D.py, PyData.eqv]
@[simp] theorem D.eq_nn : D.eq .non .non = true := by simp only [D.eq, D.py, PyData.eqv]

section
variable {X : Cx} {K : PySem.W.Frag} {F0 : FZ} {a b e : Expr} {ta tb te : TE} {ta' tb' te' : DTE} {pos : Pos}
def dEq (neg : Bool) : DR2 := fun x y M Q => x.ok 60 = true ∧ y.ok 60 = true ∧ Q (.bl (if neg then !D.eq x y else D.eq x y)) M
theorem l2_eq : L2r K F0 (dEq false) (rEqD K) := by
  intro F M H d e x y Q' Q e0 s r1 r2 q k
  exact ⟨d.py, e.py, r1.dp s.fz q.1, r2.dp s.fz q.2.1, D.ok_shaped q.1, D.ok_shaped q.2.1, k F _ _ M H (FLe.refl F) s (.bl _) q.2.2⟩
theorem l2_ne : L2r K F0 (dEq true) (rNeD K) := by
  intro F M H d e x y Q' Q e0 s r1 r2 q k
  exact ⟨d.py, e.py, r1.dp s.fz q.1, r2.dp s.fz q.2.1, D.ok_shaped q.1, D.ok_shaped q.2.1, k F _ _ M H (FLe.refl F) s (.bl _) q.2.2⟩
theorem de_eq {n : Nat} (hr : Room n X.A) (ha : DE X F0 a ta ta') (hb : DE X F0 b tb tb') : DE X F0 (.Compare a [.Eq] [b] pos) (tOp (rEqD X.K) ta tb) (dOp (dEq false) ta' tb') := de_cmp (op_eqD hr.units) l2_eq ha hb (nomark _)
/-! ### and, or, not, if .. else -/
def dAnd (t u : DTT) : DTT := fun γ M Q => t γ M fun c M1 => if c = true then u γ M1 Q else Q false M1
def dOr (t u : DTT) : DTT := fun γ M Q => t γ M fun c M1 => if c = true then Q true M1 else u γ M1 Q
def dNot (t : DTT) : DTT := fun γ M Q => t γ M fun c M1 => Q (!c) M1
variable {tA tB : TT} {tA' tB' : DTT} {rest : List Expr}
theorem dw_and1 (ha : DT X F0 a tA tA') : DW X F0 (.BoolOp .And [a] pos) tA tA' := ⟨pw_and1 ha.pt, ha.le⟩
theorem dw_or1 (ha : DT X F0 a tA tA') : DW X F0 (.BoolOp .Or [a] pos) tA tA' := ⟨pw_or1 ha.pt, ha.le⟩
theorem lt_and (ha : LT K F0 tA' tA) (hb : LT K F0 tB' tB) : LT K F0 (dAnd tA' tB') (tAnd tA tB) := by
  intro F γ M σ H Q' Q e0 s g h k
  refine ha F γ M σ H _ _ e0 s g h fun F1 c M1 H1 e1 s1 q1 => ?_
  cases c with
  | true => exact hb F1 γ M1 σ H1 _ _ (e0.tr e1) s1 (g.mono e1) q1 fun F2 d M2 H2 e2 s2 q2 => k F2 d M2 H2 (e1.trans e2) s2 q2
  | false => exact k F1 false M1 H1 e1 s1 q1
theorem lt_or (ha : LT K F0 tA' tA) (hb : LT K F0 tB' tB) : LT K F0 (dOr tA' tB') (tOr tA tB) := by
  intro F γ M σ H Q' Q e0 s g h k
  refine ha F γ M σ H _ _ e0 s g h fun F1 c M1 H1 e1 s1 q1 => ?_
  cases c with
  | true => exact k F1 true M1 H1 e1 s1 q1
  | false => exact hb F1 γ M1 σ H1 _ _ (e0.tr e1) s1 (g.mono e1) q1 fun F2 d M2 H2 e2 s2 q2 => k F2 d M2 H2 (e1.trans e2) s2 q2
theorem lt_not (ha : LT K F0 tA' tA) : LT K F0 (dNot tA') (tNot tA) := by
  intro F γ M σ H Q' Q e0 s g h k
  exact ha F γ M σ H _ _ e0 s g h fun F1 c M1 H1 e1 s1 q1 => k F1 (!c) M1 H1 e1 s1 q1
theorem dw_and (ha : DT X F0 a tA tA') (hb : DW X F0 (.BoolOp .And (b :: rest) pos) tB tB') : DW X F0 (.BoolOp .And (a :: b :: rest) pos) (tAnd tA tB) (dAnd tA' tB') := ⟨pw_and ha.pt hb.pw, lt_and ha.le hb.le⟩
theorem dw_or (ha : DT X F0 a tA tA') (hb : DW X F0 (.BoolOp .Or (b :: rest) pos) tB tB') : DW X F0 (.BoolOp .Or (a :: b :: rest) pos) (tOr tA tB) (dOr tA' tB') := ⟨pw_or ha.pt hb.pw, lt_or ha.le hb.le⟩
theorem DW.dt {t : TT} {t' : DTT} (h : DW X F0 e t t') : DT X F0 e t t' := ⟨h.pw.pt, h.le⟩
theorem dt_not (ha : DT X F0 a tA tA') : DT X F0 (.UnaryOp .Not a pos) (tNot tA) (dNot tA') := ⟨pt_not ha.pt, lt_not ha.le⟩
end
end DL

set_option maxRecDepth 100000
set_option maxHeartbeats 2000000
namespace DL
open PySem PySem.Spec PyProof.Rows L2

/-! ### statements -/
structure DEnds where
  nx : G → Mp → Prop
  rt : DK
  bk : G → Mp → Prop := fun _ _ => False
  ct : G → Mp → Prop := fun _ _ => False
abbrev DTS := DEnds → G → Mp → Prop
structure ER (K : PySem.W.Frag) (F : FZ) (D' : DEnds) (D : Ends) : Prop where
  nx : ∀ F1 γ M σ H, FLe F F1 → SR K F1 M H → GR K F1 γ σ → D'.nx γ M → D.nx σ H
  rt : ∀ F1 d v M H, FLe F F1 → SR K F1 M H → Rp K F1 d v → D'.rt d M → D.rt v H
  bk : ∀ F1 γ M σ H, FLe F F1 → SR K F1 M H → GR K F1 γ σ → D'.bk γ M → D.bk σ H
  ct : ∀ F1 γ M σ H, FLe F F1 → SR K F1 M H → GR K F1 γ σ → D'.ct γ M → D.ct σ H
theorem ER.mono {K : PySem.W.Frag} {F F1 : FZ} {D' : DEnds} {D : Ends} (h : ER K F D' D) (e : FLe F F1) : ER K F1 D' D :=
  ⟨fun F2 γ M σ H e2 => h.nx F2 γ M σ H (e.trans e2), fun F2 d v M H e2 => h.rt F2 d v M H (e.trans e2), fun F2 γ M σ H e2 => h.bk F2 γ M σ H (e.trans e2), fun F2 γ M σ H e2 => h.ct F2 γ M σ H (e.trans e2)⟩
def LS (K : PySem.W.Frag) (F0 : FZ) (t' : DTS) (t : TS) : Prop := ∀ (F : FZ) (γ : G) (M : Mp) (σ : L2.St) (H : Hp) (D' : DEnds) (D : Ends), Bs F0 F → SR K F M H → GR K F γ σ → t' D' γ M → ER K F D' D → t D σ H
structure DS (X : Cx) (F0 : FZ) (st : Stmt) (t : TS) (t' : DTS) : Prop where
  ps : PS X st t
  le : LS X.K F0 t' t
structure DB (X : Cx) (F0 : FZ) (st : List Stmt) (t : TS) (t' : DTS) : Prop where
  ps : PSs X st t
  le : LS X.K F0 t' t

section
variable {X : Cx} {K : PySem.W.Frag} {F0 : FZ} {st : Stmt} {rest : List Stmt} {t u : TS} {t' u' : DTS} {e : Expr} {te : TE} {te' : DTE} {pos : Pos}
def dNext : DTS := fun D γ M => D.nx γ M
def dSeq (t u : DTS) : DTS := fun D γ M => t { D with nx := u D } γ M
theorem db_nil : DB X F0 [] tNext dNext := ⟨pss_nil, fun F γ M σ H D' D e0 s g q er => er.nx F γ M σ H (FLe.refl F) s g q⟩
theorem ls_seq (h1 : LS K F0 t' t) (h2 : LS K F0 u' u) : LS K F0 (dSeq t' u') (tSeq t u) := by
  intro F γ M σ H D' D e0 s g q er
  refine h1 F γ M σ H { D' with nx := u' D' } { D with nx := u D } e0 s g q ⟨fun F1 γ1 M1 σ1 H1 e1 s1 g1 q1 => ?_, er.rt, er.bk, er.ct⟩
  exact h2 F1 γ1 M1 σ1 H1 D' D (e0.tr e1) s1 g1 q1 (er.mono e1)
theorem db_cons (h1 : DS X F0 st t t') (h2 : DB X F0 rest u u') : DB X F0 (st :: rest) (tSeq t u) (dSeq t' u') := ⟨pss_cons h1.ps h2.ps, ls_seq h1.le h2.le⟩
theorem db_one (h1 : DS X F0 st t t') : DB X F0 [st] t t' := ⟨pss_one h1.ps, h1.le⟩
def dDrop (te : DTE) : DTS := fun D γ M => te γ M fun _ M1 => D.nx γ M1
theorem ds_expr (he : DE X F0 e te te') (hs : swapsWith e none pos.line X.env = pure false := by rfl) : DS X F0 (.Expr e pos) (tDrop te) (dDrop te') :=
  ⟨ps_expr he.pe hs, fun F γ M σ H D' D e0 s g q er => he.le F γ M σ H _ _ e0 s g q fun F1 d v M1 H1 e1 s1 r1 q1 => er.nx F1 γ M1 σ H1 e1 s1 (g.mono e1) q1⟩
def dRet (te : DTE) : DTS := fun D γ M => te γ M D.rt
theorem ds_ret (he : DE X F0 e te te') : DS X F0 (.Return (some e) pos) (tRet te) (dRet te') :=
  ⟨ps_ret he.pe, fun F γ M σ H D' D e0 s g q er => he.le F γ M σ H _ _ e0 s g q fun F1 d v M1 H1 e1 s1 r1 q1 => er.rt F1 d v M1 H1 e1 s1 r1 q1⟩
def dIfS (c : DTT) (t u : DTS) : DTS := fun D γ M => c γ M fun b M1 => if b = true then t D γ M1 else u D γ M1
theorem ds_if {c : Expr} {a b : List Stmt} {tc : TT} {tc' : DTT} (hc : DT X F0 c tc tc') (ha : DB X F0 a t t') (hb : DB X F0 b u u') : DS X F0 (.If c a b pos) (tIfS tc t u) (dIfS tc' t' u') := by
  refine ⟨ps_if hc.pt ha.ps hb.ps, fun F γ M σ H D' D e0 s g q er => ?_⟩
  refine hc.le F γ M σ H _ _ e0 s g q fun F1 c M1 H1 e1 s1 q1 => ?_
  cases c with
  | true => exact ha.le F1 γ M1 σ H1 D' D (e0.tr e1) s1 (g.mono e1) q1 (er.mono e1)
  | false => exact hb.le F1 γ M1 σ H1 D' D (e0.tr e1) s1 (g.mono e1) q1 (er.mono e1)
def dNever : DTS := fun _ _ _ => False
theorem ds_never : DS X F0 st tNever dNever := ⟨ps_never, fun F γ M σ H D' D e0 s g q er => q.elim⟩
/-- ghost: the list at a name is frozen -/
def dFrzS (i : Nat) (t : DTS) : DTS := fun D γ M => match γ[i]? with
  | some (some (.ref p)) => (match M p with
    | some (.lst ds) => t D (γ.set i (some (.lst ds))) (mdel M p)
    | _ => False)
  | _ => False
theorem GR.reset {F : FZ} {γ : G} {σ : L2.St} {d : D} {v : V} (h : GR K F γ σ) {i : Nat} (hv : σ[i]? = some (some v)) (r : Rp K F d v) : GR K F (γ.set i (some d)) σ := by
  refine ⟨by simp [h.len], fun j e q => ?_⟩
  by_cases hj : i = j
  · subst hj
    by_cases hl : i < γ.length
    · rw [List.getElem?_set_self hl] at q
      cases q
      exact ⟨v, hv, r⟩
    · rw [List.getElem?_eq_none (by simpa using hl)] at q
      cases q
  · rw [List.getElem?_set_ne hj] at q
    exact h.at' j e q
theorem db_frz {sts : List Stmt} (i : Nat) (h : DB X F0 sts t t') : DB X F0 sts t (dFrzS i t') := ⟨h.ps, fun F γ M σ H D' D e0 s g q er => by
  unfold dFrzS at q
  split at q
  · rename_i p e
    split at q
    · rename_i ds hm
      obtain ⟨xs, s1, e1, r1⟩ := s.freeze hm
      obtain ⟨v, hv, rv⟩ := g.at' i _ e
      cases rv
      exact h.le _ _ _ σ H D' D (e0.tr e1) s1 ((g.mono e1).reset hv r1) q (er.mono e1)
    · exact q.elim
  · exact q.elim⟩
end

/-! ### targets -/
abbrev DTG := D → G → Mp → (G → Mp → Prop) → Prop
abbrev DTGs := List D → G → Mp → (G → Mp → Prop) → Prop
def LG (K : PySem.W.Frag) (F0 : FZ) (g' : DTG) (g : TG) : Prop := ∀ (F : FZ) (γ : G) (M : Mp) (σ : L2.St) (H : Hp) (d : D) (v : V) (Q' : G → Mp → Prop) (Q : L2.St → Hp → Prop), Bs F0 F → SR K F M H → GR K F γ σ → Rp K F d v → g' d γ M Q' →
  (∀ F1 γ1 M1 σ1 H1, FLe F F1 → SR K F1 M1 H1 → GR K F1 γ1 σ1 → Q' γ1 M1 → Q σ1 H1) → g v σ H Q
def LGs (K : PySem.W.Frag) (F0 : FZ) (g' : DTGs) (g : TGs) : Prop := ∀ (F : FZ) (γ : G) (M : Mp) (σ : L2.St) (H : Hp) (d : List D) (v : List V) (Q' : G → Mp → Prop) (Q : L2.St → Hp → Prop), Bs F0 F → SR K F M H → GR K F γ σ → RpL K F d v → g' d γ M Q' →
  (∀ F1 γ1 M1 σ1 H1, FLe F F1 → SR K F1 M1 H1 → GR K F1 γ1 σ1 → Q' γ1 M1 → Q σ1 H1) → g v σ H Q
structure DG (X : Cx) (F0 : FZ) (tg : Expr) (t : TG) (t' : DTG) : Prop where
  pg : PG X tg t
  le : LG X.K F0 t' t
structure DGs (X : Cx) (F0 : FZ) (ts : List Expr) (t : TGs) (t' : DTGs) : Prop where
  pg : PGs X ts t
  le : LGs X.K F0 t' t
section
variable {X : Cx} {K : PySem.W.Frag} {F0 : FZ} {pos : Pos}
def hName (i : Nat) : DTG := fun d γ M Q => Q (γ.set i (some d)) M
theorem dg_name (i : Nat) {x : Str} (hN : X.N.Nodup) (hi : X.N[i]? = some x := by rfl) (hx : Loc X.env.scope x := by first | exact Or.inl rfl | exact Or.inr rfl) (hf : X.fn x = true ∨ X.env.scope.names.lookup x = some .local := by first | exact .inl rfl | exact .inr rfl | assumption) :
    DG X F0 (.Name x pos) (gName i) (hName i) :=
  ⟨pg_name hN hi hx hf, fun F γ M σ H d v Q' Q e0 s g r q k => k F _ M _ H (FLe.refl F) s (g.set r i) q⟩
def hNil : DTGs := fun ds γ M Q => match ds with
  | [] => Q γ M
  | _ => False
def hCons (t : DTG) (u : DTGs) : DTGs := fun ds γ M Q => match ds with
  | d :: r => t d γ M fun γ1 M1 => u r γ1 M1 Q
  | [] => False
theorem dgs_nil : DGs X F0 [] gNil hNil := ⟨pgs_nil, fun F γ M σ H d v Q' Q e0 s g r q k => by
  cases r with
  | nil => exact ⟨rfl, k F γ M σ H (FLe.refl F) s g q⟩
  | cons _ _ => exact False.elim q⟩
theorem dgs_cons {e : Expr} {es : List Expr} {t : TG} {t' : DTG} {u : TGs} {u' : DTGs} (h1 : DG X F0 e t t') (h2 : DGs X F0 es u u')
    (hs : (assignEach (e :: es) X.env).map (·.2) = assign e X.env :: (assignEach es X.env).map (·.2) := by rfl) : DGs X F0 (e :: es) (gCons t u) (hCons t' u') := ⟨pgs_cons h1.pg h2.pg hs, fun F γ M σ H d v Q' Q e0 s g r q k => by
  cases r with
  | nil => exact False.elim q
  | cons r1 r2 =>
    exact ⟨_, _, rfl, h1.le F γ M σ H _ _ _ _ e0 s g r1 q fun F1 γ1 M1 σ1 H1 e1 s1 g1 q1 => h2.le F1 γ1 M1 σ1 H1 _ _ _ _ (e0.tr e1) s1 g1 (r2.mono e1) q1 fun F2 γ2 M2 σ2 H2 e2 s2 g2 q2 => k F2 γ2 M2 σ2 H2 (e1.trans e2) s2 g2 q2⟩⟩
def hTup (n : Nat) (t : DTGs) : DTG := fun d γ M Q => match d with
  | .tup l => l.length = n ∧ t l γ M Q
  | _ => False
theorem dg_tup {es : List Expr} {k : Nat} {t : TGs} {t' : DTGs} {n : Nat} (hc : X.calm = true) (h : DGs X F0 es t t')
    (hn : (assignEach es X.env).length = n := by rfl) (hst : (assignEach es X.env).findIdx? (·.1) = none := by rfl) : DG X F0 (.Tuple es k pos) (gTup X.K n t) (hTup n t') := ⟨pg_tup hc h.pg hn hst, fun F γ M σ H d v Q' Q e0 s g r q kk => by
  unfold hTup at q
  split at q
  · cases r with
    | tup a b => exact ⟨_, _, rfl, s.sqT a, b.length ▸ q.1, h.le F γ M σ H _ _ _ _ e0 s g b q.2 kk⟩
  · exact q.elim⟩
/-- o[i] = v, by values -/
abbrev DTSet := D → D → D → Mp → (Mp → Prop) → Prop
def L3s (K : PySem.W.Frag) (F0 : FZ) (r' : DTSet) (r : TSet) : Prop := ∀ (F : FZ) (M : Mp) (H : Hp) (o i d : D) (x y v : V) (Q' : Mp → Prop) (Q : Hp → Prop), Bs F0 F → SR K F M H → Rp K F o x → Rp K F i y → Rp K F d v → r' o i d M Q' →
  (∀ F1 M1 H1, FLe F F1 → SR K F1 M1 H1 → Q' M1 → Q H1) → r x y v H Q
def hSub (to ti : DTE) (t : DTSet) : DTG := fun d γ M Q => to γ M fun o M1 => ti γ M1 fun i M2 => t o i d M2 fun M3 => Q γ M3
theorem dg_sub {o i : Expr} {to ti : TE} {to' ti' : DTE} {t : TSet} {t' : DTSet} (ho : DE X F0 o to to') (hi : DE X F0 i ti ti') (hs : PSet X t) (hl : L3s X.K F0 t' t)
    (ha : ∀ v, assign (.Subscript o i pos) X.env v = (do
      let ov ← holding [v] (eval o X.env)
      let iv ← holding [v, ov] (eval i X.env)
      standAt pos
      holding [v, ov, iv] (setItem ov iv v)
      release [v, ov, iv] []) := by intro _; rfl) : DG X F0 (.Subscript o i pos) (gSub to ti t) (hSub to' ti' t') := ⟨pg_sub ho.pe hi.pe hs ha, fun F γ M σ H d v Q' Q e0 s g r q k => by
  refine ho.le F γ M σ H _ _ e0 s g q fun F1 d1 v1 M1 H1 e1 s1 r1 q1 => ?_
  refine hi.le F1 γ M1 σ H1 _ _ (e0.tr e1) s1 (g.mono e1) q1 fun F2 d2 v2 M2 H2 e2 s2 r2 q2 => ?_
  exact hl F2 M2 H2 d1 d2 d v1 v2 v _ _ ((e0.tr e1).tr e2) s2 (r1.mono e2) r2 (r.mono (e1.trans e2)) q2 fun F3 M3 H3 e3 s3 q3 => k F3 γ M3 σ H3 ((e1.trans e2).trans e3) s3 (g.mono ((e1.trans e2).trans e3)) q3⟩
def dAsg (te : DTE) (g : DTG) : DTS := fun D γ M => te γ M fun x M1 => g x γ M1 D.nx
theorem ls_asg {te : TE} {te' : DTE} {g : TG} {g' : DTG} (he : LE K F0 te' te) (hg : LG K F0 g' g) : LS K F0 (dAsg te' g') (tAsg te g) := fun F γ M σ H D' D e0 s gr q er =>
  he F γ M σ H _ _ e0 s gr q fun F1 d v M1 H1 e1 s1 r1 q1 => hg F1 γ M1 σ H1 d v _ _ (e0.tr e1) s1 (gr.mono e1) r1 q1 fun F2 γ2 M2 σ2 H2 e2 s2 g2 q2 => er.nx F2 γ2 M2 σ2 H2 (e1.trans e2) s2 g2 q2
theorem ds_asg {tg e : Expr} {te : TE} {te' : DTE} {g : TG} {g' : DTG} (he : DE X F0 e te te') (hg : DG X F0 tg g g') (hs : swapsWithSole [tg] e pos.line X.env = pure false := by rfl) (hw : swappedStores [tg] e X.env = pure none := by rfl)
    (h1 : (assignEach [tg] X.env).map (·.2) = [assign tg X.env] := by rfl) : DS X F0 (.Assign [tg] e pos) (tAsg te g) (dAsg te' g') := ⟨ps_asg he.pe hg.pg hs hw h1, ls_asg he.le hg.le⟩
theorem ds_set (i : Nat) {x : Str} {e : Expr} {te : TE} {te' : DTE} {pos' : Pos} (hN : X.N.Nodup) (he : DE X F0 e te te') (hi : X.N[i]? = some x := by rfl) (hx : Loc X.env.scope x := by first | exact Or.inl rfl | exact Or.inr rfl)
    (hs : swapsWith e (some (.Name x pos')) pos.line X.env = pure false := by rfl) (hf : X.fn x = true ∨ X.env.scope.names.lookup x = some .local := by first | exact .inl rfl | exact .inr rfl | assumption) :
    DS X F0 (.Assign [.Name x pos'] e pos) (tAsg te (gName i)) (dAsg te' (hName i)) := ⟨ps_set hN hi hx he.pe hs hf, ls_asg he.le (dg_name (X := X) (F0 := F0) (pos := pos') i hN hi hx hf).le⟩
/-- x op= e -/
abbrev DTIp := D → D → Mp → DK → Prop
end

/-! ### loops -/
section
variable {X : Cx} {K : PySem.W.Frag} {F0 : FZ} {pos : Pos}
def dWhile (c : DTT) (tb : DTS) : DTS := fun D γ M => ∃ W : Nat → G → Mp → Prop, (∃ m, W m γ M) ∧ ∀ m γ M, W m γ M →
  c γ M fun b M1 => if b = true then tb { D with nx := fun γ' M' => ∃ m', m' < m ∧ W m' γ' M', ct := fun γ' M' => ∃ m', m' < m ∧ W m' γ' M', bk := D.nx } γ M1 else D.nx γ M1
theorem ds_while {c : Expr} {body : List Stmt} {tc : TT} {tc' : DTT} {tb : TS} {tb' : DTS} (hp : PassesOwn (model X.prog X.w) X.A X.env X.xe) (hc : DT X F0 c tc tc') (hb : DB X F0 body tb tb') : DS X F0 (.While c body [] pos) (tWhile tc tb) (dWhile tc' tb') := by
  refine ⟨ps_while hp hc.pt hb.ps, fun F γ M σ H D' D e0 s g q er => ?_⟩
  obtain ⟨W, ⟨m0, w0⟩, turn⟩ := q
  refine ⟨fun m σ H => ∃ F1 γ M, FLe F F1 ∧ SR X.K F1 M H ∧ GR X.K F1 γ σ ∧ W m γ M, ⟨m0, F, γ, M, FLe.refl F, s, g, w0⟩, ?_⟩
  rintro m σ1 H1 ⟨F1, γ1, M1, e1, s1, g1, w1⟩
  refine hc.le F1 γ1 M1 σ1 H1 _ _ (e0.tr e1) s1 g1 (turn m γ1 M1 w1) fun F2 b M2 H2 e2 s2 q2 => ?_
  cases b with
  | false => exact er.nx F2 γ1 M2 σ1 H2 (e1.trans e2) s2 (g1.mono e2) q2
  | true =>
    refine ⟨fun σ' H' => ∃ m', m' < m ∧ ∃ F1 γ M, FLe F F1 ∧ SR X.K F1 M H' ∧ GR X.K F1 γ σ' ∧ W m' γ M, fun σ' H' h => h, ?_⟩
    refine hb.le F2 γ1 M2 σ1 H2 _ _ ((e0.tr e1).tr e2) s2 (g1.mono e2) q2 ⟨?_, fun F3 d v M3 H3 e3 => er.rt F3 d v M3 H3 ((e1.trans e2).trans e3), fun F3 γ3 M3 σ3 H3 e3 => er.nx F3 γ3 M3 σ3 H3 ((e1.trans e2).trans e3), ?_⟩
    · rintro F3 γ3 M3 σ3 H3 e3 s3 g3 ⟨m', hm, w3⟩
      exact ⟨m', hm, F3, γ3, M3, (e1.trans e2).trans e3, s3, g3, w3⟩
    · rintro F3 γ3 M3 σ3 H3 e3 s3 g3 ⟨m', hm, w3⟩
      exact ⟨m', hm, F3, γ3, M3, (e1.trans e2).trans e3, s3, g3, w3⟩

abbrev DTI := G → Mp → (List D → Mp → Prop) → Prop
/-- a walk over known items -/
def JR (K : PySem.W.Frag) (F : FZ) (items : List D) (J : It) : Prop := ∀ (i : Nat) (F1 : FZ) (M1 : Mp) (H1 : Hp), Bj F F1 → SR K F1 M1 H1 →
  (items.length ≤ i → J.stop i H1) ∧ ∀ d, items[i]? = some d → J.go i H1 ∧ ∀ x H2, J.yld i H1 x H2 → ∃ F2, FLe F1 F2 ∧ SR K F2 M1 H2 ∧ Rp K F2 d x
def LI (K : PySem.W.Frag) (F0 : FZ) (wi' : DTI) (wi : TI) : Prop := ∀ (F : FZ) (γ : G) (M : Mp) (σ : L2.St) (H : Hp) (R' : List D → Mp → Prop) (R : It → Hp → Prop), Bs F0 F → SR K F M H → GR K F γ σ → wi' γ M R' →
  (∀ F1 items J M1 H1, FLe F F1 → SR K F1 M1 H1 → JR K F1 items J → R' items M1 → R J H1) → wi σ H R
structure DI (X : Cx) (F0 : FZ) (tg iter : Expr) (wi : TI) (wi' : DTI) : Prop where
  pi : PI X tg iter wi
  le : LI X.K F0 wi' wi
theorem JR.mono {F F1 : FZ} {items : List D} {J : It} (h : JR K F items J) (e : FLe F F1) : JR K F1 items J := fun i F2 M H e2 s => h i F2 M H (e.bj.trans e2) s
def dForI (g : DTG) (tb : DTS) (D0 : DEnds) (γ : G) (items : List D) (M1 : Mp) : Prop := ∃ I : Nat → G → Mp → Prop, I 0 γ M1 ∧
  (∀ i d γ M, items[i]? = some d → I i γ M → g d γ M fun γ1 M1 => tb { D0 with nx := I (i + 1), ct := I (i + 1), bk := D0.nx } γ1 M1) ∧ ∀ γ M, I items.length γ M → D0.nx γ M
def dFor (wi : DTI) (g : DTG) (tb : DTS) : DTS := fun D0 γ M => wi γ M fun items M1 => dForI g tb D0 γ items M1
theorem ds_for {tg iter : Expr} {body : List Stmt} {wi : TI} {wi' : DTI} {g : TG} {g' : DTG} {tb : TS} {tb' : DTS} (hp : PassesOwn (model X.prog X.w) X.A X.env X.xe) (hc : X.calm = true) (hi : DI X F0 tg iter wi wi') (hg : DG X F0 tg g g') (hb : DB X F0 body tb tb')
    (hs : ∀ x, foldedSetIterable iter X.env x = pure x := by intro _; rfl) : DS X F0 (.For tg iter body [] pos) (tFor wi g tb) (dFor wi' g' tb') := by
  refine ⟨ps_for hp hc hi.pi hg.pg hb.ps hs, fun F γ M σ H D' D0 e0 s gr q er => ?_⟩
  refine hi.le F γ M σ H _ _ e0 s gr q fun F1 items J M1 H1 e1 s1 j1 q1 => ?_
  obtain ⟨I, h0, step, fin⟩ := q1
  refine ⟨fun i m σ H => m = items.length - i ∧ i ≤ items.length ∧ ∃ F2 γ2 M2, FLe F1 F2 ∧ SR X.K F2 M2 H ∧ GR X.K F2 γ2 σ ∧ I i γ2 M2, ⟨items.length, by simp, Nat.zero_le _, F1, γ, M1, FLe.refl F1, s1, gr.mono e1, h0⟩, ?_⟩
  rintro i m σ2 H2 ⟨rfl, hi', F2, γ2, M2, e2, s2, g2, q2⟩
  have j2 := j1 i F2 M2 H2 e2.bj s2
  by_cases hlt : i < items.length
  · have hd : items[i]? = some items[i] := List.getElem?_eq_getElem hlt
    obtain ⟨go, y⟩ := j2.2 _ hd
    refine .inr ⟨go, fun σ' H' => ∃ F2 γ2 M2, FLe F1 F2 ∧ SR X.K F2 M2 H' ∧ GR X.K F2 γ2 σ' ∧ I (i + 1) γ2 M2, fun σ' H' h => ⟨items.length - (i + 1), by omega, rfl, hlt, h⟩, fun x H3 yy => ?_⟩
    obtain ⟨F3, e3, s3, r3⟩ := y x H3 yy
    refine hg.le F3 γ2 M2 σ2 H3 _ x _ _ ((e0.tr e1).tr (e2.trans e3)) s3 (g2.mono e3) r3 (step i _ γ2 M2 hd q2) fun F4 γ4 M4 σ4 H4 e4 s4 g4 q4 => ?_
    refine hb.le F4 γ4 M4 σ4 H4 _ _ (((e0.tr e1).tr (e2.trans e3)).tr e4) s4 g4 q4 ⟨?_, fun F5 d v M5 H5 e5 => er.rt F5 d v M5 H5 ((e1.trans ((e2.trans e3).trans e4)).trans e5), fun F5 γ5 M5 σ5 H5 e5 => er.nx F5 γ5 M5 σ5 H5 ((e1.trans ((e2.trans e3).trans e4)).trans e5), ?_⟩
    · intro F5 γ5 M5 σ5 H5 e5 s5 g5 q5
      exact ⟨F5, γ5, M5, (((e2.trans e3).trans e4).trans e5), s5, g5, q5⟩
    · intro F5 γ5 M5 σ5 H5 e5 s5 g5 q5
      exact ⟨F5, γ5, M5, (((e2.trans e3).trans e4).trans e5), s5, g5, q5⟩
  · have e : i = items.length := by omega
    subst e
    exact .inl ⟨j2.1 (Nat.le_refl _), er.nx F2 γ2 M2 σ2 H2 (e1.trans e2) s2 g2 (fin γ2 M2 q2)⟩
end
end DL

set_option maxRecDepth 100000
set_option maxHeartbeats 2000000
namespace DL
open PySem PySem.Spec PyProof.Rows L2

/-! ### argument lists, displays -/
section
variable {X : Cx} {K : PySem.W.Frag} {F0 : FZ} {a b e : Expr} {es : List Expr} {ta tb te : TE} {ta' tb' te' : DTE} {t : TA} {t' : DTA} {pos : Pos}
def dNil : DTA := fun _ M Q => Q [] M
def dCons (ta : DTE) (tr : DTA) : DTA := fun γ M Q => ta γ M fun x M1 => tr γ M1 fun xs M2 => Q (x :: xs) M2
theorem da_nil : DA X F0 [] tNil dNil := ⟨pa_nil, fun F γ M σ H Q' Q e0 s g q k => k F [] [] M H (FLe.refl F) s .nil q⟩
theorem da_cons (ha : DE X F0 e te te') (hr : DA X F0 es t t') (hs : starEach (e :: es) X.env = (false, eval e X.env) :: starEach es X.env := by rfl) : DA X F0 (e :: es) (tCons te t) (dCons te' t') :=
  ⟨pa_cons ha.pe hr.pa hs, fun F γ M σ H Q' Q e0 s g q k => ha.le F γ M σ H _ _ e0 s g q fun F1 d v M1 H1 e1 s1 r1 q1 =>
    hr.le F1 γ M1 σ H1 _ _ (e0.tr e1) s1 (g.mono e1) q1 fun F2 ds vs M2 H2 e2 s2 r2 q2 => k F2 _ _ M2 H2 (e1.trans e2) s2 (.cons (r1.mono e2) r2) q2⟩
def dTup (t : DTA) : DTE := fun γ M Q => t γ M fun ds M1 => ds.length ≤ sizeLine ∧ Q (.tup ds) M1
def dLst (t : DTA) : DTE := fun γ M Q => t γ M fun ds M1 => ds.length ≤ sizeLine ∧ Q (.lst ds) M1
def dLstM (t : DTA) : DTE := fun γ M Q => t γ M fun ds M1 => ds.length ≤ sizeLine ∧ ∀ p, M1 p = none → Q (.ref p) (mset M1 p (.lst ds))
theorem de_tup {x1} (h : DA X F0 es t t') : DE X F0 (.Tuple es x1 pos) (tTup t) (dTup t') := ⟨pe_tup h.pa, fun F γ M σ H Q' Q e0 s g q k => by
  refine h.le F γ M σ H _ _ e0 s g q fun F1 ds vs M1 H1 e1 s1 r1 q1 => ?_
  have hl : vs.length ≤ sizeLine := r1.length ▸ q1.1
  refine ⟨hl, fun p hp => ?_⟩
  have e2 := same_upd (o := .tup vs) (s1.freeF hp)
  exact k _ _ _ _ _ (e1.trans e2) (s1.newF hp hl) (.tup upd_same (r1.mono e2)) q1.2⟩
theorem de_lst (h : DA X F0 es t t') : DE X F0 (.List es pos) (tLst t) (dLst t') := ⟨pe_lst h.pa, fun F γ M σ H Q' Q e0 s g q k => by
  refine h.le F γ M σ H _ _ e0 s g q fun F1 ds vs M1 H1 e1 s1 r1 q1 => ?_
  have hl : vs.length ≤ sizeLine := r1.length ▸ q1.1
  refine ⟨hl, fun p hp => ?_⟩
  have e2 := same_upd (o := .lst vs) (s1.freeF hp)
  exact k _ _ _ _ _ (e1.trans e2) (s1.newF hp hl) (.lst upd_same (r1.mono e2)) q1.2⟩
theorem de_lstM (h : DA X F0 es t t') : DE X F0 (.List es pos) (tLst t) (dLstM t') := ⟨pe_lst h.pa, fun F γ M σ H Q' Q e0 s g q k => by
  refine h.le F γ M σ H _ _ e0 s g q fun F1 ds vs M1 H1 e1 s1 r1 q1 => ?_
  have hl : vs.length ≤ sizeLine := r1.length ▸ q1.1
  refine ⟨hl, fun p hp => ?_⟩
  exact k F1 _ _ _ _ e1 (s1.putN hp (.lst r1 hl)) (.ref p) (q1.2 p (s1.freeM hp))⟩
end

/-! ### dicts as told -/
section
variable {κ : Type} [DecidableEq κ]
def dval (kvs : List (κ × D)) (k : κ) : Option D := (kvs.find? fun kv => decide (kv.1 = k)).map (·.2)
def dput (kvs : List (κ × D)) (k : κ) (v : D) : List (κ × D) := if (dval kvs k).isSome = true then kvs.map fun kv => if kv.1 = k then (kv.1, v) else kv else kvs ++ [(k, v)]
end
def keyOf : D → Option Key
  | .int i => some (.inl i)
  | .str x => some (.inr x)
  | _ => none
def keysOf : List D → Option (List Key)
  | [] => some []
  | d :: r => match keyOf d, keysOf r with
    | some k, some ks => some (k :: ks)
    | _, _ => none
/-- the dict at p, asked for y -/
def dLook (M : Mp) (p : Addr) (y : D) : Option (Option D) := match M p with
  | some (.dK kvs) => (keyOf y).map fun k => dval kvs k
  | some (.dT kvs) => match y with
    | .tup l => (keysOf l).map fun k => dval kvs k
    | _ => none
  | _ => none
section
variable {K : PySem.W.Frag} {F : FZ} {M : Mp} {H : Hp}
theorem keyOf_rp {d : D} {v : V} {k : Key} (r : Rp K F d v) (h : keyOf d = some k) : v = kV k := by
  cases r <;> simp [keyOf] at h <;> subst h <;> rfl
theorem keysOf_rp : ∀ {ds : List D} {xs : List V} {ks : List Key}, RpL K F ds xs → keysOf ds = some ks → xs = ks.map kV
  | _, _, ks, .nil, h => by simp [keysOf] at h; subst h; rfl
  | _, _, ks, .cons r t, h => by
    simp only [keysOf] at h
    split at h
    · rename_i k ks' hk hks
      cases h
      rw [List.map_cons, keyOf_rp r hk, keysOf_rp t hks]
    · cases h
theorem kvr_find {κ : Type} [DecidableEq κ] {k : κ} : ∀ {l : List (κ × D)} {m : List (κ × V)}, KVR K F l m →
    (dval l k = none ∧ valV m k = none) ∨ ∃ d v, dval l k = some d ∧ valV m k = some v ∧ Rp K F d v
  | _, _, .nil => .inl ⟨rfl, rfl⟩
  | (k1, d) :: l, (k2, v) :: m, .cons r t => by
    obtain ⟨e, r⟩ := r
    simp only at e r
    subst e
    by_cases h : k1 = k
    · refine .inr ⟨d, v, ?_, ?_, r⟩ <;> simp [dval, valV, List.find?, h]
    · have e1 : dval ((k1, d) :: l) k = dval l k := by simp [dval, List.find?, h]
      have e2 : valV ((k1, v) :: m) k = valV m k := by simp [valV, List.find?, h]
      rw [e1, e2]
      exact kvr_find t
theorem kvr_append {κ : Type} : ∀ {l : List (κ × D)} {m : List (κ × V)} {l' : List (κ × D)} {m' : List (κ × V)}, KVR K F l m → KVR K F l' m' → KVR K F (l ++ l') (m ++ m')
  | _, _, _, _, .nil, s => s
  | _, _, _, _, .cons r t, s => .cons r (kvr_append t s)
theorem kvr_len {κ : Type} {l : List (κ × D)} {m : List (κ × V)} (h : KVR K F l m) : l.length = m.length := Paired.length h
theorem kvr_map {κ : Type} [DecidableEq κ] {k : κ} {d : D} {v : V} (r : Rp K F d v) : ∀ {l : List (κ × D)} {m : List (κ × V)}, KVR K F l m →
    KVR K F (l.map fun kv => if kv.1 = k then (kv.1, d) else kv) (m.map fun kv => if kv.1 = k then (kv.1, v) else kv)
  | _, _, .nil => .nil
  | (k1, d1) :: l, (k2, v1) :: m, .cons q t => by
    obtain ⟨e, q⟩ := q
    simp only at e q
    subst e
    rw [List.map_cons, List.map_cons]
    refine .cons ?_ (kvr_map r t)
    by_cases h : k1 = k
    · simp [h, r]
    · simp [h, q]
theorem putK_eq {κ : Type} [DecidableEq κ] (m : List (κ × V)) (k : κ) (v : V) : putK m k v = if (valV m k).isSome = true then m.map fun kv => if kv.1 = k then (kv.1, v) else kv else m ++ [(k, v)] := by
  unfold putK valV
  have e : (m.any fun kv => decide (kv.1 = k)) = ((m.find? fun kv => decide (kv.1 = k)).map (·.2)).isSome := by
    induction m with
    | nil => rfl
    | cons p r ih =>
      by_cases h : p.1 = k
      · simp [List.find?, h]
      · simp [List.find?, h] at ih ⊢
        exact ih
  rw [e]
theorem kvr_put {κ : Type} [DecidableEq κ] {k : κ} {d : D} {v : V} (r : Rp K F d v) {l : List (κ × D)} {m : List (κ × V)} (h : KVR K F l m) : KVR K F (dput l k d) (putK m k v) := by
  unfold dput
  rw [putK_eq]
  rcases kvr_find (k := k) h with ⟨e1, e2⟩ | ⟨d1, v1, e1, e2, _⟩
  · rw [e1, e2]
    exact kvr_append h (.cons ⟨rfl, r⟩ .nil)
  · rw [e1, e2]
    exact kvr_map r h
theorem dLook_get (s : SR K F M H) {p : Addr} {y : D} {v : V} {o : Option D} (r : Rp K F y v) (h : dLook M p y = some o) :
    ∃ o', DGet H p v o' ∧ ((o = none ∧ o' = none) ∨ ∃ d w, o = some d ∧ o' = some w ∧ Rp K F d w) := by
  unfold dLook at h
  split at h
  · rename_i kvs hm
    obtain ⟨k, hk, e⟩ := Option.map_eq_some_iff.mp h
    obtain ⟨u, h1, h2⟩ := s.mu p _ hm
    cases h2 with
    | dK r2 z =>
      refine ⟨_, (keyOf_rp r hk) ▸ DGet.k (k := k) h1, ?_⟩
      rcases kvr_find (k := k) r2 with ⟨e1, e2⟩ | ⟨d1, v1, e1, e2, r3⟩
      · exact .inl ⟨by rw [← e, e1], e2⟩
      · exact .inr ⟨d1, v1, by rw [← e, e1], e2, r3⟩
  · rename_i kvs hm
    split at h
    · rename_i l
      obtain ⟨k, hk, e⟩ := Option.map_eq_some_iff.mp h
      obtain ⟨u, h1, h2⟩ := s.mu p _ hm
      cases r with
      | tup ha rl =>
        have hx := keysOf_rp rl hk
        subst hx
        cases h2 with
        | dT r2 z _ =>
          refine ⟨_, DGet.t (k := k) h1 (s.fz _ _ ha), ?_⟩
          rcases kvr_find (k := k) r2 with ⟨e1, e2⟩ | ⟨d1, v1, e1, e2, r3⟩
          · exact .inl ⟨by rw [← e, e1], e2⟩
          · exact .inr ⟨d1, v1, by rw [← e, e1], e2, r3⟩
    · cases h
  · cases h
/-- a frozen dict, asked for y -/
def dkLook : D → D → Option (Option D)
  | .dk ks l, y => (keyOf y).map fun k => dval (ks.zip l) k
  | .dt ks l, .tup m => (keysOf m).map fun k => dval (ks.zip l) k
  | _, _ => none
theorem kvr_zip {κ : Type} : ∀ {ps : List (κ × V)} {l : List D}, RpL K F l (ps.map (·.2)) → KVR K F ((ps.map (·.1)).zip l) ps
  | [], _, .nil => .nil
  | (k, v) :: ps, d :: l, .cons r t => .cons ⟨rfl, r⟩ (kvr_zip t)
theorem dkLook_get (s : SR K F M H) {x y : D} {u v : V} {o : Option D} (rx : Rp K F x u) (r : Rp K F y v) (h : dkLook x y = some o) :
    ∃ p o', u = .ref p ∧ DGet H p v o' ∧ ((o = none ∧ o' = none) ∨ ∃ d w, o = some d ∧ o' = some w ∧ Rp K F d w) := by
  cases rx with
  | dk a b =>
    rename_i p ps l
    simp only [dkLook] at h
    obtain ⟨k, hk, e⟩ := Option.map_eq_some_iff.mp h
    refine ⟨p, valV ps k, rfl, .inl ⟨ps, k, s.dz _ _ a, keyOf_rp r hk, rfl⟩, ?_⟩
    rcases kvr_find (k := k) (kvr_zip b) with ⟨e1, e2⟩ | ⟨d1, v1, e1, e2, r3⟩
    · exact .inl ⟨by rw [← e, e1], e2⟩
    · exact .inr ⟨d1, v1, by rw [← e, e1], e2, r3⟩
  | dt a b =>
    rename_i p ps l
    cases y with
    | tup m =>
      simp only [dkLook] at h
      obtain ⟨k, hk, e⟩ := Option.map_eq_some_iff.mp h
      cases r with
      | tup ha rl =>
        have hx := keysOf_rp rl hk
        subst hx
        refine ⟨p, valV ps k, rfl, .inr ⟨ps, k, _, s.dz _ _ a, rfl, s.fz _ _ ha, rfl⟩, ?_⟩
        rcases kvr_find (k := k) (kvr_zip b) with ⟨e1, e2⟩ | ⟨d1, v1, e1, e2, r3⟩
        · exact .inl ⟨by rw [← e, e1], e2⟩
        · exact .inr ⟨d1, v1, by rw [← e, e1], e2, r3⟩
    | _ => simp [dkLook] at h
  | _ => simp [dkLook] at h
/-- what M says behind a store -/
def dStore (M : Mp) (p : Addr) (y d : D) : Option Mp := match M p with
  | some (.dK kvs) => (keyOf y).bind fun k => if kvs.length < sizeLine then some (mset M p (.dK (dput kvs k d))) else none
  | some (.dT kvs) => match y with
    | .tup l => (keysOf l).bind fun k => if kvs.length < sizeLine then some (mset M p (.dT (dput kvs k d))) else none
    | _ => none
  | some (.lst l) => match y with
    | .int i => (ixN l.length i).bind fun j => some (mset M p (.lst (l.set j d)))
    | _ => none
  | _ => none
theorem putK_len {κ : Type} [DecidableEq κ] (m : List (κ × V)) (k : κ) (v : V) (h : m.length < sizeLine) : (putK m k v).length ≤ sizeLine := by
  rw [putK_eq]
  split
  · rw [List.length_map]; omega
  · rw [List.length_append]; simp; omega
theorem putK_keys {m : List (List Key × V)} {k : List Key} {v : V} (h : ∀ p ∈ m, p.1.length ≤ sizeLine) (hk : k.length ≤ sizeLine) : ∀ p ∈ putK m k v, p.1.length ≤ sizeLine := by
  rw [putK_eq]
  split
  · intro p hp
    obtain ⟨q, h1, h2⟩ := List.mem_map.mp hp
    subst h2
    have := h q h1
    split <;> exact this
  · intro p hp
    rcases List.mem_append.mp hp with h1 | h1
    · exact h p h1
    · rw [List.mem_singleton] at h1
      subst h1
      exact hk
theorem dStore_put (s : SR K F M H) {p : Addr} {y d : D} {v w : V} {M' : Mp} (r : Rp K F y v) (rd : Rp K F d w) (h : dStore M p y d = some M') :
    (∃ H', DPut H p v w H' ∧ SR K F M' H') ∨ ∃ xs k j, v = .int k ∧ H p = some (.lst xs) ∧ ixN xs.length k = some j ∧ SR K F M' (upd H p (.lst (xs.set j w))) := by
  unfold dStore at h
  split at h
  · rename_i kvs hm
    obtain ⟨k, hk, e⟩ := Option.bind_eq_some_iff.mp h
    split at e
    · rename_i hl
      cases e
      obtain ⟨u, h1, h2⟩ := s.mu p _ hm
      cases h2 with
      | dK r2 z =>
        rename_i ps
        have hl2 : ps.length < sizeLine := kvr_len r2 ▸ hl
        exact .inl ⟨_, (keyOf_rp r hk) ▸ DPut.k (k := k) h1 hl2, s.putM hm (.dK (kvr_put rd r2) (putK_len _ _ _ hl2))⟩
    · cases e
  · rename_i kvs hm
    split at h
    · rename_i l
      obtain ⟨k, hk, e⟩ := Option.bind_eq_some_iff.mp h
      split at e
      · rename_i hl
        cases e
        obtain ⟨u, h1, h2⟩ := s.mu p _ hm
        cases r with
        | tup ha rl =>
          have hx := keysOf_rp rl hk
          subst hx
          cases h2 with
          | dT r2 z zz =>
            rename_i ps
            have hl2 : ps.length < sizeLine := kvr_len r2 ▸ hl
            exact .inl ⟨_, DPut.t (k := k) h1 (s.fz _ _ ha) hl2, s.putM hm (.dT (kvr_put rd r2) (putK_len _ _ _ hl2) (putK_keys zz (by have := s.lenT ha; rw [List.length_map] at this; exact this)))⟩
      · cases e
    · cases h
  · rename_i l hm
    split at h
    · rename_i i
      obtain ⟨j, hj, e⟩ := Option.bind_eq_some_iff.mp h
      cases e
      obtain ⟨u, h1, h2⟩ := s.mu p _ hm
      cases h2 with
      | lst r2 z =>
        cases r
        refine .inr ⟨_, i, j, rfl, h1, r2.length ▸ hj, s.putM hm (.lst (r2.set rd j) (by rw [List.length_set]; exact z))⟩
    · cases h
  · cases h
end

/-! ### x[y] -/
/-- an item by place -/
def dAt (x y : D) : Option D := match x, y with
  | .tup l, .int i => atI l i
  | .lst l, .int i => atI l i
  | .kt l, .int i => atI l i
  | .str z, .int i => if z.length ≤ sizeLine then (atI z.cps.toList i).map fun c => .str ⟨#[c]⟩ else none
  | _, _ => none
def dIxV (M : Mp) (x y : D) : Option D := match x with
  | .ref p => (match M p with
    | some (.lst l) => (match y with
      | .int i => atI l i
      | _ => none)
    | _ => (dLook M p y).bind id)
  | .dk ks l => (dkLook (.dk ks l) y).bind id
  | .dt ks l => (dkLook (.dt ks l) y).bind id
  | x => dAt x y
def dIx : DR2 := fun x y M Q => ∃ d, dIxV M x y = some d ∧ Q d M
section
variable {X : Cx} {K : PySem.W.Frag} {F0 : FZ} {a b e o i value : Expr} {ta tb te : TE} {ta' tb' te' : DTE} {pos : Pos}
theorem atI_rp {F : FZ} {ds : List D} {xs : List V} {i : Int} {d : D} (r : RpL K F ds xs) (h : atI ds i = some d) : ∃ v, atI xs i = some v ∧ Rp K F d v := by
  unfold atI at h ⊢
  rw [← r.length]
  obtain ⟨j, h1, h2⟩ := Option.bind_eq_some_iff.mp h
  obtain ⟨v, e, rv⟩ := r.get h2
  exact ⟨v, by rw [h1]; exact e, rv⟩
def rIxAny (K : PySem.W.Frag) : R2 := fun x y H Q => rIx K x y H Q ∨ ∃ a v, x = .ref a ∧ DGet H a y (some v) ∧ Q v H
theorem ix_dict (hu : X.A.units + 1 < cLine) : IxR X (fun x y H Q => ∃ a v, x = .ref a ∧ DGet H a y (some v) ∧ Q v H) := by
  intro value slice pins s σ H x y v u Q I rx ry h hs
  obtain ⟨a, w, rfl, g, q⟩ := h
  obtain rfl : v = Value.ref a := rx
  have hT := dict_typeIs I g
  have h2 : wpAny (model X.prog X.w) X.A (getItem (.ref a) u) (EP X pins σ Q) X.xe s := d_getItem hu I g ry fun w' s3 I3 rw' => ⟨w, H, I3, rw', q⟩
  unfold subscriptTail
  refine wpAny_bind ?_
  rw [getitemInPython_of_ne hT.not_modules]
  refine wpAny_bind (wpAny_specialOf hT PySem.F.slot_dict_getitem.lookup ?_)
  have fin : wpAny (model X.prog X.w) X.A (subscripted slice false (.ref a) u) (fun r s₃ => wpAny (model X.prog X.w) X.A (letTemporaryGo value (.ref a) r >>= fun _ => pure r) (EP X pins σ Q) X.xe s₃) X.xe s := by
    rw [hs]
    exact wpAny_operating (wpAny_mono h2 (fun r s₃ h₃ => wpAny_bind (wpAny_letTemporaryGo (wpAny_pure h₃))) fun _ _ x => x)
  first
    | exact wpAny_pure (wpAny_bind fin)
    | exact wpAny_bind (wpAny_pure (wpAny_bind fin))
    | exact wpAny_bind fin
theorem ix_any (hu : X.A.units + 1 < cLine) : IxR X (rIxAny X.K) := ix_seq.or (ix_dict hu)
theorem dAt_rp {F : FZ} {M : Mp} {H : Hp} {d e r : D} {x y : V} {Q : VK} (s : SR K F M H) (r1 : Rp K F d x) (r2 : Rp K F e y) (hd : dAt d e = some r) (k : ∀ v, Rp K F r v → Q v H) : rIx K x y H Q := by
  cases r1 with
  | tup a b =>
    cases r2 with
    | int i =>
      obtain ⟨v, h1, h2⟩ := atI_rp b (show atI _ i = some r from hd)
      exact .inr (.inl ⟨_, _, _, v, rfl, rfl, s.sqT a, h1, k v h2⟩)
    | _ => exact nomatch hd
  | kt a b =>
    cases r2 with
    | int i =>
      obtain ⟨v, h1, h2⟩ := atI_rp b (show atI _ i = some r from hd)
      exact .inr (.inl ⟨_, _, _, v, rfl, rfl, (s.sqK a), h1, k v h2⟩)
    | _ => exact nomatch hd
  | lst a b =>
    cases r2 with
    | int i =>
      obtain ⟨v, h1, h2⟩ := atI_rp b (show atI _ i = some r from hd)
      exact .inl ⟨_, _, _, v, rfl, rfl, (SqL.of (s.fz _ _ a)), h1, k v h2⟩
    | _ => exact nomatch hd
  | str z =>
    cases r2 with
    | int i =>
      have hd' : (if z.length ≤ sizeLine then (atI z.cps.toList i).map fun c => D.str ⟨#[c]⟩ else none) = some r := hd
      split at hd'
      · rename_i hz
        obtain ⟨c, h1, h2⟩ := Option.map_eq_some_iff.mp hd'
        subst h2
        exact .inr (.inr ⟨z, i, c, rfl, rfl, hz, h1, k _ (.str _)⟩)
      · cases hd'
    | _ => exact nomatch hd
  | _ => exact nomatch hd
theorem l2_ix : L2r K F0 dIx (rIxAny K) := by
  intro F M H d e x y Q' Q e0 s r1 r2 q k
  obtain ⟨r, hr, q⟩ := q
  have kk : ∀ v, Rp K F r v → Q v H := fun v rv => k F r v M H (FLe.refl F) s rv q
  unfold dIxV at hr
  split at hr
  · rename_i p
    cases r1
    split at hr
    · rename_i l hm
      split at hr
      · rename_i i
        cases r2
        obtain ⟨u, h1, h2⟩ := s.mu p _ hm
        cases h2 with
        | lst rl z =>
          obtain ⟨v, h3, h4⟩ := atI_rp rl hr
          exact .inl (.inl ⟨p, _, i, v, rfl, rfl, SqL.of h1, h3, kk v h4⟩)
      · cases hr
    · obtain ⟨o, h1, h2⟩ := Option.bind_eq_some_iff.mp hr
      have h2 : o = some r := h2
      subst h2
      obtain ⟨o', g, c⟩ := dLook_get s r2 h1
      rcases c with ⟨z, _⟩ | ⟨d1, w, z1, z2, rr⟩
      · cases z
      · cases z1
        subst z2
        exact .inr ⟨p, w, rfl, g, kk w rr⟩
  · obtain ⟨o, h1, h2⟩ := Option.bind_eq_some_iff.mp hr
    have h2 : o = some r := h2
    subst h2
    obtain ⟨p, o', rfl, g, c⟩ := dkLook_get s r1 r2 h1
    rcases c with ⟨z, _⟩ | ⟨d1, w, z1, z2, rr⟩
    · cases z
    · cases z1
      subst z2
      exact .inr ⟨p, w, rfl, g, kk w rr⟩
  · obtain ⟨o, h1, h2⟩ := Option.bind_eq_some_iff.mp hr
    have h2 : o = some r := h2
    subst h2
    obtain ⟨p, o', rfl, g, c⟩ := dkLook_get s r1 r2 h1
    rcases c with ⟨z, _⟩ | ⟨d1, w, z1, z2, rr⟩
    · cases z
    · cases z1
      subst z2
      exact .inr ⟨p, w, rfl, g, kk w rr⟩
  · exact .inl (dAt_rp s r1 r2 hr kk)
theorem de_ix {n : Nat} (hr : Room n X.A) (ha : DE X F0 a ta ta') (hb : DE X F0 b tb tb') (hs : PlainIx b := by exact fun _ _ => rfl) : DE X F0 (.Subscript a b pos) (tOp (rIxAny X.K) ta tb) (dOp dIx ta' tb') :=
  ⟨pe_ix (ix_any (hu_of hr)) ha.pe hb.pe hs, le_op l2_ix ha.le hb.le⟩

/-! ### x[y] = v -/
def dSet : DTSet := fun o i v M Q => match o with
  | .ref p => ∃ M', dStore M p i v = some M' ∧ Q M'
  | _ => False
def rSetAny : TSet := fun o i v H Q => rSetL o i v H Q ∨ ∃ a H', o = .ref a ∧ DPut H a i v H' ∧ Q H'
theorem set_any (hu : X.A.units + 1 < cLine) : PSet X rSetAny := by
  intro pins s σ H o i v ov iv u Q I ro ri rv h
  rcases h with h | ⟨a, H', rfl, g, q⟩
  · exact set_list pins s σ H o i v ov iv u Q I ro ri rv h
  · cases ro
    exact d_setItem hu I g ri rv fun s4 I4 => ⟨H', I4, q⟩
theorem l3_set : L3s K F0 dSet rSetAny := by
  intro F M H o i d x y v Q' Q e0 s ro ri rd q k
  unfold dSet at q
  split at q
  · rename_i p
    cases ro
    obtain ⟨M', h1, q⟩ := q
    rcases dStore_put s ri rd h1 with ⟨H', g, s'⟩ | ⟨xs, kk, j, rfl, h2, h3, s'⟩
    · exact .inr ⟨p, H', rfl, g, k F M' H' (FLe.refl F) s' q⟩
    · exact .inl ⟨p, xs, kk, j, rfl, rfl, h2, h3, k F M' _ (FLe.refl F) s' q⟩
  · exact q.elim
theorem dg_sub' {n : Nat} {to ti : TE} {to' ti' : DTE} (hr : Room n X.A) (ho : DE X F0 o to to') (hi : DE X F0 i ti ti')
    (ha : ∀ v, assign (.Subscript o i pos) X.env v = (do
      let ov ← holding [v] (eval o X.env)
      let iv ← holding [v, ov] (eval i X.env)
      standAt pos; holding [v, ov, iv] (setItem ov iv v); release [v, ov, iv] []) := by intro _; rfl) : DG X F0 (.Subscript o i pos) (gSub to ti rSetAny) (hSub to' ti' dSet) := dg_sub ho hi (set_any (hu_of hr)) l3_set ha
end
end DL

set_option maxRecDepth 100000
set_option maxHeartbeats 2000000
namespace DL
open PySem PySem.Spec PyProof.Rows L2

/-! ### defs -/
/-- an exception: its class, its fields (where it has its own dict) -/
abbrev DXK := Value → Option (List (Str × D)) → Mp → Prop
abbrev DSp := List D → Mp → DK → DXK → Prop
def DXK.no : DXK := fun _ _ _ => False
def XR (K : PySem.W.Frag) (F : FZ) (fs : Option (List (Str × D))) (d : Option Addr) (H : Hp) : Prop := match fs, d with
  | none, none => True
  | some l, some a => ∃ gs, H a = some (.xd gs) ∧ KVR K F l gs
  | _, _ => False
def lX (K : PySem.W.Frag) (F : FZ) (E : DXK) : XK := fun c d H => ∃ F1 M fs, FLe F F1 ∧ SR K F1 M H ∧ XR K F1 fs d H ∧ E c fs M
def liftSp (K : PySem.W.Frag) (sp : DSp) : Sp := fun vs H Q E => ∃ F ds M Q' E', SR K F M H ∧ RpL K F ds vs ∧ sp ds M Q' E' ∧
  (∀ F1 d v M1 H1, FLe F F1 → SR K F1 M1 H1 → Rp K F1 d v → Q' d M1 → Q v H1) ∧ ∀ c d H1, lX K F E' c d H1 → E c d H1
def dCall (sp : DSp) (E : DXK) (t : DTA) : DTE := fun γ M Q => t γ M fun ds M1 => sp ds M1 Q E
theorem pass0' {X : Cx} {E : XK} : Passes CX0 X E := fun _ _ _ _ _ _ _ h => h.elim
/-- a def as it is called -/
structure DCal (P : Program) (w : World) (K : PySem.W.Frag) (mg : Str → Option Value) (base : Heap) (CX : CXT) (k : Nat) (x : Str) (sp : DSp) : Prop where
  ex : ∃ f fd ps, FnOk P w K mg base CX k f fd ps (liftSp K sp) ∧ mg x = some (.ref f) ∧ PySem.W.keepIn K (.ref f) = true ∧ Binds K fd ps []
section
variable {P : Program} {w : World} {K : PySem.W.Frag} {mg : Str → Option Value} {base : Heap} {X : Cx} {F0 : FZ} {e : Expr} {es : List Expr} {t : TA} {t' : DTA} {p pos : Pos} {CX : CXT}
/-- what is raised, wherever -/
def lXa (K : PySem.W.Frag) (E : DXK) : XK := fun c d H => ∃ F, lX K F E c d H
structure GoesA (CX : CXT) (X : Cx) (E : DXK) : Prop where
  p : Passes CX X (lXa X.K E)
theorem goes0A {X : Cx} {E : DXK} : GoesA CX0 X E := ⟨pass0'⟩
theorem le_callA {sp : DSp} {E : DXK} (ha : LA K F0 t' t) : LE K F0 (dCall sp E t') (tCall (liftSp K sp) [] (lXa K E) t) := by
  intro F γ M σ H Q' Q e0 s g q k
  refine ha F γ M σ H _ _ e0 s g q fun F1 ds vs M1 H1 e1 s1 r1 q1 => ?_
  rw [List.append_nil]
  exact ⟨F1, ds, M1, Q', E, s1, r1, q1, fun F2 d v M2 H2 e2 s2 r2 q2 => k F2 d v M2 H2 (e1.trans e2) s2 r2 q2, fun c d H1 h => ⟨F1, h⟩⟩
theorem de_call {k j : Nat} {x : Str} {sp : DSp} {E : DXK} (c : DCal X.prog X.w X.K X.mg X.base CX k x sp) (hr : Room j X.A) (hx : GoesA CX X E) (ha : DA X F0 (e :: es) t t') (hk : k ≤ j := by decide) (hg : Gl X x := by rfl)
    (hdb : (x == ("__debug__" : Str)) = false := by decide) (he : starEach (e :: es) X.env = (false, eval e X.env) :: starEach es X.env := by rfl) (hpl : (backTo pos (starEach es X.env)).any (·.1) = false := by rfl) :
    DE X F0 (.Call (.Name x p) (e :: es) [] pos) (tCall (liftSp X.K sp) [] (lXa X.K E) t) (dCall sp E t') := by
  obtain ⟨f, fd, ps, G, hm, hkp, hb⟩ := c.ex
  exact ⟨pe_call G (hr.mono hk) hg hm hkp hb .nil hx.p ha.pa hdb he hpl, le_callA ha.le⟩
def fin (Q : DK) (d : D) (M1 : Mp) : Prop := ∃ M2, MLe M2 M1 ∧ Q d M2
def dstart (N : List Str) (ds : List D) : G := ds.map some ++ List.replicate (N.length - ds.length) none
theorem gr_start {F : FZ} {N : List Str} {ds : List D} {vs : List V} (r : RpL K F ds vs) : GR K F (dstart N ds) (L2.start N vs) := by
  have hl := r.length
  refine ⟨by simp [dstart, L2.start, hl], fun i d h => ?_⟩
  unfold dstart at h
  unfold L2.start
  by_cases hi : i < ds.length
  · rw [List.getElem?_append_left (by simpa using hi), List.getElem?_map] at h
    obtain ⟨d', h1, h2⟩ := Option.map_eq_some_iff.mp h
    cases h2
    obtain ⟨v, h3, h4⟩ := r.get h1
    exact ⟨v, by rw [List.getElem?_append_left (by simpa [← hl] using hi), List.getElem?_map, h3]; rfl, h4⟩
  · rw [List.getElem?_append_right (by simpa using hi)] at h
    rw [List.getElem?_replicate] at h
    split at h <;> cases h
/-- a def of the text as it stands behind the top -/
structure DFun (K : PySem.W.Frag) (mg : Str → Option Value) (x : Str) (st : Stmt) (ps : List Str) : Prop where
  ex : ∃ f fd, Fun K x x st f fd ∧ mg x = some (.ref f) ∧ Binds K fd ps []
theorem dok {x : Str} {st : Stmt} {N ps : List Str} {k : Nat} {sp : DSp} (F : DFun K mg x st ps) (S : FnScope N ps (defScope st)) (len : ∀ ds M Q E, sp ds M Q E → ds.length = ps.length)
    (hbody : ∀ (f : Addr) (cdv : Value) (A : Around) (outer : List Env) (s : Shared) (H : Hp) (E : XK) (F0 : FZ), Room k (A.deeper (envOfC x (defScope st) s.heap.objs.size f cdv)) →
      ∃ t t', DB (cxOf CX0 P w K mg base N x (defScope st) f cdv A outer s H E).nox F0 (defBody st) t t' ∧ ∀ ds M Q' E', sp ds M Q' E' → t' { nx := fun _ M1 => fin Q' .non M1, rt := fin Q' } (dstart N ds) M) : DCal P w K mg base CX0 (k + 1) x sp := by
  obtain ⟨f, fd, G, hm, hb⟩ := F.ex
  refine ⟨f, fd, ps, ?_, hm, G.kp, hb⟩
  refine G.ok S (fun vs H Q E h => ?_) (fun cdv A outer s H vs Q E hr h => ?_)
  · obtain ⟨F, ds, M, Q', E', _, r, q, _⟩ := h
    rw [← r.length]; exact len _ _ _ _ q
  · obtain ⟨F, ds, M, Q', E', s1, r, q, kq, _⟩ := h
    obtain ⟨t, t', d, h⟩ := hbody f cdv A outer s H E F hr
    refine ⟨t, d.ps, d.le F (dstart N ds) M (L2.start N vs) H { nx := fun _ M1 => fin Q' .non M1, rt := fin Q' } { nx := fun _ H' => Q .non H', rt := Q } (Bs.refl _) s1 (gr_start r) (h ds M Q' E' q) ⟨?_, ?_, fun _ _ _ _ _ _ _ _ z => z.elim, fun _ _ _ _ _ _ _ _ z => z.elim⟩⟩
    · rintro F1 γ1 M1 σ1 H1 e1 s1 g1 ⟨M2, l, q⟩
      exact kq F1 .non .non M2 H1 e1 (s1.less l) .non q
    · rintro F1 d1 v1 M1 H1 e1 s1 r1 ⟨M2, l, q⟩
      exact kq F1 d1 v1 M2 H1 e1 (s1.less l) r1 q
end

/-! ### list comprehensions -/
def dwipe (γ : G) : List Nat → G
  | [] => γ
  | v :: vs => (dwipe γ vs).set v none
/-- a target whose names are among those -/
def GW (vs : List Nat) (g : TG) : Prop := ∀ x σ H (Q : L2.St → Hp → Prop), g x σ H Q → g x σ H fun σ2 H2 => wipe σ2 vs = wipe σ vs ∧ Q σ2 H2
def GWs (vs : List Nat) (g : TGs) : Prop := ∀ xs σ H (Q : L2.St → Hp → Prop), g xs σ H Q → g xs σ H fun σ2 H2 => wipe σ2 vs = wipe σ vs ∧ Q σ2 H2
theorem wipe_set {i : Nat} {v : Option V} : ∀ {vs : List Nat} {σ : L2.St}, i ∈ vs → wipe (σ.set i v) vs = wipe σ vs
  | w :: vs, σ, h => by
    show (wipe (σ.set i v) vs).set w none = (wipe σ vs).set w none
    by_cases hi : i ∈ vs
    · rw [wipe_set hi]
    · have e : i = w := by
        rcases List.mem_cons.mp h with e | h
        · exact e
        · exact absurd h hi
      subst e
      have out : ∀ {us : List Nat} {σ : L2.St}, ¬ i ∈ us → wipe (σ.set i v) us = (wipe σ us).set i v := by
        intro us
        induction us with
        | nil => intro σ _; rfl
        | cons u us ih =>
          intro σ hu
          show (wipe (σ.set i v) us).set u none = ((wipe σ us).set u none).set i v
          rw [ih (fun z => hu (List.mem_cons_of_mem _ z)), List.set_comm _ _ (fun z => hu (by rw [z]; exact List.mem_cons_self))]
      rw [out hi, List.set_set]
theorem gw_name {vs : List Nat} {i : Nat} (h : i ∈ vs) : GW vs (gName i) := fun x σ H Q q => ⟨wipe_set h, q⟩
theorem gws_nil {vs : List Nat} : GWs vs gNil := fun xs σ H Q q => ⟨q.1, rfl, q.2⟩
theorem gws_cons {vs : List Nat} {t : TG} {u : TGs} (mt : ∀ x σ H (Q Q' : L2.St → Hp → Prop), (∀ σ H, Q σ H → Q' σ H) → t x σ H Q → t x σ H Q') (mu : ∀ x σ H (Q Q' : L2.St → Hp → Prop), (∀ σ H, Q σ H → Q' σ H) → u x σ H Q → u x σ H Q') (h1 : GW vs t) (h2 : GWs vs u) : GWs vs (gCons t u) := fun xs σ H Q q => by
  obtain ⟨v, r, e, q⟩ := q
  refine ⟨v, r, e, mt _ _ _ _ _ (fun σ2 H2 q2 => ?_) (h1 _ _ _ _ q)⟩
  exact mu _ _ _ _ _ (fun σ3 H3 q3 => ⟨q3.1.trans q2.1, q3.2⟩) (h2 _ _ _ _ q2.2)
theorem gm_name {i : Nat} : ∀ x σ H (Q Q' : L2.St → Hp → Prop), (∀ σ H, Q σ H → Q' σ H) → gName i x σ H Q → gName i x σ H Q' := fun x σ H Q Q' f q => f _ _ q
theorem gm_nil : ∀ x σ H (Q Q' : L2.St → Hp → Prop), (∀ σ H, Q σ H → Q' σ H) → gNil x σ H Q → gNil x σ H Q' := fun x σ H Q Q' f q => ⟨q.1, f _ _ q.2⟩
theorem gm_cons {t : TG} {u : TGs} (mt : ∀ x σ H (Q Q' : L2.St → Hp → Prop), (∀ σ H, Q σ H → Q' σ H) → t x σ H Q → t x σ H Q') (mu : ∀ x σ H (Q Q' : L2.St → Hp → Prop), (∀ σ H, Q σ H → Q' σ H) → u x σ H Q → u x σ H Q') :
    ∀ x σ H (Q Q' : L2.St → Hp → Prop), (∀ σ H, Q σ H → Q' σ H) → gCons t u x σ H Q → gCons t u x σ H Q' := fun x σ H Q Q' f ⟨v, r, e, q⟩ => ⟨v, r, e, mt _ _ _ _ _ (fun σ2 H2 q2 => mu _ _ _ _ _ f q2) q⟩
theorem gw_tup {K : PySem.W.Frag} {vs : List Nat} {n : Nat} {u : TGs} (h : GWs vs u) : GW vs (gTup K n u) := fun x σ H Q ⟨a, xs, e, ha, hl, q⟩ => ⟨a, xs, e, ha, hl, h _ _ _ _ q⟩
theorem gr_wipe {K : PySem.W.Frag} {F : FZ} {γ : G} {σ : L2.St} (h : GR K F γ σ) : ∀ vs : List Nat, GR K F (dwipe γ vs) (wipe σ vs)
  | [] => h
  | v :: vs => by
    have ih := gr_wipe h vs
    refine ⟨by simp [dwipe, wipe, ih.len], fun i d q => ?_⟩
    have q' : ((dwipe γ vs).set v none)[i]? = some (some d) := q
    show ∃ w, ((wipe σ vs).set v none)[i]? = some (some w) ∧ Rp K F d w
    by_cases hj : v = i
    · subst hj
      by_cases hl : v < (dwipe γ vs).length
      · rw [List.getElem?_set_self hl] at q'; cases q'
      · rw [List.getElem?_eq_none (by simpa using hl)] at q'; cases q'
    · rw [List.getElem?_set_ne hj] at q' ⊢
      exact ih.at' i d q'
structure DTs (X : Cx) (F0 : FZ) (ifs : List Expr) (t : TT) (t' : DTT) : Prop where
  pt : PTs X ifs t
  le : LT X.K F0 t' t
def dYes : DTT := fun _ M Q => Q true M
section
variable {X : Cx} {K : PySem.W.Frag} {F0 : FZ}
theorem dts_nil : DTs X F0 [] tYes dYes := ⟨pts_nil, fun F γ M σ H Q' Q e0 s g q k => k F true M H (FLe.refl F) s q⟩
theorem dts_one {c : Expr} {t : TT} {t' : DTT} (h : DT X F0 c t t') : DTs X F0 [c] t t' := ⟨pts_one h.pt, h.le⟩
def dLcI (g : DTG) (tt : DTT) (te : DTE) (vs : List Nat) (γ : G) (items : List D) (M1 : Mp) (Q : DK) : Prop := ∃ I : Nat → List D → Mp → Prop, I 0 [] M1 ∧
  (∀ i d acc M, items[i]? = some d → I i acc M → g d (dwipe γ vs) M fun γ2 M2 => tt γ2 M2 fun b M3 => if b = true then te γ2 M3 fun y M4 => I (i + 1) (acc ++ [y]) M4 else I (i + 1) acc M3) ∧
  ∀ acc M, I items.length acc M → Q (.lst acc) M
def dLc (wi : DTI) (g : DTG) (tt : DTT) (te : DTE) (vs : List Nat) : DTE := fun γ M Q => wi γ M fun items M1 => items.length ≤ sizeLine ∧ dLcI g tt te vs γ items M1 Q
theorem wipe_wipe (σ : L2.St) (vs : List Nat) : wipe (wipe σ vs) vs = wipe σ vs := by
  have key : ∀ us : List Nat, (∀ i ∈ us, i ∈ vs) → wipe (wipe σ us) vs = wipe σ vs := by
    intro us
    induction us with
    | nil => intro _; rfl
    | cons u us ih =>
      intro h
      show wipe ((wipe σ us).set u none) vs = wipe σ vs
      rw [wipe_set (h u List.mem_cons_self), ih fun i hi => h i (List.mem_cons_of_mem _ hi)]
  exact key vs fun _ h => h
def LcW (K : PySem.W.Frag) (F1 : FZ) (L : Addr) (I : Nat → List D → Mp → Prop) (i : Nat) (H : Hp) : Prop := ∃ F2 M2 acc xs, FLe F1 F2 ∧ SR K F2 M2 H ∧ F2.f L = none ∧ M2 L = none ∧ H L = some (.lst xs) ∧ RpL K F2 acc xs ∧ acc.length ≤ i ∧ I i acc M2
theorem le_lc {wi : TI} {wi' : DTI} {g : TG} {g' : DTG} {tt : TT} {tt' : DTT} {te : TE} {te' : DTE} {vs : List Nat} (hi : LI K F0 wi' wi) (hg : LG K F0 g' g) (hw : GW vs g) (ht : LT K F0 tt' tt) (he : LE K F0 te' te) :
    LE K F0 (dLc wi' g' tt' te' vs) (tLc wi g tt te vs) := by
  intro F γ M σ H Q' Q e0 s gr q k
  refine hi F γ M σ H _ _ e0 s gr q fun F1 items J M1 H1 e1 s1 j1 q1 => ?_
  obtain ⟨hlen, I, h0, step, done⟩ := q1
  intro D hD
  have hDF := s1.freeF hD
  have hDM := s1.freeM hD
  have hDP := s1.freeP hD
  refine ⟨fun i m H => m = items.length - i ∧ i ≤ items.length ∧ LcW K F1 D I i H, ⟨items.length, by simp, Nat.zero_le _, ?_⟩, ?_⟩
  · refine ⟨F1, M1, [], [], FLe.refl _, s1.other hD, hDF, hDM, upd_same, .nil, Nat.le_refl _, h0⟩
  · rintro i m H2 ⟨rfl, hi2, F2, M2, acc, xs, e2, s2, dF, dM, hl, rl, al, i2⟩
    have dP : F2.p D = none := by rw [e2.e]; exact hDP
    by_cases hlt : i < items.length
    · have hd : items[i]? = some items[i] := List.getElem?_eq_getElem hlt
      have sh := s2.hide dF dM hl (fun _ z => by cases z) (s2.noL hl)
      obtain ⟨go, y⟩ := (j1 i (F2.hide D (.lst xs)) M2 H2 (bj_hide e2 hDP) sh).2 _ hd
      refine .inr ⟨go, LcW K F1 D I (i + 1), fun H' h => ⟨items.length - (i + 1), by omega, rfl, hlt, h⟩, fun x H3 yy => ?_⟩
      obtain ⟨F3, e3, s3, r3⟩ := y x H3 yy
      have b3 : Sm F2 F3 := e3.s
      have a3 : Bs F0 F3 := ⟨((e0.tr e1).tr e2).f.trans' b3, ((e0.tr e1).tr e2).p.trans (fun b o h => by rw [e3.e]; exact (upd_ne (ne_of_none h dP)).trans h)⟩
      have back : ∀ {F5 : FZ} {M5 : Mp} {H5 : Hp} (o : HO), FLe F3 F5 → SR K F5 M5 H5 → SR K ⟨F5.f, F2.p, F5.d⟩ M5 (upd H5 D o) ∧ H5 D = some (.lst xs) ∧ F5.f D = none ∧ M5 D = none := fun o e5 s5 =>
        s5.unhide (o := .lst xs) (by rw [e5.e, e3.e]; rfl) dP
      have step' := step i _ acc M2 hd i2
      have r0 : RpL K F3 acc xs := rl.monoS b3
      have lt1 : xs.length < sizeLine := by rw [← r0.length]; omega
      have main := hw x (wipe σ vs) H3 _ (hg F3 (dwipe γ vs) M2 (wipe σ vs) H3 _ x _ (fun σ2 H2 => tt σ2 H2 fun b H3 => if b = true then te σ2 H3 fun y H4 => ∃ acc, H4 D = some (.lst acc) ∧ acc.length < sizeLine ∧ LcW K F1 D I (i + 1) (upd H4 D (.lst (acc ++ [y]))) else LcW K F1 D I (i + 1) H3)
        a3 s3 (gr_wipe (gr.monoS ((e1.s.trans' e2.s).trans' b3)) vs) r3 step' fun F4 γ4 M4 σ4 H4 e4 s4 g4 q4 =>
        ht F4 γ4 M4 σ4 H4 _ _ (a3.tr e4) s4 g4 q4 fun F5 b M5 H5 e5 s5 q5 => by
          cases b with
          | false =>
            obtain ⟨z1, z2, z3, z4⟩ := back (.lst xs) (e4.trans e5) s5
            have eq : upd H5 D (.lst xs) = H5 := by
              funext b
              by_cases hb : b = D
              · subst hb; rw [upd_same, z2]
              · rw [upd_ne hb]
            rw [eq] at z1
            exact ⟨⟨F5.f, F2.p, F5.d⟩, M5, acc, xs, ⟨(e2.s.trans' b3).trans' (e4.trans e5).s, e2.e⟩, z1, z3, z4, z2, RpL.monoS (F := F3) (F' := ⟨F5.f, F2.p, F5.d⟩) (e4.trans e5).s r0, Nat.le_succ_of_le al, q5⟩
          | true =>
            refine he F5 γ4 M5 σ4 H5 _ _ ((a3.tr e4).tr e5) s5 (g4.mono e5) q5 fun F6 d v M6 H6 e6 s6 r6 q6 => ?_
            obtain ⟨z1, z2, z3, z4⟩ := back (.lst (xs ++ [v])) ((e4.trans e5).trans e6) s6
            refine ⟨xs, z2, lt1, ⟨F6.f, F2.p, F6.d⟩, M6, acc ++ [d], xs ++ [v], ⟨(e2.s.trans' b3).trans' ((e4.trans e5).trans e6).s, e2.e⟩, z1, z3, z4, upd_same, RpL.append (RpL.monoS (F := F3) (F' := ⟨F6.f, F2.p, F6.d⟩) ((e4.trans e5).trans e6).s r0) (.cons (Rp.monoS (F := F6) (F' := ⟨F6.f, F2.p, F6.d⟩) Sm.rfl' r6) .nil), ?_, q6⟩
            rw [List.length_append]
            simp
            omega)
      rw [wipe_wipe] at main
      exact main
    · have e : i = items.length := by omega
      subst e
      refine .inl ⟨((j1 items.length F2 M2 H2 e2.bj s2).1 (Nat.le_refl _)), ?_⟩
      have hz : xs.length ≤ sizeLine := by rw [← rl.length]; omega
      have e3 := same_upd (o := .lst xs) dF
      exact k (F2.put D (.lst xs)) (.lst acc) (.ref D) M2 H2 ((e1.trans e2).trans e3) (s2.adopt dF dP dM hl hz) (.lst upd_same (rl.mono e3)) (done acc M2 i2)
end
end DL

set_option maxRecDepth 100000
set_option maxHeartbeats 2000000
namespace DL
open PySem PySem.Spec PyProof.Rows L2

section
variable {X : Cx} {K : PySem.W.Frag} {F0 : FZ} {tg e e2 : Expr} {te : TE} {te' : DTE} {pos p : Pos}
theorem jr_of {F : FZ} {items : List D} {J : It} {G : Hp → Prop} {Y : Nat → Hp → V → Hp → Prop} (w : Walk J items.length G Y) (hg : ∀ F1 M1 H1, Bj F F1 → SR K F1 M1 H1 → G H1)
    (hst : ∀ i H, items.length ≤ i → G H → J.stop i H)
    (hy : ∀ i d F1 M1 H1 x H2, Bj F F1 → SR K F1 M1 H1 → items[i]? = some d → Y i H1 x H2 → ∃ F2, FLe F1 F2 ∧ SR K F2 M1 H2 ∧ Rp K F2 d x) : JR K F items J := fun i F1 M1 H1 e s =>
  ⟨fun h => hst i H1 h (hg F1 M1 H1 e s), fun d hd =>
    have hlt : i < items.length := (List.getElem?_eq_some_iff.mp hd).1
    ⟨w.goes i H1 hlt (hg F1 M1 H1 e s), fun x H2 y => hy i d F1 M1 H1 x H2 e s hd (w.yields i H1 x H2 hlt (hg F1 M1 H1 e s) y)⟩⟩
theorem jr_list {F : FZ} {a : Addr} {xs : List V} {ds : List D} (h : SqL K F.f a xs) (r : RpL K F ds xs) : JR K F ds (Itl K a) := by
  have hl := r.length
  refine jr_of (G := fun H => SqL K H a xs) (Y := YAt xs) (by rw [hl]; exact walk_list) (fun F1 M1 H1 e s => s.fz.seq (e.f.1.seq h)) (fun i H hi q => ⟨xs, q, by omega⟩) fun i d F1 M1 H1 x H2 e s hd y => ?_
  obtain ⟨e2, hx⟩ := y
  subst e2
  obtain ⟨v, h1, h2⟩ := r.get hd
  rw [hx] at h1; cases h1
  exact ⟨F1, FLe.refl _, s, Rp.monoS e.f h2⟩
theorem jr_tup {F : FZ} {a : Addr} {xs : List V} {ds : List D} (h : ∀ H, Same F.f H → SqT K H a xs) (r : RpL K F ds xs) : JR K F ds (Itt K a) := by
  have hl := r.length
  refine jr_of (G := fun H => SqT K H a xs) (Y := YAt xs) (by rw [hl]; exact walk_tup) (fun F1 M1 H1 e s => h _ (e.f.1.trans s.fz)) (fun i H hi q => ⟨xs, q, by omega⟩) fun i d F1 M1 H1 x H2 e s hd y => ?_
  obtain ⟨e2, hx⟩ := y
  subst e2
  obtain ⟨v, h1, h2⟩ := r.get hd
  rw [hx] at h1; cases h1
  exact ⟨F1, FLe.refl _, s, Rp.monoS e.f h2⟩
/-- a frozen list, a tuple, a text -/
def iSeq (K : PySem.W.Frag) (tl : TE) : TI := fun σ H R => tl σ H fun x H1 => (∃ a, x = .ref a ∧ (∃ xs, SqL K H1 a xs) ∧ R (Itl K a) H1) ∨ (∃ a, x = .ref a ∧ (∃ xs, SqT K H1 a xs) ∧ R (Itt K a) H1)
theorem pi_seq {l : Expr} {tl : TE} (hl : PE X l tl) : PI X tg l (iSeq X.K tl) := by
  refine ⟨fun pins s σ H R I h => ?_⟩
  refine thn (hl.run pins s σ H _ I h) fun v s1 ⟨x, H1, I1, r1, q1⟩ => ?_
  rcases q1 with ⟨a, e, ⟨xs, hq⟩, q⟩ | ⟨a, e, ⟨xs, hq⟩, q⟩
  · subst e
    cases r1
    obtain ⟨its, rv, p, hz⟩ := I1.list hq
    refine wpAny_pyIter_list p.isList ?_
    refine ⟨s1.heap.objs.size, [s1.heap.objs.size], _, _, H1, rfl, I1.kept (t' := s1.toks) fun b o e => Heap.get?_push_of_some _ e, turn_list a _, ⟨_, Heap.get?_push_size _ rfl, rfl, rfl⟩, fun b hb => ?_, q⟩
    have e : b = s1.heap.objs.size := by simpa using hb
    subst e
    exact I1.fpOk (Nat.le_refl _) (I1.hok.fresh (Nat.le_refl _))
  · subst e
    cases r1
    obtain ⟨its, rv, p, hz⟩ := I1.tuple hq
    refine wpAny_pyIter_tuple (show s1.heap.IsTuple a its.toArray from p) ?_
    refine ⟨s1.heap.objs.size, [s1.heap.objs.size], _, _, H1, rfl, I1.kept (t' := s1.toks) fun b o e => Heap.get?_push_of_some _ e, turn_tuple a _, ⟨_, Heap.get?_push_size _ rfl, rfl, rfl⟩, fun b hb => ?_, q⟩
    have e : b = s1.heap.objs.size := by simpa using hb
    subst e
    exact I1.fpOk (Nat.le_refl _) (I1.hok.fresh (Nat.le_refl _))
def jSeq (te : DTE) : DTI := fun γ M R => te γ M fun d M1 => match d with
  | .lst l => R l M1
  | .tup l => R l M1
  | .kt l => R l M1
  | _ => False
theorem di_seq (h : DE X F0 e te te') : DI X F0 tg e (iSeq X.K te) (jSeq te') := ⟨pi_seq h.pe, fun F γ M σ H R' R e0 s g q k => by
  refine h.le F γ M σ H _ _ e0 s g q fun F1 d v M1 H1 e1 s1 r1 q1 => ?_
  cases r1 with
  | lst a b => exact .inl ⟨_, rfl, ⟨_, (SqL.of (s1.fz _ _ a))⟩, k F1 _ _ M1 H1 e1 s1 (jr_list (SqL.of a) b) q1⟩
  | tup a b => exact .inr ⟨_, rfl, ⟨_, s1.sqT a⟩, k F1 _ _ M1 H1 e1 s1 (jr_tup (fun H e => .inl (.inl (e _ _ a))) b) q1⟩
  | kt a b => exact .inr ⟨_, rfl, ⟨_, s1.sqK a⟩, k F1 _ _ M1 H1 e1 s1 (jr_tup (fun H e => a.sq e) b) q1⟩
  | _ => exact False.elim q1⟩
/-- lo, lo + 1, .. -/
def rgD (lo : Int) (n : Nat) : List D := (List.range n).map fun i => .int (lo + (i : Nat))
theorem rgD_len {lo : Int} {n : Nat} : (rgD lo n).length = n := by simp [rgD]
theorem rgD_get {lo : Int} {n i : Nat} {d : D} (h : (rgD lo n)[i]? = some d) : i < n ∧ d = .int (lo + (i : Nat)) := by
  unfold rgD at h
  rw [List.getElem?_map] at h
  obtain ⟨j, h1, h2⟩ := Option.map_eq_some_iff.mp h
  have h3 := List.getElem?_eq_some_iff.mp h1
  obtain ⟨h4, h5⟩ := h3
  simp at h4 h5
  subst h5
  exact ⟨h4, h2.symm⟩
theorem jr_range {F : FZ} {lo : Int} {n : Nat} : JR K F (rgD lo n) (Itr lo n) := by
  refine jr_of (G := fun _ => True) (Y := YFn fun i => .int (lo + i)) (by rw [rgD_len]; exact walk_range) (fun _ _ _ _ _ => trivial) (fun i H hi _ => by rw [rgD_len] at hi; exact hi) fun i d F1 M1 H1 x H2 e s hd y => ?_
  obtain ⟨e2, hx⟩ := y
  subst e2 hx
  obtain ⟨_, e3⟩ := rgD_get hd
  subst e3
  exact ⟨F1, FLe.refl _, s, .int _⟩
def jRng1 (ta : DTA) : DTI := fun γ M R => ta γ M fun ds M1 => match ds with
  | [.int j] => (-(2 ^ 62) ≤ j ∧ j < 2 ^ 62) ∧ R (rgD 0 j.toNat) M1
  | _ => False
def jRng2 (ta : DTA) : DTI := fun γ M R => ta γ M fun ds M1 => match ds with
  | [.int i, .int j] => (-(2 ^ 62) ≤ i ∧ i < 2 ^ 62 ∧ -(2 ^ 62) ≤ j ∧ j < 2 ^ 62) ∧ R (rgD i (j - i).toNat) M1
  | _ => False
theorem di_range1 {a : Expr} {ta : TA} {ta' : DTA} (hm : X.mg "range" = none) (ha : DA X F0 [a] ta ta') (hg : Gl X "range" := by rfl) (hs : starEach [a] X.env = [(false, eval a X.env)] := by rfl) : DI X F0 tg (.Call (.Name "range" p) [a] [] pos) (iRng1 ta) (jRng1 ta') := ⟨pi_range1 hg hm ha.pa hs, fun F γ M σ H R' R e0 s g q k => by
  refine ha.le F γ M σ H _ _ e0 s g q fun F1 ds vs M1 H1 e1 s1 r1 q1 => ?_
  split at q1
  · cases r1 with
    | cons r1 r2 =>
      cases r2
      cases r1
      exact ⟨_, rfl, q1.1.1, q1.1.2, k F1 _ _ M1 H1 e1 s1 jr_range q1.2⟩
  · exact q1.elim⟩
theorem di_range2 {a b : Expr} {ta : TA} {ta' : DTA} (hm : X.mg "range" = none) (ha : DA X F0 [a, b] ta ta') (hg : Gl X "range" := by rfl) (hs : starEach [a, b] X.env = [(false, eval a X.env), (false, eval b X.env)] := by rfl) (hs2 : starEach [b] X.env = [(false, eval b X.env)] := by rfl) :
    DI X F0 tg (.Call (.Name "range" p) [a, b] [] pos) (iRng2 ta) (jRng2 ta') := ⟨pi_range2 hg hm ha.pa hs hs2, fun F γ M σ H R' R e0 s g q k => by
  refine ha.le F γ M σ H _ _ e0 s g q fun F1 ds vs M1 H1 e1 s1 r1 q1 => ?_
  split at q1
  · cases r1 with
    | cons r1 r2 =>
      cases r2 with
      | cons r2 r3 =>
        cases r3
        cases r1
        cases r2
        exact ⟨_, _, rfl, q1.1, k F1 _ _ M1 H1 e1 s1 jr_range q1.2⟩
  · exact q1.elim⟩
/-- zip of two -/
def zipD (l m : List D) : List D := (l.zip m).map fun q => .tup [q.1, q.2]
def seqOf : D → Option (Bool × List D)
  | .lst l => some (false, l)
  | .tup l => some (true, l)
  | .kt l => some (true, l)
  | _ => none
theorem zip_new {F1 : FZ} {M1 : Mp} {H1 H2 : Hp} {x : V} {l m : List D} {xs ys : List V} {i : Nat} {d : D} (s : SR K F1 M1 H1) (rl : RpL K F1 l xs) (rm : RpL K F1 m ys) (hd : (zipD l m)[i]? = some d) (y : YPair (fun i => xs[i]?) (fun i => ys[i]?) i H1 x H2) : ∃ F2, FLe F1 F2 ∧ SR K F2 M1 H2 ∧ Rp K F2 d x := by
  obtain ⟨T, u, w, rfl, hT, rfl, h1, h2⟩ := y
  unfold zipD at hd
  rw [List.getElem?_map] at hd
  obtain ⟨q, hq, e⟩ := Option.map_eq_some_iff.mp hd
  subst e
  obtain ⟨hq1, hq2⟩ := List.getElem?_zip_eq_some.mp hq
  obtain ⟨u', a1, a2⟩ := rl.get hq1
  obtain ⟨w', b1, b2⟩ := rm.get hq2
  simp only at h1 h2
  rw [h1] at a1; cases a1
  rw [h2] at b1; cases b1
  have e := same_upd (o := .tup [u, w]) (s.freeF hT)
  exact ⟨_, e, s.newF hT (show 2 ≤ sizeLine by decide), .tup upd_same (.cons (a2.mono e) (.cons (b2.mono e) .nil))⟩
theorem zipD_len {l m : List D} : (zipD l m).length = min l.length m.length := by simp [zipD]
theorem seqOf_l {F : FZ} {d : D} {v : V} {l : List D} (r : Rp K F d v) (h : seqOf d = some (false, l)) : ∃ a xs, v = .ref a ∧ SqL K F.f a xs ∧ RpL K F l xs := by
  cases r <;> simp [seqOf] at h
  subst h
  exact ⟨_, _, rfl, SqL.of (by assumption), by assumption⟩
theorem seqOf_t {F : FZ} {d : D} {v : V} {l : List D} (r : Rp K F d v) (h : seqOf d = some (true, l)) : ∃ a xs, v = .ref a ∧ (∀ H, Same F.f H → SqT K H a xs) ∧ RpL K F l xs := by
  cases r with
  | tup a b => simp [seqOf] at h; subst h; exact ⟨_, _, rfl, fun H e => .inl (.inl (e _ _ a)), b⟩
  | kt a b => simp [seqOf] at h; subst h; exact ⟨_, _, rfl, fun H e => a.sq e, b⟩
  | _ => simp [seqOf] at h
end
end DL

set_option maxRecDepth 100000
set_option maxHeartbeats 2000000
namespace DL
open PySem PySem.Spec PyProof.Rows L2

/-! ### built-in functions -/
abbrev DRC := List D → Mp → DK → Prop
def LC (K : PySem.W.Frag) (F0 : FZ) (r' : DRC) (r : List V → Hp → VK → Prop) : Prop := ∀ (F : FZ) (M : Mp) (H : Hp) (ds : List D) (vs : List V) (Q' : DK) (Q : VK), Bs F0 F → SR K F M H → RpL K F ds vs → r' ds M Q' →
  (∀ F1 d v M1 H1, FLe F F1 → SR K F1 M1 H1 → Rp K F1 d v → Q' d M1 → Q v H1) → r vs H Q
def dCB (r : DRC) (t : DTA) : DTE := fun γ M Q => t γ M fun ds M1 => r ds M1 Q
section
variable {X : Cx} {K : PySem.W.Frag} {F0 : FZ} {e : Expr} {es : List Expr} {t : TA} {t' : DTA} {p pos : Pos} {r : List V → Hp → VK → Prop} {r' : DRC}
theorem le_cb (hl : LC K F0 r' r) (ha : LA K F0 t' t) : LE K F0 (dCB r' t') (tCB r t) := fun F γ M σ H Q' Q e0 s g q k =>
  ha F γ M σ H _ _ e0 s g q fun F1 ds vs M1 H1 e1 s1 r1 q1 => hl F1 M1 H1 ds vs _ _ (e0.tr e1) s1 r1 q1 fun F2 d v M2 H2 e2 s2 r2 q2 => k F2 d v M2 H2 (e1.trans e2) s2 r2 q2
theorem de_blt {x : Str} {id : String} (hc : CallR X (.builtin id) r) (hl : LC X.K F0 r' r) (hm : X.mg x = none) (ha : DA X F0 (e :: es) t t') (hv : bootBuiltins x = some (.builtin id) := by decide +kernel) (hg : Gl X x := by rfl) (hn : x ≠ "__name__" := by decide) (hdb : (x == ("__debug__" : Str)) = false := by decide)
    (he : starEach (e :: es) X.env = (false, eval e X.env) :: starEach es X.env := by rfl) (hpl : (backTo pos (starEach es X.env)).any (·.1) = false := by rfl) : DE X F0 (.Call (.Name x p) (e :: es) [] pos) (tCB r t) (dCB r' t') :=
  ⟨pe_callB hc hg hm hv ha.pa hn hdb he hpl, le_cb hl ha.le⟩
theorem de_bty {x : Str} {T : String} (hc : CallR X (.type T) r) (hl : LC X.K F0 r' r) (hm : X.mg x = none) (ha : DA X F0 (e :: es) t t') (hv : bootBuiltins x = some (.type T) := by decide +kernel) (hg : Gl X x := by rfl) (hn : x ≠ "__name__" := by decide) (hdb : (x == ("__debug__" : Str)) = false := by decide)
    (he : starEach (e :: es) X.env = (false, eval e X.env) :: starEach es X.env := by rfl) (hpl : (backTo pos (starEach es X.env)).any (·.1) = false := by rfl) : DE X F0 (.Call (.Name x p) (e :: es) [] pos) (tCB r t) (dCB r' t') :=
  ⟨pe_callTy hc hg hm hv ha.pa hn hdb he hpl, le_cb hl ha.le⟩
end

def keyD : Key → D
  | .inl i => .int i
  | .inr x => .str x
theorem keyD_rp {K : PySem.W.Frag} {F : FZ} : ∀ k : Key, Rp K F (keyD k) (kV k)
  | .inl i => .int i
  | .inr x => .str x
theorem keysD_rp {K : PySem.W.Frag} {F : FZ} : ∀ ks : List Key, RpL K F (ks.map keyD) (ks.map kV)
  | [] => .nil
  | k :: ks => .cons (keyD_rp k) (keysD_rp ks)
/-- how long a thing is -/
def lenV (M : Mp) : D → Option Nat
  | .lst l => some l.length
  | .tup l => some l.length
  | .kt l => some l.length
  | .str z => if z.length ≤ sizeLine then some z.length else none
  | .ref p => (match M p with
    | some (.lst l) => some l.length
    | some (.dK l) => some l.length
    | some (.dT l) => some l.length
    | _ => none)
  | .dk ks _ => some ks.length
  | _ => none
def dLen : DRC := fun ds M Q => match ds with
  | [d] => ∃ n : Nat, lenV M d = some n ∧ Q (.int n) M
  | _ => False
/-- the items of a list, a tuple, a dict -/
def itemsV (M : Mp) : D → Option (List D)
  | .lst l => some l
  | .tup l => some l
  | .kt l => some l
  | .ref p => (match M p with
    | some (.lst l) => some l
    | some (.dK l) => some (l.map fun kv => keyD kv.1)
    | some (.dT l) => some (l.map fun kv => .tup (kv.1.map keyD))
    | _ => none)
  | .dk ks _ => some (ks.map keyD)
  | .dt ks _ => some (ks.map fun k => .tup (k.map keyD))
  | _ => none
def dList : DRC := fun ds M Q => match ds with
  | [d] => ∃ l, itemsV M d = some l ∧ Q (.lst l) M
  | _ => False
def dListM : DRC := fun ds M Q => match ds with
  | [d] => ∃ l, itemsV M d = some l ∧ ∀ p, M p = none → Q (.ref p) (mset M p (.lst l))
  | _ => False
def dTuple : DRC := fun ds M Q => match ds with
  | [.lst l] => Q (.tup l) M
  | [.tup l] => Q (.tup l) M
  | [.kt l] => Q (.kt l) M
  | [.ref p] => (match M p with
    | some (.lst l) => Q (.tup l) M
    | _ => False)
  | _ => False
section
variable {X : Cx} {K : PySem.W.Frag} {F0 : FZ}
def rLenA (K : PySem.W.Frag) : List V → Hp → VK → Prop := fun xs H Q => (∃ p ys, xs = [.ref p] ∧ (SqL K H p ys ∨ SqT K H p ys) ∧ Q (.int ys.length) H) ∨ (∃ z, xs = [.str z] ∧ z.length ≤ sizeLine ∧ Q (.int z.length) H) ∨ (∃ a kvs, xs = [V.ref a] ∧ Rd H a (.dK kvs) ∧ Q (.int kvs.length) H) ∨ rLenT xs H Q
theorem call_lenA : CallR X (.builtin "len") (rLenA X.K) := by
  intro pins s σ H xs us Q I r h
  rcases h with h | h | h | h
  · exact call_len_seq pins s σ H xs us Q I r h
  · exact call_len_str pins s σ H xs us Q I r h
  · obtain ⟨a, kvs, rfl, ha, q⟩ := h
    obtain ⟨u, rfl, ru⟩ := vals1 r
    cases ru
    exact d_len I ha fun t s' I' => ⟨.int kvs.length, H, I', ⟨t, rfl⟩, q⟩
  · exact call_len_dT pins s σ H xs us Q I r h
theorem lc_len : LC K F0 dLen (rLenA K) := by
  intro F M H ds vs Q' Q e0 s r q k
  unfold dLen at q
  split at q
  · rename_i d
    obtain ⟨n, hn, q⟩ := q
    cases r with
    | cons r1 r2 =>
      cases r2
      have kk := k F (.int n) (.int n) M H (FLe.refl F) s (.int _) q
      cases r1 with
      | lst a b =>
        simp only [lenV, Option.some.injEq] at hn
        subst hn
        exact .inl ⟨_, _, rfl, .inl (SqL.of (s.fz _ _ a)), by rw [← b.length]; exact kk⟩
      | tup a b =>
        simp only [lenV, Option.some.injEq] at hn
        subst hn
        exact .inl ⟨_, _, rfl, .inr (s.sqT a), by rw [← b.length]; exact kk⟩
      | kt a b =>
        simp only [lenV, Option.some.injEq] at hn
        subst hn
        exact .inl ⟨_, _, rfl, .inr (s.sqK a), by rw [← b.length]; exact kk⟩
      | str z =>
        simp only [lenV] at hn
        split at hn
        · rename_i hz
          cases hn
          exact .inr (.inl ⟨z, rfl, hz, kk⟩)
        · cases hn
      | ref p =>
        simp only [lenV] at hn
        split at hn
        · rename_i l hm
          cases hn
          obtain ⟨u, h1, h2⟩ := s.mu p _ hm
          cases h2 with
          | lst b z => exact .inl ⟨_, _, rfl, .inl (SqL.of h1), by rw [← b.length]; exact kk⟩
        · rename_i l hm
          cases hn
          obtain ⟨u, h1, h2⟩ := s.mu p _ hm
          cases h2 with
          | dK b z => exact .inr (.inr (.inl ⟨_, _, rfl, .inl h1, by rw [← kvr_len b]; exact kk⟩))
        · rename_i l hm
          cases hn
          obtain ⟨u, h1, h2⟩ := s.mu p _ hm
          cases h2 with
          | dT b z _ => exact .inr (.inr (.inr ⟨_, _, rfl, h1, by rw [← kvr_len b]; exact kk⟩))
        · cases hn
      | dk a b =>
        simp only [lenV, Option.some.injEq] at hn
        subst hn
        rw [List.length_map] at kk
        exact .inr (.inr (.inl ⟨_, _, rfl, s.dz _ _ a, kk⟩))
      | _ => simp [lenV] at hn
  · exact q.elim
theorem de_len {e : Expr} {ta : TA} {ta' : DTA} {p pos : Pos} (hm : X.mg "len" = none) (ha : DA X F0 [e] ta ta') (hg : Gl X "len" := by rfl) (he : starEach (e :: []) X.env = (false, eval e X.env) :: starEach [] X.env := by rfl) : DE X F0 (.Call (.Name "len" p) [e] [] pos) (tCB (rLenA X.K) ta) (dCB dLen ta') :=
  de_blt call_lenA lc_len hm ha PySem.boot_len hg (by decide) (by decide) he

/-- list(d), locked or not -/
def rListR : List V → Hp → VK → Prop := fun xs H Q => ∃ p kvs, xs = [.ref p] ∧ Rd H p (.dK kvs) ∧ ∀ q, H q = none → Q (.ref q) (upd H q (.lst (kvs.map fun kv => kV kv.1)))
theorem call_listR {X : Cx} (hc : X.calm = true) : CallR X (.type "list") rListR := by
  intro pins s σ H xs us Q I r h
  obtain ⟨p, kvs, e, hk, q⟩ := h
  subst e
  obtain ⟨u, eu, rx⟩ := vals1 r
  subst eu
  obtain rfl : u = Value.ref p := rx
  obtain ⟨z, lo, vs, rk, hd⟩ := (show ObjOk X.prog X.w H s.heap p (.dK kvs) from hk.ok I.hok)
  obtain ⟨ep, hat⟩ := hd.dictAt
  have hl : kvs.length = vs.length := Paired.length rk
  refine PySem.W.kdl_call (PySem.W.kdl_dict (knd := mixKind X.prog X.w) (kvs := vs) (ep := ep) lo) (I.ok.hd hc) hat (by rw [← hl]; exact z) fun h' tk acc' c' hkeep hS hacc => ?_
  have ks : (kvs.map fun kv => kV kv.1) = (kvs.map (·.1)).map kV := by rw [List.map_map]; rfl
  refine ⟨.ref s.heap.objs.size, upd H s.heap.objs.size (.lst (kvs.map fun kv => kV kv.1)), I.laid hkeep (Nat.le_refl _) (show ObjOk X.prog X.w _ _ _ (.lst (kvs.map fun kv => kV kv.1)) from ⟨by rw [List.length_map]; exact z, acc'.toList, c', ?_, by rw [Array.toArray_toList]; exact hS⟩), rfl, q _ (I.hok.fresh (Nat.le_refl _))⟩
  have el : acc'.toList.length = acc'.size := by simp
  refine vals_of_at (by rw [List.length_map, el, hacc.1, hl]) fun j x w h1 h2 => ?_
  obtain ⟨k, y, hky, hi⟩ := hacc.2 j w (by rw [← Array.getElem?_toList]; exact h2)
  have e1 : (kvs.map (·.1))[j]? = some k := by rw [KV.keys rk, List.getElem?_map, hky]; rfl
  rw [ks, List.getElem?_map, e1] at h1
  cases h1
  exact keyIs_rel hi
def rListA (K : PySem.W.Frag) : List V → Hp → VK → Prop := fun xs H Q => (∃ p ys, xs = [.ref p] ∧ (SqL K H p ys ∨ SqT K H p ys) ∧ ∀ l, H l = none → Q (.ref l) (upd H l (.lst ys))) ∨ rListR xs H Q ∨ (∃ d kvs, xs = [V.ref d] ∧ Rd H d (.dT kvs) ∧ ∀ p bs, H p = none → IsKeys H kvs bs → Q (.ref p) (upd H p (.lst (bs.map V.ref))))
theorem call_listA (hc : X.calm = true) : CallR X (.type "list") (rListA X.K) := by
  intro pins s σ H xs us Q I r h
  rcases h with h | h | h
  · exact call_list_of pins s σ H xs us Q I r h
  · exact call_listR hc pins s σ H xs us Q I r h
  · exact call_list_dT hc pins s σ H xs us Q I r h
theorem adoptKeys {F : FZ} {M : Mp} {H : Hp} : ∀ {kvs : List (List Key × V)} {bs : List Addr}, SR K F M H → IsKeys H kvs bs → (∀ p ∈ kvs, p.1.length ≤ sizeLine) → ∃ F1, FLe F F1 ∧ SR K F1 M H ∧ RpL K F1 (kvs.map fun kv => .tup (kv.1.map keyD)) (bs.map V.ref)
  | _, _, s, .nil, _ => ⟨F, FLe.refl F, s, .nil⟩
  | kv :: kvs, b :: bs, s, .cons r t, h => by
    obtain ⟨F1, e1, s1, r1⟩ := adoptKeys s t fun p hp => h p (List.mem_cons_of_mem _ hp)
    obtain ⟨F2, e2, s2, r2⟩ := s1.adoptT r (by rw [List.length_map]; exact h kv List.mem_cons_self)
    exact ⟨F2, e1.trans e2, s2, .cons (.tup r2 (keysD_rp _)) (r1.mono e2)⟩
theorem items_rp {F : FZ} {M : Mp} {H : Hp} {d : D} {v : V} {l : List D} {Q : VK} (s : SR K F M H) (r : Rp K F d v) (h : itemsV M d = some l)
    (k : ∀ F1 ys p, FLe F F1 → SR K F1 M H → RpL K F1 l ys → ys.length ≤ sizeLine → H p = none → Q (.ref p) (upd H p (.lst ys))) : rListA K [v] H Q := by
  cases r with
  | lst a b =>
    simp only [itemsV, Option.some.injEq] at h
    subst h
    exact .inl ⟨_, _, rfl, .inl (SqL.of (s.fz _ _ a)), fun p hp => k F _ p (FLe.refl F) s b (s.lenL (SqL.of a)) hp⟩
  | tup a b =>
    simp only [itemsV, Option.some.injEq] at h
    subst h
    exact .inl ⟨_, _, rfl, .inr (s.sqT a), fun p hp => k F _ p (FLe.refl F) s b (s.lenT a) hp⟩
  | kt a b =>
    simp only [itemsV, Option.some.injEq] at h
    subst h
    exact .inl ⟨_, _, rfl, .inr (s.sqK a), fun p hp => k F _ p (FLe.refl F) s b (s.lenK a) hp⟩
  | ref p =>
    simp only [itemsV] at h
    split at h
    · rename_i hm
      cases h
      obtain ⟨u, h1, h2⟩ := s.mu p _ hm
      cases h2 with
      | lst b z => exact .inl ⟨_, _, rfl, .inl (SqL.of h1), fun p hp => k F _ p (FLe.refl F) s b z hp⟩
    · rename_i hm
      cases h
      obtain ⟨u, h1, h2⟩ := s.mu p _ hm
      cases h2 with
      | dK b z =>
        refine .inr (.inl ⟨_, _, rfl, .inl h1, fun p hp => k F _ p (FLe.refl F) s ?_ (by rw [List.length_map]; exact z) hp⟩)
        have key : ∀ {m : List (Key × D)} {n : List (Key × V)}, KVR K F m n → RpL K F (m.map fun kv => keyD kv.1) (n.map fun kv => kV kv.1) := by
          intro m n r
          induction r with
          | nil => exact .nil
          | cons h t ih =>
            rename_i a b _ _
            rw [List.map_cons, List.map_cons, ← h.1]
            exact .cons (keyD_rp _) ih
        exact key b
    · rename_i hm
      cases h
      obtain ⟨u, h1, h2⟩ := s.mu p _ hm
      cases h2 with
      | dT b z zz =>
        rename_i kvs ps
        refine .inr (.inr ⟨_, _, rfl, .inl h1, fun p bs hp hk => ?_⟩)
        obtain ⟨F1, e1, s1, r1⟩ := adoptKeys s hk zz
        have hb : ps.length = bs.length := Paired.length hk
        have em : (kvs.map fun kv => D.tup (kv.1.map keyD)) = ps.map fun kv => D.tup (kv.1.map keyD) := by
          have key : ∀ {m : List (List Key × D)} {n : List (List Key × V)}, KVR K F m n → (m.map fun kv => D.tup (kv.1.map keyD)) = n.map fun kv => D.tup (kv.1.map keyD) := by
            intro m n r
            induction r with
            | nil => rfl
            | cons h t ih => rw [List.map_cons, List.map_cons, ih, h.1]
          exact key b
        exact k F1 _ p e1 s1 (by rw [em]; exact r1) (by rw [List.length_map]; omega) hp
    · cases h
  | dk a b =>
    rename_i q ps l
    simp only [itemsV, Option.some.injEq] at h
    subst h
    have z : ps.length ≤ sizeLine := (s.df _ _ a).2.2
    refine .inr (.inl ⟨_, _, rfl, s.dz _ _ a, fun p hp => k F _ p (FLe.refl F) s ?_ (by rw [List.length_map]; exact z) hp⟩)
    have e1 : (ps.map fun kv => kV kv.1) = (ps.map (·.1)).map kV := by rw [List.map_map]; rfl
    rw [e1]
    exact keysD_rp _
  | dt a b =>
    rename_i q ps l
    simp only [itemsV, Option.some.injEq] at h
    subst h
    obtain ⟨z, zz⟩ := (show DcO (.dT ps) from (s.df _ _ a).2.2)
    refine .inr (.inr ⟨_, _, rfl, s.dz _ _ a, fun p bs hp hk => ?_⟩)
    obtain ⟨F1, e1, s1, r1⟩ := adoptKeys s hk zz
    have hb : ps.length = bs.length := Paired.length hk
    exact k F1 _ p e1 s1 (by rw [List.map_map]; exact r1) (by rw [List.length_map]; omega) hp
  | _ => simp [itemsV] at h
theorem lc_list : LC K F0 dList (rListA K) := by
  intro F M H ds vs Q' Q e0 s r q k
  unfold dList at q
  split at q
  · obtain ⟨l, hl, q⟩ := q
    cases r with
    | cons r1 r2 =>
      cases r2
      refine items_rp s r1 hl fun F1 ys p e1 s1 ry hz hp => ?_
      have e2 := same_upd (o := .lst ys) (s1.freeF hp)
      exact k _ _ _ _ _ (e1.trans e2) (s1.newF hp hz) (.lst upd_same (ry.mono e2)) q
  · exact q.elim
theorem lc_listM : LC K F0 dListM (rListA K) := by
  intro F M H ds vs Q' Q e0 s r q k
  unfold dListM at q
  split at q
  · obtain ⟨l, hl, q⟩ := q
    cases r with
    | cons r1 r2 =>
      cases r2
      refine items_rp s r1 hl fun F1 ys p e1 s1 ry hz hp => ?_
      exact k F1 _ _ _ _ e1 (s1.putN hp (.lst ry hz)) (.ref p) (q p (s1.freeM hp))
  · exact q.elim
theorem lc_tuple : LC K F0 dTuple (fun xs H Q => ∃ p ys, xs = [.ref p] ∧ ((SqL K H p ys ∧ ∀ l, H l = none → Q (.ref l) (upd H l (.tup ys))) ∨ (SqT K H p ys ∧ Q (.ref p) H))) := by
  intro F M H ds vs Q' Q e0 s r q k
  have mk : ∀ {l : List D} {ys : List V}, RpL K F l ys → ys.length ≤ sizeLine → Q' (.tup l) M → ∀ p, H p = none → Q (.ref p) (upd H p (.tup ys)) := fun {l ys} ry hz q p hp => by
    have e2 := same_upd (o := .tup ys) (s.freeF hp)
    exact k _ _ _ _ _ e2 (s.newF hp hz) (.tup upd_same (ry.mono e2)) q
  unfold dTuple at q
  split at q
  · cases r with
    | cons r1 r2 =>
      cases r2
      cases r1 with
      | lst a b => exact ⟨_, _, rfl, .inl ⟨(SqL.of (s.fz _ _ a)), mk b (s.lenL (SqL.of a)) q⟩⟩
  · cases r with
    | cons r1 r2 =>
      cases r2
      cases r1 with
      | tup a b => exact ⟨_, _, rfl, .inr ⟨s.sqT a, k F _ _ M H (FLe.refl F) s (.tup a b) q⟩⟩
  · cases r with
    | cons r1 r2 =>
      cases r2
      cases r1 with
      | kt a b => exact ⟨_, _, rfl, .inr ⟨s.sqK a, k F _ _ M H (FLe.refl F) s (.kt a b) q⟩⟩
  · cases r with
    | cons r1 r2 =>
      cases r2
      cases r1
      split at q
      · rename_i hm
        obtain ⟨u, h1, h2⟩ := s.mu _ _ hm
        cases h2 with
        | lst b z => exact ⟨_, _, rfl, .inl ⟨SqL.of h1, mk b z q⟩⟩
      · exact q.elim
  · exact q.elim
/-- min, max of two; abs, int -/
def dII2 (g : Int → Int → Int) : DRC := fun ds M Q => match ds with
  | [.int i, .int j] => Q (.int (g i j)) M
  | _ => False
theorem lc_min2 : LC K F0 (dII2 fun i j => if j < i then j else i) (fun xs H Q => ∃ i j, xs = [.int i, .int j] ∧ Q (.int (if j < i then j else i)) H) := by
  intro F M H ds vs Q' Q e0 s r q k
  unfold dII2 at q
  split at q
  · cases r with
    | cons r1 r2 =>
      cases r2 with
      | cons r2 r3 =>
        cases r3; cases r1; cases r2
        exact ⟨_, _, rfl, k F _ _ M H (FLe.refl F) s (.int _) q⟩
  · exact q.elim
theorem lc_max2 : LC K F0 (dII2 fun i j => if j > i then j else i) (fun xs H Q => ∃ i j, xs = [.int i, .int j] ∧ Q (.int (if j > i then j else i)) H) := by
  intro F M H ds vs Q' Q e0 s r q k
  unfold dII2 at q
  split at q
  · cases r with
    | cons r1 r2 =>
      cases r2 with
      | cons r2 r3 =>
        cases r3; cases r1; cases r2
        exact ⟨_, _, rfl, k F _ _ M H (FLe.refl F) s (.int _) q⟩
  · exact q.elim
def dAbs : DRC := fun ds M Q => match ds with
  | [.int i] => Q (.int (if i < 0 then -i else i)) M
  | _ => False
theorem lc_abs : LC K F0 dAbs (fun xs H Q => ∃ i, xs = [.int i] ∧ Q (.int (if i < 0 then -i else i)) H) := by
  intro F M H ds vs Q' Q e0 s r q k
  unfold dAbs at q
  split at q
  · cases r with
    | cons r1 r2 =>
      cases r2; cases r1
      exact ⟨_, rfl, k F _ _ M H (FLe.refl F) s (.int _) q⟩
  · exact q.elim
def dInt : DRC := fun ds M Q => match ds with
  | [.int i] => Q (.int i) M
  | [.bl b] => Q (.int (if b then 1 else 0)) M
  | _ => False
theorem lc_int : LC K F0 dInt (fun xs H Q => (∃ i, xs = [.int i] ∧ Q (.int i) H) ∨ ∃ k, xs = [.bl k] ∧ Q (.int (if k then 1 else 0)) H) := by
  intro F M H ds vs Q' Q e0 s r q k
  unfold dInt at q
  split at q
  · cases r with
    | cons r1 r2 =>
      cases r2; cases r1
      exact .inl ⟨_, rfl, k F _ _ M H (FLe.refl F) s (.int _) q⟩
  · cases r with
    | cons r1 r2 =>
      cases r2; cases r1
      exact .inr ⟨_, rfl, k F _ _ M H (FLe.refl F) s (.int _) q⟩
  · exact q.elim
/-- all, any of a list of flags -/
def dFlags (g : List Bool → Bool) : DRC := fun ds M Q => match ds with
  | [.lst l] => ∃ bs : List Bool, l = bs.map .bl ∧ Q (.bl (g bs)) M
  | _ => False
theorem lc_flags {g : List Bool → Bool} : LC K F0 (dFlags g) (fun vs H Q => ∃ (a : Addr) (bs : List Bool), vs = [V.ref a] ∧ SqL K H a (bs.map V.bl) ∧ Q (.bl (g bs)) H) := by
  intro F M H ds vs Q' Q e0 s r q k
  unfold dFlags at q
  split at q
  · obtain ⟨bs, hb, q⟩ := q
    subst hb
    cases r with
    | cons r1 r2 =>
      cases r2
      cases r1 with
      | lst a b =>
        have e := RpL.bl bs b
        subst e
        exact ⟨_, bs, rfl, (SqL.of (s.fz _ _ a)), k F _ _ M H (FLe.refl F) s (.bl _) q⟩
  · exact q.elim
/-- sorted, of ints -/
def dSortI : DRC := fun ds M Q => match ds with
  | [d] => ∃ ns : List Int, (d = .lst (ns.map .int) ∨ ∃ p, d = .ref p ∧ M p = some (.lst (ns.map .int))) ∧ ∀ ns' : List Int, ns'.Perm ns → ns'.Pairwise (· ≤ ·) → Q (.lst (ns'.map .int)) M
  | _ => False
theorem lc_sortI : LC K F0 dSortI (rSortedI K) := by
  intro F M H ds vs Q' Q e0 s r q k
  unfold dSortI at q
  split at q
  · obtain ⟨ns, hd, q⟩ := q
    have mk : ∀ (a : Addr), SqL K H a (ns.map V.int) → ns.length ≤ sizeLine → rSortedI K [.ref a] H Q := fun a ha hz => by
      refine ⟨a, ns, rfl, ha, fun ns' p h1 h2 hp => ?_⟩
      have e2 := same_upd (o := .lst (ns'.map V.int)) (s.freeF hp)
      exact k _ _ _ _ _ e2 (s.newF hp (by show (ns'.map V.int).length ≤ sizeLine; rw [List.length_map, h1.length_eq]; exact hz)) (.lst upd_same (RpL.ofInt ns')) (q ns' h1 h2)
    cases r with
    | cons r1 r2 =>
      cases r2
      rcases hd with rfl | ⟨p, rfl, hm⟩
      · cases r1 with
        | lst a b =>
          have e := RpL.int ns b
          subst e
          exact mk _ (SqL.of (s.fz _ _ a)) (by have := s.lenL (SqL.of a); rw [List.length_map] at this; exact this)
      · cases r1
        obtain ⟨u, h1, h2⟩ := s.mu p _ hm
        cases h2 with
        | lst b z =>
          have e := RpL.int ns b
          subst e
          exact mk p (SqL.of h1) (by rw [List.length_map] at z; exact z)
  · exact q.elim
end
end DL

set_option maxRecDepth 100000
set_option maxHeartbeats 2000000
namespace DL
open PySem PySem.Spec PyProof.Rows L2

/-! ### sorted, of pairs of ints -/
def prD (p : Int × Int) : D := .tup [.int p.1, .int p.2]
def dSortP : DRC := fun ds M Q => match ds with
  | [d] => ∃ ps : List (Int × Int), (d = .lst (ps.map prD) ∨ ∃ p, d = .ref p ∧ M p = some (.lst (ps.map prD))) ∧ ∀ qs : List (Int × Int), qs.Perm ps → SrtO.Srtd SrtO.lexB qs → Q (.lst (qs.map prD)) M
  | _ => False
/-- the two ints of a frozen pair -/
def prOf (F : Hp) (v : V) : Int × Int := match v with
  | .ref t => (match F t with
    | some (.tup [.int i, .int j]) => (i, j)
    | _ => (0, 0))
  | _ => (0, 0)
section
variable {X : Cx} {K : PySem.W.Frag} {F0 : FZ}
theorem prs_rp {F : FZ} : ∀ {ps : List (Int × Int)} {xs : List V}, RpL K F (ps.map prD) xs → ps = xs.map (prOf F.f) ∧ ∀ x ∈ xs, ∃ t, x = V.ref t ∧ F.f t = some (.tup [.int (prOf F.f x).1, .int (prOf F.f x).2])
  | [], _, .nil => ⟨rfl, fun x h => by cases h⟩
  | p :: ps, _, .cons r t => by
    obtain ⟨h1, h2⟩ := prs_rp t
    cases r with
    | tup a b =>
      rename_i t' ys
      cases b with
      | cons b1 b2 =>
        cases b2 with
        | cons b2 b3 =>
          cases b3
          cases b1
          cases b2
          have e : prOf F.f (.ref t') = (p.1, p.2) := by simp only [prOf, a]
          refine ⟨by rw [List.map_cons, e, ← h1], fun x hx => ?_⟩
          rcases List.mem_cons.mp hx with rfl | hx
          · exact ⟨t', rfl, by rw [e]; exact a⟩
          · exact h2 x hx
theorem rp_prs {F : FZ} : ∀ {xs : List V}, (∀ x ∈ xs, ∃ t, x = V.ref t ∧ F.f t = some (.tup [.int (prOf F.f x).1, .int (prOf F.f x).2])) → RpL K F ((xs.map (prOf F.f)).map prD) xs
  | [], _ => .nil
  | x :: xs, h => by
    obtain ⟨t, rfl, ht⟩ := h x List.mem_cons_self
    exact .cons (.tup ht (.cons (.int _) (.cons (.int _) .nil))) (rp_prs fun y hy => h y (List.mem_cons_of_mem _ hy))
theorem lc_sortP : LC K F0 dSortP (rSortedPO K) := by
  intro F M H ds vs Q' Q e0 s r q k
  unfold dSortP at q
  split at q
  · obtain ⟨ps, hd, q⟩ := q
    have mk : ∀ (a : Addr) (xs : List V), SqL K H a xs → xs.length ≤ sizeLine → RpL K F (ps.map prD) xs → rSortedPO K [.ref a] H Q := fun a xs ha hz rl => by
      obtain ⟨h1, h2⟩ := prs_rp rl
      refine ⟨a, xs, prOf F.f, rfl, ha, fun x hx => ?_, fun ys p hs hp hn => ?_⟩
      · obtain ⟨t, e1, e2⟩ := h2 x hx
        exact ⟨t, e1, s.fz _ _ e2⟩
      · have e2 := same_upd (o := .lst ys) (s.freeF hn)
        have hy : RpL K F ((ys.map (prOf F.f)).map prD) ys := rp_prs fun y hy => h2 y (hp.perm.mem_iff.mp hy)
        refine k _ _ _ _ _ e2 (s.newF hn (by show ys.length ≤ sizeLine; rw [hp.perm.length_eq]; exact hz)) (.lst upd_same (hy.mono e2)) (q _ (by rw [h1]; exact hp.perm.map _) (SrtO.srtd_map hs))
    cases r with
    | cons r1 r2 =>
      cases r2
      rcases hd with rfl | ⟨p, rfl, hm⟩
      · cases r1 with
        | lst a b => exact mk _ _ (SqL.of (s.fz _ _ a)) (s.lenL (SqL.of a)) b
      · cases r1
        obtain ⟨u, h1, h2⟩ := s.mu p _ hm
        cases h2 with
        | lst b z => exact mk p _ (SqL.of h1) z b
  · exact q.elim

/-! ### isinstance, built-in types -/
def tyN (M : Mp) : D → Option String
  | .non => some "NoneType"
  | .bl _ => some "bool"
  | .int _ => some "int"
  | .str _ => some "str"
  | .lst _ => some "list"
  | .tup _ => some "tuple"
  | .kt _ => some "tuple"
  | .ref p => (match M p with
    | some (.lst _) => some "list"
    | some (.dK _) => some "dict"
    | some (.dT _) => some "dict"
    | _ => none)
  | .ty _ => none
  | .ls _ => none
  | .dk _ _ => some "dict"
  | .dt _ _ => none
def isiT (T n : String) : Bool := T == n || (T == "bool" && n == "int")
theorem kitB_tab : ∀ T ∈ (["NoneType", "bool", "int", "str", "list", "tuple", "dict"] : List String), ∀ n ∈ (["NoneType", "bool", "int", "str", "list", "tuple", "dict"] : List String), kitB T n = some (isiT T n) := by decide +kernel
def isTab (n : String) : Bool := ["NoneType", "bool", "int", "str", "list", "tuple", "dict"].contains n
theorem isTab_mem {n : String} (h : isTab n = true) : n ∈ (["NoneType", "bool", "int", "str", "list", "tuple", "dict"] : List String) := by simpa [isTab] using h
theorem tyN_tab {M : Mp} {d : D} {T : String} (h : tyN M d = some T) : T ∈ (["NoneType", "bool", "int", "str", "list", "tuple", "dict"] : List String) := by
  unfold tyN at h
  split at h <;> (try (simp at h; done)) <;> first
    | (cases h; simp; done)
    | (split at h <;> first | (cases h; simp; done) | cases h)
theorem tyN_rp {F : FZ} {M : Mp} {H : Hp} {d : D} {v : V} {T : String} (s : SR K F M H) (r : Rp K F d v) (h : tyN M d = some T) : TyX K H v (.type T) := by
  cases r with
  | non => cases h; exact .base .non
  | bl b => cases h; exact .base (.bl b)
  | int i => cases h; exact .base (.int i)
  | str x => cases h; exact .base (.str x)
  | lst a b =>
    cases h
    exact .base (.lst (s.fz _ _ a))
  | tup a b => cases h; exact .base (.tup (s.fz _ _ a))
  | kt a b =>
    cases h
    rcases a with ⟨o, its, n, z, c, _⟩ | ⟨o, z, _⟩
    · exact .kTuple z c
    · exact .fTuple (s.fz _ _ z)
  | ref p =>
    simp only [tyN] at h
    split at h
    · rename_i hm
      cases h
      obtain ⟨u, h1, h2⟩ := s.mu p _ hm
      cases h2
      exact .base (.lst h1)
    · rename_i hm
      cases h
      obtain ⟨u, h1, h2⟩ := s.mu p _ hm
      cases h2
      exact .base (.dK h1)
    · rename_i hm
      cases h
      obtain ⟨u, h1, h2⟩ := s.mu p _ hm
      cases h2
      exact .base (.dT h1)
    · cases h
  | ty n => cases h
  | ls a b => cases h
  | dk a b =>
    cases h
    rcases s.dz _ _ a with z | ⟨o, z⟩
    · exact .base (.dK z)
    · exact .fDict z
  | dt a b => cases h
def dIsi : DRC := fun ds M Q => match ds with
  | [x, .ty n] => isTab n = true ∧ ∃ T, tyN M x = some T ∧ Q (.bl (isiT T n)) M
  | _ => False
theorem lc_isi : LC K F0 dIsi (rIsi K) := by
  intro F M H ds vs Q' Q e0 s r q k
  unfold dIsi at q
  split at q
  · obtain ⟨hn, T, hT, q⟩ := q
    cases r with
    | cons r1 r2 =>
      cases r2 with
      | cons r2 r3 =>
        cases r3
        cases r2
        exact ⟨_, _, _, _, _, rfl, .ty _, tyN_rp s r1 hT, kit_ty (kitB_tab _ (tyN_tab hT) _ (isTab_mem hn)), k F _ _ M H (FLe.refl F) s (.bl _) q⟩
  · exact q.elim
theorem de_ty {x : Str} {n : String} {pos : Pos} (hm : X.mg x = none) (hv : bootBuiltins x = some (.type n) := by decide +kernel) (hg : Gl X x := by rfl) (hn : x ≠ "__name__" := by decide) (hd : (x == ("__debug__" : Str)) = false := by decide) : DE X F0 (.Name x pos) (tC (.ty n)) (dC (.ty n)) :=
  ⟨pe_bltn hg hm hv rfl hn hd, le_c fun _ => .ty n⟩
theorem de_isi {e e2 : Expr} {ta : TA} {ta' : DTA} {p pos : Pos} (hm : X.mg "isinstance" = none) (ha : DA X F0 [e, e2] ta ta') (hg : Gl X "isinstance" := by rfl) (he : starEach [e, e2] X.env = (false, eval e X.env) :: starEach [e2] X.env := by rfl) (hpl : (backTo pos (starEach [e2] X.env)).any (·.1) = false := by rfl) :
    DE X F0 (.Call (.Name "isinstance" p) [e, e2] [] pos) (tCB (rIsi X.K) ta) (dCB dIsi ta') := de_blt call_isi lc_isi hm ha (by decide +kernel) hg (by decide) (by decide) he hpl
end

/-! ### methods of built-in types -/
abbrev DRM := D → List D → Mp → DK → Prop
def LM (K : PySem.W.Frag) (F0 : FZ) (r' : DRM) (r : V → List V → Hp → VK → Prop) : Prop := ∀ (F : FZ) (M : Mp) (H : Hp) (o : D) (x : V) (ds : List D) (vs : List V) (Q' : DK) (Q : VK), Bs F0 F → SR K F M H → Rp K F o x → RpL K F ds vs → r' o ds M Q' →
  (∀ F1 d v M1 H1, FLe F F1 → SR K F1 M1 H1 → Rp K F1 d v → Q' d M1 → Q v H1) → r x vs H Q
def tyD (T : String) (M : Mp) : D → Prop
  | .lst _ => T = "list"
  | .str _ => T = "str"
  | .kt _ => T = "tuple"
  | .ref p => (match M p with
    | some (.lst _) => T = "list"
    | some (.dK _) => T = "dict"
    | some (.dT _) => T = "dict"
    | _ => False)
  | _ => False
def dBM0 (T : String) (r : DRM) (to : DTE) : DTE := fun γ M Q => to γ M fun x M1 => tyD T M1 x ∧ r x [] M1 Q
def dBM (T : String) (r : DRM) (to : DTE) (t : DTA) : DTE := fun γ M Q => to γ M fun x M1 => tyD T M1 x ∧ t γ M1 fun xs M2 => r x xs M2 Q
section
variable {X : Cx} {K : PySem.W.Frag} {F0 : FZ} {o e : Expr} {es : List Expr} {to : TE} {to' : DTE} {t : TA} {t' : DTA} {name : Str} {apos cpos : Pos} {T id : String} {r : V → List V → Hp → VK → Prop} {r' : DRM}
theorem tyD_rp {F : FZ} {M : Mp} {H : Hp} {d : D} {v : V} (s : SR K F M H) (r : Rp K F d v) (hk : T ≠ "tuple") (h : tyD T M d) : tyV K T v H := by
  cases r with
  | lst a b => exact .inl ⟨h, _, SqL.of (s.fz _ _ a)⟩
  | str z => exact h
  | kt a b => exact absurd h hk
  | ref p =>
    simp only [tyD] at h
    split at h
    · rename_i hm
      obtain ⟨u, h1, h2⟩ := s.mu p _ hm
      cases h2
      exact .inl ⟨h, _, SqL.of h1⟩
    · rename_i hm
      obtain ⟨u, h1, h2⟩ := s.mu p _ hm
      cases h2
      exact .inr (.inr (.inl ⟨h, .inl ⟨_, h1⟩⟩))
    · rename_i hm
      obtain ⟨u, h1, h2⟩ := s.mu p _ hm
      cases h2
      exact .inr (.inr (.inl ⟨h, .inr ⟨_, h1⟩⟩))
    · exact h.elim
  | _ => exact False.elim h
theorem de_bm0 (pa : PlainAttrs T) (slot : Slot T name id) (hty : typeOf (.builtin id) = pure (.type "method_descriptor")) (hm : MtR X id r) (hl : LM X.K F0 r' r) (ho : DE X F0 o to to') (hk : T ≠ "tuple" := by decide)
    (hbase : attributeBase o name X.env (eval o X.env) = eval o X.env := by rfl) (hline : (apos.endLine == cpos.line) = true := by rfl) : DE X F0 (.Call (.Attribute o name apos) [] [] cpos) (tBM0 X.K T r to) (dBM0 T r' to') :=
  ⟨pe_bm0 pa slot hty hm ho.pe hbase hline, fun F γ M σ H Q' Q e0 s g q k => ho.le F γ M σ H _ _ e0 s g q fun F1 d v M1 H1 e1 s1 r1 q1 =>
    ⟨tyD_rp s1 r1 hk q1.1, hl F1 M1 H1 d v [] [] _ _ (e0.tr e1) s1 r1 .nil q1.2 fun F2 d2 v2 M2 H2 e2 s2 r2 q2 => k F2 d2 v2 M2 H2 (e1.trans e2) s2 r2 q2⟩⟩
theorem de_bm (pa : PlainAttrs T) (slot : Slot T name id) (hty : typeOf (.builtin id) = pure (.type "method_descriptor")) (hm : MtR X id r) (hl : LM X.K F0 r' r) (ho : DE X F0 o to to') (ha : DA X F0 (e :: es) t t') (hk : T ≠ "tuple" := by decide)
    (hbase : attributeBase o name X.env (eval o X.env) = eval o X.env := by rfl)
    (hfew : ((backTo cpos (starEach (e :: es) X.env)).all (fun x => !x.1) && (backToKw cpos (keywordEach [] X.env)).all (fun x => x.1.isSome) && decide ((e :: es).length + ([] : List Keyword).length + (if ([] : List Keyword).isEmpty then 0 else 1) < 30)) = true := by rfl)
    (hline : (apos.endLine == cpos.line) = true := by rfl) (hs : starEach (e :: es) X.env = (false, eval e X.env) :: starEach es X.env := by rfl) (hplain : (backTo cpos (starEach es X.env)).any (·.1) = false := by rfl) :
    DE X F0 (.Call (.Attribute o name apos) (e :: es) [] cpos) (tBM X.K T r to t) (dBM T r' to' t') :=
  ⟨pe_bm pa slot hty hm ho.pe ha.pa hbase hfew hline hs hplain, fun F γ M σ H Q' Q e0 s g q k => ho.le F γ M σ H _ _ e0 s g q fun F1 d v M1 H1 e1 s1 r1 q1 =>
    ⟨tyD_rp s1 r1 hk q1.1, ha.le F1 γ M1 σ H1 _ _ (e0.tr e1) s1 (g.mono e1) q1.2 fun F2 ds vs M2 H2 e2 s2 r2 q2 => hl F2 M2 H2 d v ds vs _ _ ((e0.tr e1).tr e2) s2 (r1.mono e2) r2 q2 fun F3 d3 v3 M3 H3 e3 s3 r3 q3 => k F3 d3 v3 M3 H3 ((e1.trans e2).trans e3) s3 r3 q3⟩⟩
def dAppend : DRM := fun x ds M Q => match x, ds with
  | .ref p, [d] => (match M p with
    | some (.lst l) => l.length < sizeLine ∧ Q .non (mset M p (.lst (l ++ [d])))
    | _ => False)
  | _, _ => False
theorem lm_append : LM K F0 dAppend rAppend := by
  intro F M H o x ds vs Q' Q e0 s r rs q k
  unfold dAppend at q
  split at q
  · rename_i p d
    split at q
    · rename_i l hm
      obtain ⟨hl, q⟩ := q
      obtain ⟨u, h1, h2⟩ := s.mu p _ hm
      cases h2 with
      | lst b z =>
        cases r
        cases rs with
        | cons r1 r2 =>
          cases r2
          have hl2 := b.length ▸ hl
          exact ⟨p, _, _, rfl, rfl, h1, hl2, k F _ _ _ _ (FLe.refl F) (s.putM hm (.lst (b.append (.cons r1 .nil)) (by rw [List.length_append]; simp; omega))) .non q⟩
    · exact q.elim
  · exact q.elim
def dPop : DRM := fun x ds M Q => match x, ds with
  | .ref p, [] => (match M p with
    | some (.lst l) => ∃ d, l.getLast? = some d ∧ Q d (mset M p (.lst l.dropLast))
    | _ => False)
  | _, _ => False
theorem lm_pop : LM K F0 dPop rPop := by
  intro F M H o x ds vs Q' Q e0 s r rs q k
  unfold dPop at q
  split at q
  · rename_i p
    split at q
    · rename_i l hm
      obtain ⟨d, hd, q⟩ := q
      obtain ⟨u, h1, h2⟩ := s.mu p _ hm
      cases h2 with
      | lst b z =>
        rename_i xs
        cases r
        cases rs
        rw [List.getLast?_eq_getElem?] at hd
        obtain ⟨v, e1, e2⟩ := b.get hd
        rw [b.length] at e1
        exact ⟨p, _, v, rfl, rfl, h1, e1, k F _ _ _ _ (FLe.refl F) (s.putM hm (.lst b.dropLast (by rw [List.length_dropLast]; omega))) e2 q⟩
    · exact q.elim
  · exact q.elim
def dPopAt : DRM := fun x ds M Q => match x, ds with
  | .ref p, [.int i] => (match M p with
    | some (.lst l) => ∃ (j : Nat) (d : D), ixN l.length i = some j ∧ l[j]? = some d ∧ Q d (mset M p (.lst (l.eraseIdx j)))
    | _ => False)
  | _, _ => False
theorem lm_popAt : LM K F0 dPopAt rPopAt := by
  intro F M H o x ds vs Q' Q e0 s r rs q k
  unfold dPopAt at q
  split at q
  · rename_i p i
    split at q
    · rename_i l hm
      obtain ⟨j, d, hj, hd, q⟩ := q
      obtain ⟨u, h1, h2⟩ := s.mu p _ hm
      cases h2 with
      | lst b z =>
        rename_i xs
        cases r
        cases rs with
        | cons r1 r2 =>
          cases r2
          cases r1
          rw [b.length] at hj
          obtain ⟨g1, g2, g3, g4⟩ := ixN_seq hj
          obtain ⟨v, e1, e2⟩ := b.get hd
          have hn := line63
          have hz := sizeLine_eq
          refine ⟨p, xs, i, j, v, rfl, rfl, h1, by omega, by omega, g1, e1, k F _ _ _ _ (FLe.refl F) (s.putM hm (.lst (b.eraseIdx j) ?_)) e2 q⟩
          have := List.length_eraseIdx_le xs j
          omega
    · exact q.elim
  · exact q.elim
theorem de_append {ta : TA} {ta' : DTA} (ho : DE X F0 o to to') (ha : DA X F0 [e] ta ta') (hbase : attributeBase o "append" X.env (eval o X.env) = eval o X.env := by rfl)
    (hfew : ((backTo cpos (starEach [e] X.env)).all (fun x => !x.1) && (backToKw cpos (keywordEach [] X.env)).all (fun x => x.1.isSome) && decide ([e].length + ([] : List Keyword).length + (if ([] : List Keyword).isEmpty then 0 else 1) < 30)) = true := by rfl)
    (hline : (apos.endLine == cpos.line) = true := by rfl) (hs : starEach [e] X.env = (false, eval e X.env) :: starEach [] X.env := by rfl) : DE X F0 (.Call (.Attribute o "append" apos) [e] [] cpos) (tBM X.K "list" rAppend to ta) (dBM "list" dAppend to' ta') :=
  de_bm PySem.F.plainAttrs_list PySem.F.slot_list_append PySem.F.type_list_append mt_append lm_append ho ha (by decide) hbase hfew hline hs rfl
theorem de_pop (ho : DE X F0 o to to') (hbase : attributeBase o "pop" X.env (eval o X.env) = eval o X.env := by rfl) (hline : (apos.endLine == cpos.line) = true := by rfl) : DE X F0 (.Call (.Attribute o "pop" apos) [] [] cpos) (tBM0 X.K "list" rPop to) (dBM0 "list" dPop to') :=
  de_bm0 PySem.F.plainAttrs_list PySem.F.slot_list_pop PySem.F.type_list_pop mt_pop lm_pop ho (by decide) hbase hline
theorem de_popAt {ta : TA} {ta' : DTA} (ho : DE X F0 o to to') (ha : DA X F0 [e] ta ta') (hbase : attributeBase o "pop" X.env (eval o X.env) = eval o X.env := by rfl)
    (hfew : ((backTo cpos (starEach [e] X.env)).all (fun x => !x.1) && (backToKw cpos (keywordEach [] X.env)).all (fun x => x.1.isSome) && decide ([e].length + ([] : List Keyword).length + (if ([] : List Keyword).isEmpty then 0 else 1) < 30)) = true := by rfl)
    (hline : (apos.endLine == cpos.line) = true := by rfl) (hs : starEach [e] X.env = (false, eval e X.env) :: starEach [] X.env := by rfl) : DE X F0 (.Call (.Attribute o "pop" apos) [e] [] cpos) (tBM X.K "list" rPopAt to ta) (dBM "list" dPopAt to' ta') :=
  de_bm PySem.F.plainAttrs_list PySem.F.slot_list_pop PySem.F.type_list_pop mt_popAt lm_popAt ho ha (by decide) hbase hfew hline hs rfl
end
end DL

set_option maxRecDepth 100000
set_option maxHeartbeats 2000000
namespace DL
open PySem PySem.Spec PyProof.Rows L2

section
variable {X : Cx} {K : PySem.W.Frag} {F0 : FZ} {a b c e o : Expr} {es rest : List Expr} {ta tb tc te to : TE} {ta' tb' tc' te' to' : DTE} {pos : Pos}
/-! ### chains, and | or | not as values, truth -/
theorem le_chain {r r' : R2} {d d' : DR2} (hr : L2r K F0 d r) (hr' : L2r K F0 d' r') (ha : LE K F0 ta' ta) (hb : LE K F0 tb' tb) (hc : LE K F0 tc' tc) : LE K F0 (dChain d d' ta' tb' tc') (tChain r r' ta tb tc) := by
  intro F γ M σ H Q' Q e0 s g h k
  refine ha F γ M σ H _ _ e0 s g h fun F1 d1 v1 M1 H1 e1 s1 r1 q1 => ?_
  refine hb F1 γ M1 σ H1 _ _ (e0.tr e1) s1 (g.mono e1) q1 fun F2 d2 v2 M2 H2 e2 s2 r2 q2 => ?_
  refine hr F2 M2 H2 d1 d2 v1 v2 _ _ ((e0.tr e1).tr e2) s2 (r1.mono e2) r2 q2 fun F3 d3 v3 M3 H3 e3 s3 r3 q3 => ?_
  split at q3
  · cases r3
    refine ⟨true, rfl, ?_⟩
    refine hc F3 γ M3 σ H3 _ _ (((e0.tr e1).tr e2).tr e3) s3 (g.mono ((e1.trans e2).trans e3)) q3 fun F4 d4 v4 M4 H4 e4 s4 r4 q4 => ?_
    exact hr' F4 M4 H4 d2 d4 v2 v4 _ _ ((((e0.tr e1).tr e2).tr e3).tr e4) s4 (r2.mono (e3.trans e4)) r4 q4 fun F5 d5 v5 M5 H5 e5 s5 r5 q5 => k F5 d5 v5 M5 H5 ((((e1.trans e2).trans e3).trans e4).trans e5) s5 r5 q5
  · cases r3
    exact ⟨false, rfl, k F3 _ _ M3 H3 ((e1.trans e2).trans e3) s3 (.bl _) q3⟩
  · exact q3.elim
theorem de_chain {op op' : CmpOp} {r r' : R2} {d d' : DR2} (ho : OpR X (compareOp op) r) (hr : L2r X.K F0 d r) (ho' : OpR X (compareOp op') r') (hr' : L2r X.K F0 d' r') (ha : DE X F0 a ta ta') (hb : DE X F0 b tb tb') (hc : DE X F0 c tc tc')
    (hm : lastMarks [op, op'] [b, c] = false := by with_unfolding_all rfl) : DE X F0 (.Compare a [op, op'] [b, c] pos) (tChain r r' ta tb tc) (dChain d d' ta' tb' tc') :=
  ⟨pe_chain ho ho' ha.pe hb.pe hc.pe hm, le_chain hr hr' ha.le hb.le hc.le⟩
def dAndV (ta tb : DTE) : DTE := fun γ M Q => ta γ M fun x M1 => match x with
  | .bl c => if c = true then tb γ M1 Q else Q (.bl false) M1
  | _ => False
def dNotV (ta : DTE) : DTE := fun γ M Q => ta γ M fun x M1 => match x with
  | .bl c => Q (.bl (!c)) M1
  | _ => False
theorem de_one {op : BoolOp} (h : DE X F0 a ta ta') : DE X F0 (.BoolOp op [a] pos) ta ta' := ⟨pe_one h.pe, h.le⟩
theorem de_and (ha : DE X F0 a ta ta') (hb : DE X F0 (.BoolOp .And (b :: rest) pos) tb tb') : DE X F0 (.BoolOp .And (a :: b :: rest) pos) (tAndV ta tb) (dAndV ta' tb') := ⟨pe_and ha.pe hb.pe, fun F γ M σ H Q' Q e0 s g h k => by
  refine ha.le F γ M σ H _ _ e0 s g h fun F1 d1 v1 M1 H1 e1 s1 r1 q1 => ?_
  split at q1
  · rename_i c
    cases r1
    refine ⟨c, rfl, ?_⟩
    cases c with
    | true => exact hb.le F1 γ M1 σ H1 _ _ (e0.tr e1) s1 (g.mono e1) q1 fun F2 d2 v2 M2 H2 e2 s2 r2 q2 => k F2 d2 v2 M2 H2 (e1.trans e2) s2 r2 q2
    | false => exact k F1 _ _ M1 H1 e1 s1 (.bl _) q1
  · exact q1.elim⟩
theorem de_not (ha : DE X F0 a ta ta') : DE X F0 (.UnaryOp .Not a pos) (tNotV ta) (dNotV ta') := ⟨pe_not ha.pe, fun F γ M σ H Q' Q e0 s g h k => by
  refine ha.le F γ M σ H _ _ e0 s g h fun F1 d1 v1 M1 H1 e1 s1 r1 q1 => ?_
  split at q1
  · cases r1
    exact ⟨_, rfl, k F1 _ _ M1 H1 e1 s1 (.bl _) q1⟩
  · exact q1.elim⟩
/-- unary minus -/
def dNeg (ta : DTE) : DTE := fun γ M Q => ta γ M fun x M1 => match x with
  | .int i => Q (.int (-i)) M1
  | _ => False
theorem de_neg (ha : DE X F0 a ta ta') : DE X F0 (.UnaryOp .USub a pos) (tUn (rU fun i => .int (-i)) ta) (dNeg ta') := ⟨pe_un un_neg ha.pe, fun F γ M σ H Q' Q e0 s g h k => by
  refine ha.le F γ M σ H _ _ e0 s g h fun F1 d1 v1 M1 H1 e1 s1 r1 q1 => ?_
  split at q1
  · cases r1
    exact ⟨_, rfl, k F1 _ _ M1 H1 e1 s1 (.int _) q1⟩
  · exact q1.elim⟩
/-! ### in -/
/-- y in x -/
def inV' (M : Mp) (y : D) : D → Option Bool
  | .lst l => if y.ok 60 = true ∧ D.ok (.lst l) 60 = true then some (l.any fun z => D.eq z y) else none
  | .tup l => if y.ok 60 = true ∧ D.ok (.tup l) 60 = true then some (l.any fun z => D.eq z y) else none
  | .kt l => if y.ok 60 = true ∧ D.ok (.kt l) 60 = true then some (l.any fun z => D.eq z y) else none
  | .str z => (match y with
    | .str x => some (!(Builtin.Str.occurrences z x 0 z.length 1).isEmpty)
    | _ => none)
  | .ref p => (match M p with
    | some (.lst l) => if y.ok 60 = true ∧ D.ok (.lst l) 60 = true then some (l.any fun z => D.eq z y) else none
    | _ => (dLook M p y).map (·.isSome))
  | .dk ks l => (dkLook (.dk ks l) y).map (·.isSome)
  | .dt ks l => (dkLook (.dt ks l) y).map (·.isSome)
  | _ => none
def dIn (neg : Bool) : DR2 := fun y x M Q => ∃ k, inV' M y x = some k ∧ Q (.bl (if neg then !k else k)) M
def rInTD (K : PySem.W.Frag) : R2 := fun x y H Q => ∃ d ds, Dp K H x d ∧ Dp K H y (.tuple ds) ∧ SeqAt.shaped d = true ∧ SeqAt.shaped (.tuple ds) = true ∧ Q (.bl (ds.any fun z => PyData.eqv z d)) H
def rNotInTD (K : PySem.W.Frag) : R2 := fun x y H Q => ∃ d ds, Dp K H x d ∧ Dp K H y (.tuple ds) ∧ SeqAt.shaped d = true ∧ SeqAt.shaped (.tuple ds) = true ∧ Q (.bl (!ds.any fun z => PyData.eqv z d)) H
theorem op_inTD (hu : X.A.units + 65 < cLine) : OpR X (compareOp .In) (rInTD X.K) := by
  intro pins s σ H x y v u Q I rx ry h
  obtain ⟨d, ds, hd, he, sd, se, q⟩ := h
  obtain ⟨as, r1⟩ := Dp.reads I d x v hd rx
  obtain ⟨bs, r2⟩ := Dp.reads I (.tuple ds) y u he ry
  exact SeqAt.in_tuple_reads r2 r1 (by have := SeqAt.canLay_of_shaped se; simpa [PyData.canLay0] using this) (SeqAt.canLay_of_shaped sd) (room_in_shaped sd hu) ⟨.bl _, H, I, rfl, q⟩
theorem op_notInTD (hu : X.A.units + 65 < cLine) : OpR X (compareOp .NotIn) (rNotInTD X.K) := by
  intro pins s σ H x y v u Q I rx ry h
  obtain ⟨d, ds, hd, he, sd, se, q⟩ := h
  obtain ⟨as, r1⟩ := Dp.reads I d x v hd rx
  obtain ⟨bs, r2⟩ := Dp.reads I (.tuple ds) y u he ry
  exact SeqAt.notIn_tuple_reads r2 r1 (by have := SeqAt.canLay_of_shaped se; simpa [PyData.canLay0] using this) (SeqAt.canLay_of_shaped sd) (room_in_shaped sd hu) ⟨.bl _, H, I, rfl, q⟩
def rDIn (neg : Bool) : R2 := fun y x H Q => ∃ a o, x = .ref a ∧ DGet H a y o ∧ Q (.bl (if neg then !o.isSome else o.isSome)) H
theorem op_inDict (hu : X.A.units + 1 < cLine) : OpR X (compareOp .In) (rDIn false) := by
  intro pins s σ H y x iv u Q I ry rx h
  obtain ⟨a, ov, rfl, g, q⟩ := h
  obtain rfl : u = Value.ref a := rx
  exact d_in hu I g ry fun s3 I3 => ⟨.bl ov.isSome, H, I3, rfl, q⟩
theorem op_notInDict (hu : X.A.units + 1 < cLine) : OpR X (compareOp .NotIn) (rDIn true) := by
  intro pins s σ H y x iv u Q I ry rx h
  obtain ⟨a, ov, rfl, g, q⟩ := h
  obtain rfl : u = Value.ref a := rx
  exact d_notIn hu I g ry fun s3 I3 => ⟨.bl (!ov.isSome), H, I3, rfl, q⟩
def rInA (K : PySem.W.Frag) : R2 := fun x y H Q => rInD K x y H Q ∨ rInTD K x y H Q ∨ (∃ i j, x = .str i ∧ y = .str j ∧ Q (.bl (!(Builtin.Str.occurrences j i 0 j.length 1).isEmpty)) H) ∨ rDIn false x y H Q
def rNotInA (K : PySem.W.Frag) : R2 := fun x y H Q => rNotInD K x y H Q ∨ rNotInTD K x y H Q ∨ (∃ i j, x = .str i ∧ y = .str j ∧ Q (.bl (!(!(Builtin.Str.occurrences j i 0 j.length 1).isEmpty))) H) ∨ rDIn true x y H Q
theorem op_inA {n : Nat} (hr : Room n X.A) : OpR X (compareOp .In) (rInA X.K) := (op_inD (by have := hr.un; omega)).or ((op_inTD (by have := hr.un; omega)).or (op_in_str.or (op_inDict (hu_of hr))))
theorem op_notInA {n : Nat} (hr : Room n X.A) : OpR X (compareOp .NotIn) (rNotInA X.K) := (op_notInD (by have := hr.un; omega)).or ((op_notInTD (by have := hr.un; omega)).or (op_notin_str.or (op_notInDict (hu_of hr))))
theorem any_py (y : D) : ∀ l : List D, ((D.pyL l).any fun z => PyData.eqv z y.py) = l.any fun z => D.eq z y
  | [] => rfl
  | d :: l => by simp only [D.pyL, List.any_cons, any_py y l, D.eq]
theorem inV_cases {F : FZ} {M : Mp} {H : Hp} {y x : D} {v u : V} {k : Bool} (s : SR K F M H) (r1 : Rp K F y v) (r2 : Rp K F x u) (h : inV' M y x = some k) :
    (∃ d ds, Dp K H v d ∧ Dp K H u (.list ds) ∧ SeqAt.shaped d = true ∧ SeqAt.shaped (.list ds) = true ∧ k = ds.any fun z => PyData.eqv z d) ∨ (∃ d ds, Dp K H v d ∧ Dp K H u (.tuple ds) ∧ SeqAt.shaped d = true ∧ SeqAt.shaped (.tuple ds) = true ∧ k = ds.any fun z => PyData.eqv z d) ∨
      (∃ i j, v = .str i ∧ u = .str j ∧ k = (!(Builtin.Str.occurrences j i 0 j.length 1).isEmpty)) ∨ ∃ a o, u = .ref a ∧ DGet H a v o ∧ k = o.isSome := by
  cases r2 with
  | lst a b =>
    simp only [inV'] at h
    split at h
    · rename_i hok
      cases h
      have hp := Rp.dp (K := K) s.fz (.lst a b) hok.2
      simp only [D.py] at hp
      have sh := D.ok_shaped hok.2
      simp only [D.py] at sh
      exact .inl ⟨_, _, r1.dp s.fz hok.1, hp, D.ok_shaped hok.1, sh, by rw [any_py]⟩
    · cases h
  | tup a b =>
    simp only [inV'] at h
    split at h
    · rename_i hok
      cases h
      have hp := Rp.dp (K := K) s.fz (.tup a b) hok.2
      simp only [D.py] at hp
      have sh := D.ok_shaped hok.2
      simp only [D.py] at sh
      exact .inr (.inl ⟨_, _, r1.dp s.fz hok.1, hp, D.ok_shaped hok.1, sh, by rw [any_py]⟩)
    · cases h
  | kt a b =>
    simp only [inV'] at h
    split at h
    · rename_i hok
      cases h
      have hp := Rp.dp (K := K) s.fz (.kt a b) hok.2
      simp only [D.py] at hp
      have sh := D.ok_shaped hok.2
      simp only [D.py] at sh
      exact .inr (.inl ⟨_, _, r1.dp s.fz hok.1, hp, D.ok_shaped hok.1, sh, by rw [any_py]⟩)
    · cases h
  | str z =>
    simp only [inV'] at h
    split at h
    · cases r1
      cases h
      exact .inr (.inr (.inl ⟨_, _, rfl, rfl, rfl⟩))
    · cases h
  | ref p =>
    simp only [inV'] at h
    split at h
    · rename_i l hm
      split at h
      · rename_i hok
        cases h
        obtain ⟨w, h1, h2⟩ := s.mu p _ hm
        cases h2 with
        | lst b z =>
          have hp : Dp K H (.ref p) (D.lst l).py := by
            have hl : D.okL l 59 = true := by have := hok.2; simpa [D.ok] using this
            simp only [D.py]
            exact .lst (SqL.of h1) (RpL.dp s.fz b hl)
          simp only [D.py] at hp
          have sh := D.ok_shaped hok.2
          simp only [D.py] at sh
          exact .inl ⟨_, _, r1.dp s.fz hok.1, hp, D.ok_shaped hok.1, sh, by rw [any_py]⟩
      · cases h
    · obtain ⟨o, h1, h2⟩ := Option.map_eq_some_iff.mp h
      obtain ⟨o', g, c⟩ := dLook_get s r1 h1
      refine .inr (.inr (.inr ⟨p, o', rfl, g, ?_⟩))
      rcases c with ⟨z1, z2⟩ | ⟨d1, w, z1, z2, _⟩ <;> subst z1 z2 <;> exact h2.symm
  | dk a b =>
    simp only [inV'] at h
    obtain ⟨o, h1, h2⟩ := Option.map_eq_some_iff.mp h
    obtain ⟨p, o', ep, g, c⟩ := dkLook_get s (.dk a b) r1 h1
    refine .inr (.inr (.inr ⟨p, o', ep, g, ?_⟩))
    rcases c with ⟨z1, z2⟩ | ⟨d1, w, z1, z2, _⟩ <;> subst z1 z2 <;> exact h2.symm
  | dt a b =>
    simp only [inV'] at h
    obtain ⟨o, h1, h2⟩ := Option.map_eq_some_iff.mp h
    obtain ⟨p, o', ep, g, c⟩ := dkLook_get s (.dt a b) r1 h1
    refine .inr (.inr (.inr ⟨p, o', ep, g, ?_⟩))
    rcases c with ⟨z1, z2⟩ | ⟨d1, w, z1, z2, _⟩ <;> subst z1 z2 <;> exact h2.symm
  | _ => simp [inV'] at h
theorem l2_in : L2r K F0 (dIn false) (rInA K) := by
  intro F M H d e x y Q' Q e0 s r1 r2 q k
  obtain ⟨b, hb, q⟩ := q
  have kk := k F _ _ M H (FLe.refl F) s (.bl _) q
  rcases inV_cases s r1 r2 hb with ⟨d1, ds, h1, h2, h3, h4, h5⟩ | ⟨d1, ds, h1, h2, h3, h4, h5⟩ | ⟨i, j, h1, h2, h3⟩ | ⟨p, o, h1, h2, h3⟩
  · subst h5; exact .inl ⟨d1, ds, h1, h2, h3, h4, kk⟩
  · subst h5; exact .inr (.inl ⟨d1, ds, h1, h2, h3, h4, kk⟩)
  · subst h3; exact .inr (.inr (.inl ⟨i, j, h1, h2, kk⟩))
  · subst h3; exact .inr (.inr (.inr ⟨p, o, h1, h2, kk⟩))
theorem l2_notIn : L2r K F0 (dIn true) (rNotInA K) := by
  intro F M H d e x y Q' Q e0 s r1 r2 q k
  obtain ⟨b, hb, q⟩ := q
  have kk := k F _ _ M H (FLe.refl F) s (.bl _) q
  rcases inV_cases s r1 r2 hb with ⟨d1, ds, h1, h2, h3, h4, h5⟩ | ⟨d1, ds, h1, h2, h3, h4, h5⟩ | ⟨i, j, h1, h2, h3⟩ | ⟨p, o, h1, h2, h3⟩
  · subst h5; exact .inl ⟨d1, ds, h1, h2, h3, h4, kk⟩
  · subst h5; exact .inr (.inl ⟨d1, ds, h1, h2, h3, h4, kk⟩)
  · subst h3; exact .inr (.inr (.inl ⟨i, j, h1, h2, kk⟩))
  · subst h3; exact .inr (.inr (.inr ⟨p, o, h1, h2, kk⟩))
theorem de_in {n : Nat} (hr : Room n X.A) (ha : DE X F0 a ta ta') (hb : DE X F0 b tb tb') (hm : behindInMarks .In b = false := by rfl) : DE X F0 (.Compare a [.In] [b] pos) (tOp (rInA X.K) ta tb) (dOp (dIn false) ta' tb') := de_cmp (op_inA hr) l2_in ha hb hm
/-! ### + of lists, tuples, texts; slices -/
def dCat : DR2 := fun x y M Q => match x, y with
  | .int i, .int j => Q (.int (i + j)) M
  | .str i, .str j => i.length + j.length ≤ sizeLine ∧ Q (.str (i ++ j)) M
  | .tup l, .tup m => l.length + m.length ≤ sizeLine ∧ Q (.tup (l ++ m)) M
  | _, _ => False
def rCatX (K : PySem.W.Frag) : R2 := fun x y H Q => rI0 (fun i j => .int (i + j)) x y H Q ∨ (∃ i j, x = .str i ∧ y = .str j ∧ i.length + j.length ≤ sizeLine ∧ Q (.str (i ++ j)) H) ∨ rCatA K x y H Q
theorem op_catX : OpR X (binaryOp .Add) (rCatX X.K) := op_add.or (op_add_str.or op_catA)
theorem l2_cat : L2r K F0 dCat (rCatX K) := by
  intro F M H d e x y Q' Q e0 s r1 r2 q k
  unfold dCat at q
  split at q
  · cases r1; cases r2
    exact .inl ⟨_, _, rfl, rfl, k F _ _ M H (FLe.refl F) s (.int _) q⟩
  · cases r1; cases r2
    exact .inr (.inl ⟨_, _, rfl, rfl, q.1, k F _ _ M H (FLe.refl F) s (.str _) q.2⟩)
  · obtain ⟨hz, q⟩ := q
    cases r1 with
    | tup a1 b1 =>
      cases r2 with
      | tup a2 b2 =>
        rename_i xs _ ys
        have hz2 := hz
        rw [b1.length, b2.length] at hz2
        refine .inr (.inr ⟨_, _, _, _, rfl, rfl, s.sqT a1, s.sqT a2, hz2, fun e => ?_, fun h1 e => ?_, fun h1 h2 p hp => ?_⟩)
        · subst e
          cases b1
          exact k F _ _ M H (FLe.refl F) s (.tup a2 b2) q
        · subst e
          cases b2
          rw [List.append_nil] at q
          exact k F _ _ M H (FLe.refl F) s (.tup a1 b1) q
        · have e2 := same_upd (o := .tup (xs ++ ys)) (s.freeF hp)
          exact k _ _ _ _ _ e2 (s.newF hp (by show (xs ++ ys).length ≤ sizeLine; rw [List.length_append]; exact hz2)) (.tup upd_same ((b1.append b2).mono e2)) q
  · exact q.elim
theorem de_cat (ha : DE X F0 a ta ta') (hb : DE X F0 b tb tb') : DE X F0 (.BinOp a .Add b pos) (tOp (rCatX X.K) ta tb) (dOp dCat ta' tb') := de_op op_catX l2_cat ha hb
/-- the items of xs[lo:hi] -/
def cutD {α : Type} (xs : List α) (lo hi : Option Int) : List α := (xs.drop (HT.sIx xs.length 0 lo)).take (HT.sIx xs.length xs.length hi - HT.sIx xs.length 0 lo)
abbrev DTO := G → Mp → (Option Int → Mp → Prop) → Prop
def LO (K : PySem.W.Frag) (F0 : FZ) (t' : DTO) (t : TO) : Prop := ∀ (F : FZ) (γ : G) (M : Mp) (σ : L2.St) (H : Hp) (Q' : Option Int → Mp → Prop) (Q : Option Int → Hp → Prop), Bs F0 F → SR K F M H → GR K F γ σ → t' γ M Q' →
  (∀ F1 o M1 H1, FLe F F1 → SR K F1 M1 H1 → Q' o M1 → Q o H1) → t σ H Q
structure DO (X : Cx) (F0 : FZ) (e : Option Expr) (t : TO) (t' : DTO) : Prop where
  po : PO X e t
  le : LO X.K F0 t' t
def dNoPart : DTO := fun _ M Q => Q none M
def dPart (t : DTE) : DTO := fun γ M Q => t γ M fun x M1 => match x with
  | .int i => Q (some i) M1
  | _ => False
theorem do_none : DO X F0 none tNoPart dNoPart := ⟨po_none, fun F γ M σ H Q' Q e0 s g q k => k F none M H (FLe.refl F) s q⟩
theorem do_some (h : DE X F0 e te te') : DO X F0 (some e) (tPart te) (dPart te') := ⟨po_some h.pe, fun F γ M σ H Q' Q e0 s g q k => by
  refine h.le F γ M σ H _ _ e0 s g q fun F1 d1 v1 M1 H1 e1 s1 r1 q1 => ?_
  split at q1
  · cases r1
    exact ⟨_, rfl, k F1 _ M1 H1 e1 s1 q1⟩
  · exact q1.elim⟩
def dSl (te : DTE) (tl th : DTO) : DTE := fun γ M Q => te γ M fun x M1 => tl γ M1 fun l M2 => th γ M2 fun u M3 => match x with
  | .tup xs => Q (.tup (cutD xs l u)) M3
  | .lst xs => Q (.lst (cutD xs l u)) M3
  | .ls xs => Q (.lst (cutD xs l u)) M3
  | .ref p => (match M3 p with
    | some (.lst xs) => Q (.lst (cutD xs l u)) M3
    | _ => False)
  | _ => False
theorem cut_rp {F : FZ} {l : List D} {xs : List V} (r : RpL K F l xs) (lo hi : Option Int) : RpL K F (cutD l lo hi) (cutV xs lo hi) := by
  unfold cutD cutV
  rw [r.length]
  exact (r.drop _).take _
def rSlX' (K : PySem.W.Frag) : V → Option Int → Option Int → Hp → VK → Prop := fun x lo hi H Q => rSlA K x lo hi H Q ∨ rSlL K x lo hi H Q
theorem sl_X : SlR X (rSlX' X.K) := sl_tupA.or sl_list
theorem cutV_whole {xs : List V} {lo hi : Option Int} (h : HT.sIx xs.length 0 lo = 0 ∧ HT.sIx xs.length xs.length hi = xs.length) : cutV xs lo hi = xs := by
  unfold cutV
  rw [h.1, h.2]
  simp
theorem de_slice {lo hi : Option Expr} {tl th : TO} {tl' th' : DTO} {p2 : Pos} (he : DE X F0 e te te') (hl : DO X F0 lo tl tl') (hu : DO X F0 hi th th') : DE X F0 (.Subscript e (.Slice lo hi none p2) pos) (tSl (rSlX' X.K) te tl th) (dSl te' tl' th') := ⟨pe_slice sl_X he.pe hl.po hu.po, fun F γ M σ H Q' Q e0 s g q k => by
  refine he.le F γ M σ H _ _ e0 s g q fun F1 d1 v1 M1 H1 e1 s1 r1 q1 => ?_
  refine hl.le F1 γ M1 σ H1 _ _ (e0.tr e1) s1 (g.mono e1) q1 fun F2 l M2 H2 e2 s2 q2 => ?_
  refine hu.le F2 γ M2 σ H2 _ _ ((e0.tr e1).tr e2) s2 (g.mono (e1.trans e2)) q2 fun F3 u M3 H3 e3 s3 q3 => ?_
  have r3 := r1.mono (e2.trans e3)
  have ee := (e1.trans e2).trans e3
  split at q3
  · cases r3 with
    | tup a b =>
      rename_i xs
      refine .inl ⟨_, xs, rfl, s3.sqT a, fun w => ?_, fun w p hp => ?_⟩
      · have hc := cut_rp b l u
        rw [cutV_whole w] at hc
        exact k F3 _ _ M3 H3 ee s3 (.tup a hc) q3
      · have e4 := same_upd (o := .tup (cutV xs l u)) (s3.freeF hp)
        exact k _ _ _ _ _ (ee.trans e4) (s3.newF hp (Nat.le_trans (cutV_length xs l u) (s3.lenT a))) (.tup upd_same ((cut_rp b l u).mono e4)) q3
  · cases r3 with
    | lst a b =>
      rename_i xs
      refine .inr ⟨_, xs, rfl, (SqL.of (s3.fz _ _ a)), fun p hp => ?_⟩
      have e4 := same_upd (o := .lst (cutV xs l u)) (s3.freeF hp)
      exact k _ _ _ _ _ (ee.trans e4) (s3.newF hp (Nat.le_trans (cutV_length xs l u) (s3.lenL (SqL.of a)))) (.lst upd_same ((cut_rp b l u).mono e4)) q3
  · cases r3 with
    | ls a b =>
      rename_i xs
      refine .inr ⟨_, xs, rfl, s3.fz.seq a, fun p hp => ?_⟩
      have e4 := same_upd (o := .lst (cutV xs l u)) (s3.freeF hp)
      exact k _ _ _ _ _ (ee.trans e4) (s3.newF hp (Nat.le_trans (cutV_length xs l u) (s3.lenL a))) (.lst upd_same ((cut_rp b l u).mono e4)) q3
  · cases r3
    split at q3
    · rename_i hm
      obtain ⟨w, h1, h2⟩ := s3.mu _ _ hm
      cases h2 with
      | lst b z =>
        rename_i xs
        refine .inr ⟨_, xs, rfl, SqL.of h1, fun p hp => ?_⟩
        have e4 := same_upd (o := .lst (cutV xs l u)) (s3.freeF hp)
        exact k _ _ _ _ _ (ee.trans e4) (s3.newF hp (Nat.le_trans (cutV_length xs l u) z)) (.lst upd_same ((cut_rp b l u).mono e4)) q3
    · exact q3.elim
  · exact q3.elim⟩
/-! ### new dicts -/
def dNewT : DTE := fun _ M Q => ∀ p, M p = none → Q (.ref p) (mset M p (.dT []))
theorem de_newT : DE X F0 (.Dict [] [] pos) tDNewT dNewT := ⟨pe_dnewT, fun F γ M σ H Q' Q e0 s g q k p hp => k F _ _ _ _ (FLe.refl F) (s.putN hp (.dT .nil (by simp) (fun _ h => by cases h))) (.ref p) (q p (s.freeM hp))⟩
end
end DL

set_option maxRecDepth 100000
set_option maxHeartbeats 2000000
namespace DL
open PySem PySem.Spec PyProof.Rows L2

/-! ### instances -/
def putD (f : Str) (v : D) : List (Str × D) → List (Str × D)
  | [] => [(f, v)]
  | (g, u) :: fs => if g = f then (g, v) :: fs else (g, u) :: putD f v fs
section
variable {K : PySem.W.Frag} {F : FZ} {M : Mp} {H : Hp}
theorem kvr_lookup {f : Str} {d : D} : ∀ {l : List (Str × D)} {m : List (Str × V)}, KVR K F l m → l.lookup f = some d → ∃ v, m.lookup f = some v ∧ Rp K F d v
  | _, _, .nil, h => by cases h
  | (g, e) :: l, (g2, v) :: m, .cons r t, h => by
    obtain ⟨e1, r⟩ := r
    simp only at e1 r
    subst e1
    rw [List.lookup_cons] at h ⊢
    cases hb : f == g with
    | true => rw [hb] at h; cases h; exact ⟨v, rfl, r⟩
    | false => rw [hb] at h; exact kvr_lookup t h
theorem kvr_putD {f : Str} {d : D} {v : V} (r : Rp K F d v) : ∀ {l : List (Str × D)} {m : List (Str × V)}, KVR K F l m → KVR K F (putD f d l) (putF f v m)
  | _, _, .nil => .cons ⟨rfl, r⟩ .nil
  | (g, e) :: l, (g2, u) :: m, .cons q t => by
    obtain ⟨e1, q⟩ := q
    simp only at e1 q
    subst e1
    show KVR K F (if g = f then (g, d) :: l else (g, e) :: putD f d l) (if g = f then (g, v) :: m else (g, u) :: putF f v m)
    by_cases h : g = f
    · rw [if_pos h, if_pos h]
      exact .cons ⟨rfl, r⟩ t
    · rw [if_neg h, if_neg h]
      exact .cons ⟨rfl, q⟩ (kvr_putD r t)
theorem SR.ins (s : SR K F M H) {p C : Addr} {fs : List (Str × D)} (h : M p = some (.ins C fs)) : ∃ dx gs, H p = some (.ins C dx gs) ∧ KVR K F fs gs := by
  obtain ⟨u, h1, h2⟩ := s.mu p _ h
  cases h2 with
  | ins r => exact ⟨_, _, h1, r⟩
end
section
variable {X : Cx} {K : PySem.W.Frag} {F0 : FZ} {e o value : Expr} {es : List Expr} {te to tv : TE} {te' to' tv' : DTE} {t : TA} {t' : DTA} {f : Str} {p pos pos' : Pos} {C : Addr}
def dFld (C : Addr) (ta : DTE) (f : Str) : DTE := fun γ M Q => ta γ M fun x M1 => match x with
  | .ref p => (match M1 p with
    | some (.ins C' fs) => C' = C ∧ ∃ d, fs.lookup f = some d ∧ Q d M1
    | _ => False)
  | _ => False
theorem de_fld (T : Cls X.K C) (n : NoAttr X.K C f) (he : DE X F0 e te te') (hb : attributeBase e f X.env (eval e X.env) = eval e X.env := by rfl) : DE X F0 (.Attribute e f pos) (tFld X.K te f) (dFld C te' f) := ⟨pe_fld he.pe hb, fun F γ M σ H Q' Q e0 s g q k => by
  refine he.le F γ M σ H _ _ e0 s g q fun F1 d1 v1 M1 H1 e1 s1 r1 q1 => ?_
  split at q1
  · rename_i p
    split at q1
    · rename_i C' fs hm
      obtain ⟨rfl, d, hl, q1⟩ := q1
      obtain ⟨dx, gs, h1, h2⟩ := s1.ins hm
      obtain ⟨v, hv, rv⟩ := kvr_lookup h2 hl
      cases r1
      exact ⟨p, C', dx, gs, v, rfl, h1, T, n, hv, k F1 d v M1 H1 e1 s1 rv q1⟩
    · exact q1.elim
  · exact q1.elim⟩
def dFldS (C : Addr) (ta tv : DTE) (f : Str) : DTS := fun D0 γ M => tv γ M fun y M1 => ta γ M1 fun x M2 => match x with
  | .ref p => (match M2 p with
    | some (.ins C' fs) => C' = C ∧ fs.length < 1000 ∧ D0.nx γ (mset M2 p (.ins C (putD f y fs)))
    | _ => False)
  | _ => False
theorem ds_fld (T : Cls X.K C) (n : NoAttr X.K C f) (ho : DE X F0 o to to') (hv : DE X F0 value tv tv') (hs : swapsWith value (some (.Attribute o f pos')) pos.line X.env = pure false := by rfl) : DS X F0 (.Assign [.Attribute o f pos'] value pos) (sFld X.K to tv f) (dFldS C to' tv' f) := ⟨ps_fld ho.pe hv.pe hs, fun F γ M σ H D' D0 e0 s g q er => by
  refine hv.le F γ M σ H _ _ e0 s g q fun F1 d1 v1 M1 H1 e1 s1 r1 q1 => ?_
  refine ho.le F1 γ M1 σ H1 _ _ (e0.tr e1) s1 (g.mono e1) q1 fun F2 d2 v2 M2 H2 e2 s2 r2 q2 => ?_
  split at q2
  · rename_i p
    split at q2
    · rename_i C' fs hm
      obtain ⟨rfl, hl, q2⟩ := q2
      obtain ⟨dx, gs, h1, h2⟩ := s2.ins hm
      cases r2
      exact ⟨p, C', dx, gs, rfl, h1, T, n, by rw [← kvr_len h2]; exact hl, er.nx F2 γ _ σ _ (e1.trans e2) (s2.putM hm (.ins (kvr_putD (r1.mono e2) h2))) (g.mono (e1.trans e2)) q2⟩
    · exact q2.elim
  · exact q2.elim⟩
def dMake (C : Addr) (sp : DSp) (E : DXK) (t : DTA) : DTE := fun γ M Q => t γ M fun ds M1 => ∀ p, M1 p = none → sp (.ref p :: ds) (mset M1 p (.ins C [])) (fun v M2 => v = .non ∧ Q (.ref p) M2) E
/-- a class as it is called -/
structure DMk (P : Program) (w : World) (K : PySem.W.Frag) (mg : Str → Option Value) (base : Heap) (CX : CXT) (k : Nat) (x : Str) (C : Addr) (sp : DSp) : Prop where
  ex : ∃ f fd ps, FnOk P w K mg base CX k f fd ps (liftSp K sp) ∧ mg x = some (.ref C) ∧ Mk K C f ∧ Binds K fd ps []
theorem le_make {sp : DSp} {E : DXK} (ha : LA K F0 t' t) : LE K F0 (dMake C sp E t') (tMake C (liftSp K sp) [] (lXa K E) t) := by
  intro F γ M σ H Q' Q e0 s g q k
  refine ha F γ M σ H _ _ e0 s g q fun F1 ds vs M1 H1 e1 s1 r1 q1 => ?_
  intro x dx hx hdx hne
  have s2 := s1.other (o := .own x) hdx
  have hx2 : (upd H1 dx (.own x)) x = none := by rw [upd_ne (Ne.symm hne)]; exact hx
  have s3 := s2.putN (o := .ins C []) (u := .ins C dx []) hx2 (.ins .nil)
  rw [List.append_nil]
  refine ⟨F1, .ref x :: ds, _, _, E, s3, .cons (.ref x) r1, q1 x (s1.freeM hx), fun F2 d v M2 H2 e2 s2 r2 q2 => ?_, fun c d H1 h => ⟨F1, h⟩⟩
  obtain ⟨rfl, q2⟩ := q2
  cases r2
  exact ⟨rfl, k F2 _ _ M2 H2 (e1.trans e2) s2 (.ref x) q2⟩
theorem de_make {CX : CXT} {k j : Nat} {x : Str} {sp : DSp} {E : DXK} (c : DMk X.prog X.w X.K X.mg X.base CX k x C sp) (hr : Room j X.A) (hx : GoesA CX X E) (ha : DA X F0 (e :: es) t t') (hk : k + 1 ≤ j := by decide) (hg : Gl X x := by rfl)
    (hdb : (x == ("__debug__" : Str)) = false := by decide) (he : starEach (e :: es) X.env = (false, eval e X.env) :: starEach es X.env := by rfl) (hpl : (backTo pos (starEach es X.env)).any (·.1) = false := by rfl) :
    DE X F0 (.Call (.Name x p) (e :: es) [] pos) (tMake C (liftSp X.K sp) [] (lXa X.K E) t) (dMake C sp E t') := by
  obtain ⟨f, fd, ps, G, hm, mk, hb⟩ := c.ex
  exact ⟨pe_make mk G (hr.mono hk) hg hm hb .nil hx.p ha.pa hdb he hpl, le_make ha.le⟩
/-- a property of a class -/
structure DPr (P : Program) (w : World) (K : PySem.W.Frag) (mg : Str → Option Value) (base : Heap) (k : Nat) (C : Addr) (f : Str) (sp : DSp) : Prop where
  ex : ∃ pa g fd ps, FnOk P w K mg base CX0 k g fd ps (liftSp K sp) ∧ PropOf K C f pa g ∧ Binds K fd ps []
end
section
variable {P : Program} {w : World} {K : PySem.W.Frag} {mg : Str → Option Value} {base : Heap}
/-- a method of the text -/
structure DMet (K : PySem.W.Frag) (x qual : Str) (st : Stmt) (f : Addr) (ps : List Str) : Prop where
  ex : ∃ fd, Fun K x qual st f fd ∧ Binds K fd ps []
theorem dokM {x qual : Str} {st : Stmt} {f : Addr} {N ps : List Str} {k : Nat} {sp : DSp} (F : DMet K x qual st f ps) (S : FnScope N ps (defScope st)) (len : ∀ ds M Q E, sp ds M Q E → ds.length = ps.length)
    (hbody : ∀ (cdv : Value) (A : Around) (outer : List Env) (s : Shared) (H : Hp) (E : XK) (F0 : FZ), Room k (A.deeper (envOfC qual (defScope st) s.heap.objs.size f cdv)) →
      ∃ t t', DB (cxOf CX0 P w K mg base N qual (defScope st) f cdv A outer s H E).nox F0 (defBody st) t t' ∧ ∀ ds M Q' E', sp ds M Q' E' → t' { nx := fun _ M1 => fin Q' .non M1, rt := fin Q' } (dstart N ds) M) :
    ∃ fd, FnOk P w K mg base CX0 (k + 1) f fd ps (liftSp K sp) ∧ Binds K fd ps [] := by
  obtain ⟨fd, G, hb⟩ := F.ex
  refine ⟨fd, ?_, hb⟩
  refine G.ok S (fun vs H Q E h => ?_) (fun cdv A outer s H vs Q E hr h => ?_)
  · obtain ⟨F, ds, M, Q', E', _, r, q, _⟩ := h
    rw [← r.length]; exact len _ _ _ _ q
  · obtain ⟨F, ds, M, Q', E', s1, r, q, kq, _⟩ := h
    obtain ⟨t, t', d, h⟩ := hbody cdv A outer s H E F hr
    refine ⟨t, d.ps, d.le F (dstart N ds) M (L2.start N vs) H { nx := fun _ M1 => fin Q' .non M1, rt := fin Q' } { nx := fun _ H' => Q .non H', rt := Q } (Bs.refl _) s1 (gr_start r) (h ds M Q' E' q) ⟨?_, ?_, fun _ _ _ _ _ _ _ _ z => z.elim, fun _ _ _ _ _ _ _ _ z => z.elim⟩⟩
    · rintro F1 γ1 M1 σ1 H1 e1 s1 g1 ⟨M2, l, q⟩
      exact kq F1 .non .non M2 H1 e1 (s1.less l) .non q
    · rintro F1 d1 v1 M1 H1 e1 s1 r1 ⟨M2, l, q⟩
      exact kq F1 d1 v1 M2 H1 e1 (s1.less l) r1 q
end

/-! ### the law's own promise -/
def spLaw : DSp := fun ds M Q _ => ∃ ns : List Int, ds = [.ls (ns.map .int)] ∧ ns.length ≤ 63 ∧ (∀ a, M a = none) ∧ ∀ M', Q (.bl true) M'
theorem law_sp {K : PySem.W.Frag} {H : Hp} {a : Addr} {ns : List Int} (hl : ns.length ≤ 63) (h : SqL K H a (ns.map V.int)) : liftSp K spLaw [.ref a] H (fun v _ => v = .bl true) fun _ _ _ => False := by
  have hz : (ns.map V.int).length ≤ sizeLine := by rw [List.length_map, sizeLine_eq]; omega
  have none_ok : ∀ (f : Hp), Same f H → (∀ b o, f b = some o → FzO o) → SR K ⟨f, fun _ => none, fun _ => none⟩ (fun _ => none) H := fun f e ok => ⟨e, ok, fun _ _ z => (by cases z), fun _ _ z => (by cases z), fun _ _ z => (by cases z), fun _ _ z => (by cases z), fun _ _ z => (by cases z), fun _ _ z => (by cases z)⟩
  have fin : ∀ f : Hp, SR K ⟨f, fun _ => none, fun _ => none⟩ (fun _ => none) H → SqL K f a (ns.map V.int) → liftSp K spLaw [.ref a] H (fun v _ => v = .bl true) fun _ _ _ => False := fun f s hq =>
    ⟨⟨f, fun _ => none, fun _ => none⟩, [.ls (ns.map .int)], fun _ => none, fun d _ => d = .bl true, DXK.no, s, .cons (.ls hq (RpL.ofInt ns)) .nil, ⟨ns, rfl, hl, fun _ => rfl, fun _ => rfl⟩, fun F1 d v M1 H1 e s r q => by subst q; cases r; rfl, fun c d H1 ⟨_, _, _, _, _, _, z⟩ => z⟩
  have one : ∀ o, H a = some o → FzO o → SqL K (fun b => if b = a then some o else none) a (ns.map V.int) → liftSp K spLaw [.ref a] H (fun v _ => v = .bl true) fun _ _ _ => False := fun o ho ok hq =>
    fin _ (none_ok _ (fun b u z => by
      by_cases hb : b = a
      · rw [if_pos hb] at z; cases z; rw [hb]; exact ho
      · rw [if_neg hb] at z; cases z) fun b u z => by
      by_cases hb : b = a
      · rw [if_pos hb] at z; cases z; exact ok
      · rw [if_neg hb] at z; cases z) hq
  rcases h with (h | ⟨o, h⟩) | h
  · exact one _ h hz (.inl (.inl (if_pos rfl)))
  · exact one _ h hz (.inl (.inr ⟨o, if_pos rfl⟩))
  · exact fin (fun _ => none) (none_ok _ (fun _ _ z => (by cases z)) fun _ _ z => (by cases z)) (.inr h)
end DL

set_option maxRecDepth 100000
set_option maxHeartbeats 2000000
namespace DL
open PySem PySem.Spec PyProof.Rows L2

section
variable {X : Cx} {K : PySem.W.Frag} {F0 : FZ} {a b e o i value : Expr} {ta tb te : TE} {ta' tb' te' : DTE} {pos : Pos} {n : Nat}
/-! ### comparisons as tests -/
theorem dt_lt (ha : DE X F0 a ta ta') (hb : DE X F0 b tb tb') : DT X F0 (.Compare a [.Lt] [b] pos) (tTest (tOp (rI0 fun i j => .bl (decide (i < j))) ta tb)) (dTest (dOp (dII fun i j => .bl (decide (i < j))) ta' tb')) := dt_cmp op_lt (l2_II fun _ _ _ => .bl _) ha hb (nomark _)
theorem dt_gt (ha : DE X F0 a ta ta') (hb : DE X F0 b tb tb') : DT X F0 (.Compare a [.Gt] [b] pos) (tTest (tOp (rI0 fun i j => .bl (decide (j < i))) ta tb)) (dTest (dOp (dII fun i j => .bl (decide (j < i))) ta' tb')) := dt_cmp op_gt (l2_II fun _ _ _ => .bl _) ha hb (nomark _)
theorem dt_ge (ha : DE X F0 a ta ta') (hb : DE X F0 b tb tb') : DT X F0 (.Compare a [.GtE] [b] pos) (tTest (tOp (rI0 fun i j => .bl (decide (j ≤ i))) ta tb)) (dTest (dOp (dII fun i j => .bl (decide (j ≤ i))) ta' tb')) := dt_cmp op_ge (l2_II fun _ _ _ => .bl _) ha hb (nomark _)
theorem dt_eq (hr : Room n X.A) (ha : DE X F0 a ta ta') (hb : DE X F0 b tb tb') : DT X F0 (.Compare a [.Eq] [b] pos) (tTest (tOp (rEqD X.K) ta tb)) (dTest (dOp (dEq false) ta' tb')) := dt_cmp (op_eqD hr.units) l2_eq ha hb (nomark _)
theorem dt_ne (hr : Room n X.A) (ha : DE X F0 a ta ta') (hb : DE X F0 b tb tb') : DT X F0 (.Compare a [.NotEq] [b] pos) (tTest (tOp (rNeD X.K) ta tb)) (dTest (dOp (dEq true) ta' tb')) := dt_cmp (op_neD hr.units) l2_ne ha hb (nomark _)
theorem dt_in (hr : Room n X.A) (ha : DE X F0 a ta ta') (hb : DE X F0 b tb tb') (hm : behindInMarks .In b = false := by rfl) : DT X F0 (.Compare a [.In] [b] pos) (tTest (tOp (rInA X.K) ta tb)) (dTest (dOp (dIn false) ta' tb')) := dt_cmp (op_inA hr) l2_in ha hb hm
theorem dt_notIn (hr : Room n X.A) (ha : DE X F0 a ta ta') (hb : DE X F0 b tb tb') (hm : behindInMarks .NotIn b = false := by rfl) : DT X F0 (.Compare a [.NotIn] [b] pos) (tTest (tOp (rNotInA X.K) ta tb)) (dTest (dOp (dIn true) ta' tb')) := dt_cmp (op_notInA hr) l2_notIn ha hb hm

/-! ### o[i] = e, o[i] op= e -/
theorem ds_put {to ti : TE} {to' ti' : DTE} {pos' : Pos} (hr : Room n X.A) (ho : DE X F0 o to to') (hi : DE X F0 i ti ti') (he : DE X F0 e te te') (hs : swapsWithSole [.Subscript o i pos'] e pos.line X.env = pure false := by rfl) (hw : swappedStores [.Subscript o i pos'] e X.env = pure none := by rfl)
    (h1 : (assignEach [.Subscript o i pos'] X.env).map (·.2) = [assign (.Subscript o i pos') X.env] := by rfl)
    (ha : ∀ v, assign (.Subscript o i pos') X.env v = (do
      let ov ← holding [v] (eval o X.env); let iv ← holding [v, ov] (eval i X.env)
      standAt pos'; holding [v, ov, iv] (setItem ov iv v); release [v, ov, iv] []) := by intro _; rfl) : DS X F0 (.Assign [.Subscript o i pos'] e pos) (tAsg te (gSub to ti rSetAny)) (dAsg te' (hSub to' ti' dSet)) := ds_asg he (dg_sub' hr ho hi ha) hs hw h1
end

/-! ### comprehensions to be changed -/
theorem SR.own {K : PySem.W.Frag} {F : FZ} {M : Mp} {H : Hp} (s : SR K F M H) {p : Addr} {o : MO} {u : HO} (hf : F.f p = none) (hp : F.p p = none) (hd : F.d p = none) (h : H p = some u) (r : MR K F o u) : SR K F (mset M p o) H := by
  have e : upd H p u = H := by
    funext b
    by_cases hb : b = p
    · subst hb; rw [upd_same, h]
    · rw [upd_ne hb]
  have := s.put hf hp hd r
  rwa [e] at this
section
variable {X : Cx} {K : PySem.W.Frag} {F0 : FZ}
end

/-! ### dict displays -/
abbrev DPP := G → Mp → (List (Key × D) → Mp → Prop) → Prop
def LPP (K : PySem.W.Frag) (F0 : FZ) (t' : DPP) (trs : List (TE × TE)) : Prop := ∀ (F : FZ) (γ : G) (M : Mp) (σ : L2.St) (H : Hp) (Q' : List (Key × D) → Mp → Prop) (Q : List (V × V) → Hp → Prop), Bs F0 F → SR K F M H → GR K F γ σ → t' γ M Q' →
  (∀ F1 l m M1 H1, FLe F F1 → SR K F1 M1 H1 → KVR K F1 l m → Q' l M1 → Q (m.map fun kv => (kV kv.1, kv.2)) H1) → tPairs trs σ H Q
structure DPPs (X : Cx) (F0 : FZ) (pos : Pos) (keys : List (Option Expr)) (values : List Expr) (trs : List (TE × TE)) (t' : DPP) : Prop where
  pp : PPs X pos keys values trs
  le : LPP X.K F0 t' trs
def dppNil : DPP := fun _ M Q => Q [] M
def dppCons (tk tv : DTE) (r : DPP) : DPP := fun γ M Q => tk γ M fun x M1 => ∃ k, keyOf x = some k ∧ tv γ M1 fun y M2 => r γ M2 fun l M3 => Q ((k, y) :: l) M3
section
variable {X : Cx} {K : PySem.W.Frag} {F0 : FZ} {pos : Pos}
theorem dpp_nil : DPPs X F0 pos [] [] [] dppNil := ⟨pps_nil, fun F γ M σ H Q' Q e0 s g q k => k F [] [] M H (FLe.refl F) s .nil q⟩
theorem dpp_cons {k v : Expr} {ks : List (Option Expr)} {vs : List Expr} {tk tv : TE} {tk' tv' : DTE} {trs : List (TE × TE)} {r' : DPP} (hk : DE X F0 k tk tk') (hv : DE X F0 v tv tv') (hr : DPPs X F0 pos ks vs trs r') : DPPs X F0 pos (some k :: ks) (v :: vs) ((tk, tv) :: trs) (dppCons tk' tv' r') := ⟨pps_cons hk.pe hv.pe hr.pp, fun F γ M σ H Q' Q e0 s g q kk => by
  refine hk.le F γ M σ H _ _ e0 s g q fun F1 d1 v1 M1 H1 e1 s1 r1 q1 => ?_
  obtain ⟨k, hk, q1⟩ := q1
  refine hv.le F1 γ M1 σ H1 _ _ (e0.tr e1) s1 (g.mono e1) q1 fun F2 d2 v2 M2 H2 e2 s2 r2 q2 => ?_
  refine hr.le F2 γ M2 σ H2 _ _ ((e0.tr e1).tr e2) s2 (g.mono (e1.trans e2)) q2 fun F3 l m M3 H3 e3 s3 r3 q3 => ?_
  have hx := keyOf_rp r1 hk
  subst hx
  exact kk F3 ((k, d2) :: l) ((k, v2) :: m) M3 H3 ((e1.trans e2).trans e3) s3 (.cons ⟨rfl, r2.mono e3⟩ r3) q3⟩
def dMerge : List (Key × D) → List (Key × D) → List (Key × D)
  | l, [] => l
  | l, (k, d) :: r => dMerge (dput l k d) r
theorem kvr_merge {F : FZ} : ∀ {l' : List (Key × D)} {m' : List (Key × V)} {l : List (Key × D)} {m : List (Key × V)}, KVR K F l m → KVR K F l' m' → KVR K F (dMerge l l') (mergeK m m')
  | _, _, _, _, h, .nil => h
  | (k, d) :: l', (k2, v) :: m', l, m, h, .cons q t => by
    obtain ⟨e, q⟩ := q
    simp only at e q
    subst e
    show KVR K F (dMerge (dput l k d) l') (mergeK (putK m k v) m')
    exact kvr_merge (kvr_put q h) t
def dDisp (t : DPP) : DTE := fun γ M Q => ∀ p, M p = none → t γ M fun l M2 => M2 p = none → l.length ≤ 15 ∧ Q (.ref p) (mset M2 p (.dK (dMerge [] l)))
theorem de_disp {keys : List (Option Expr)} {values : List Expr} {trs : List (TE × TE)} {t' : DPP} (h : DPPs X F0 pos keys values trs t') (hall : keys.all (·.isSome) = true := by rfl) (hl : keys.length = values.length := by rfl) (h0 : keys ≠ [] := by exact fun h => nomatch h)
    (h15 : keys.length ≤ 15 := by decide) : DE X F0 (.Dict keys values pos) (tDisp trs) (dDisp t') := ⟨pe_disp h.pp hall hl h0 h15, fun F γ M σ H Q' Q e0 s g q k => by
  intro p hp
  have hF := s.freeF hp
  have hM := s.freeM hp
  have hP := s.freeP hp
  have s1 := (s.other (o := .dK []) hp)
  have sh := s1.hide hF hM upd_same (fun _ z => by cases z) (fun u e => by rw [s.freeD hp] at e; cases e)
  refine h.le (F.hide p (.dK [])) γ M σ _ _ _ ⟨e0.f, e0.p.trans fun b o h => (upd_ne (ne_of_none h hP)).trans h⟩ sh (GR.monoS (F := F) (F' := F.hide p (.dK [])) (Sm.rfl' (F := F)) g) (q p hM) fun F1 l m M1 H1 e1 s2 r2 q2 => ?_
  have hdn : F1.d p = none := s2.hidD (o := .dK []) (by rw [e1.e]; exact upd_same) (fun _ _ z => nomatch z)
  obtain ⟨z1, z2, z3, z4⟩ := s2.unhide (u := .dK (mergeK [] m)) (o := .dK []) (q := F.p) (by rw [e1.e]; rfl) hP
  obtain ⟨h15, q2⟩ := q2 z4
  refine ⟨z2, m, rfl, by rw [← kvr_len r2]; exact h15, ?_⟩
  have hz : (mergeK [] m).length ≤ sizeLine := by
    have := length_mergeK m []
    rw [List.length_nil, ← kvr_len r2] at this
    rw [sizeLine_eq]; omega
  have r3 : KVR X.K ⟨F1.f, F.p, F1.d⟩ (dMerge [] l) (mergeK [] m) := kvr_merge .nil (r2.monoS (F := F1) (F' := ⟨F1.f, F.p, F1.d⟩) Sm.rfl')
  exact k ⟨F1.f, F.p, F1.d⟩ (.ref p) (.ref p) _ _ ⟨e1.s, rfl⟩ (z1.own (o := .dK (dMerge [] l)) z3 hP hdn upd_same (.dK r3 hz)) (.ref p) q2⟩
end

/-! ### lists: +, *, clear, extend -/
def lstOf (M : Mp) : D → Option (List D)
  | .lst l => some l
  | .ref p => (match M p with
    | some (.lst l) => some l
    | _ => none)
  | _ => none
section
variable {X : Cx} {K : PySem.W.Frag} {F0 : FZ} {a b e o : Expr} {ta tb te to : TE} {ta' tb' te' to' : DTE} {pos apos cpos : Pos}
theorem lst_of {F : FZ} {M : Mp} {H : Hp} {d : D} {v : V} {l : List D} (s : SR K F M H) (r : Rp K F d v) (h : lstOf M d = some l) : ∃ p xs, v = .ref p ∧ H p = some (.lst xs) ∧ RpL K F l xs ∧ xs.length ≤ sizeLine := by
  cases r with
  | lst a b => simp only [lstOf, Option.some.injEq] at h; subst h; exact ⟨_, _, rfl, s.fz _ _ a, b, s.ok _ _ a⟩
  | ref p =>
    simp only [lstOf] at h
    split at h
    · rename_i hm
      cases h
      obtain ⟨u, h1, h2⟩ := s.mu p _ hm
      cases h2 with
      | lst b z => exact ⟨_, _, rfl, h1, b, z⟩
    · cases h
  | _ => simp [lstOf] at h
def dCatL : DR2 := fun x y M Q => ∃ l m, lstOf M x = some l ∧ lstOf M y = some m ∧ l.length + m.length ≤ sizeLine ∧ Q (.lst (l ++ m)) M
theorem l2_catL : L2r K F0 dCatL rCat := by
  intro F M H d e x y Q' Q e0 s r1 r2 q k
  obtain ⟨l, m, h1, h2, hz, q⟩ := q
  obtain ⟨p1, xs, rfl, a1, b1, _⟩ := lst_of s r1 h1
  obtain ⟨p2, ys, rfl, a2, b2, _⟩ := lst_of s r2 h2
  rw [b1.length, b2.length] at hz
  refine ⟨p1, p2, xs, ys, rfl, rfl, a1, a2, hz, fun p hp => ?_⟩
  have e2 := same_upd (o := .lst (xs ++ ys)) (s.freeF hp)
  exact k _ _ _ _ _ e2 (s.newF hp (by show (xs ++ ys).length ≤ sizeLine; rw [List.length_append]; exact hz)) (.lst upd_same ((b1.append b2).mono e2)) q
theorem de_catL (ha : DE X F0 a ta ta') (hb : DE X F0 b tb tb') : DE X F0 (.BinOp a .Add b pos) (tOp rCat ta tb) (dOp dCatL ta' tb') := de_op op_cat l2_catL ha hb
def dExtend : DRM := fun x ds M Q => match x, ds with
  | .ref p, [d] => (match M p with
    | some (.lst l) => ∃ m, lstOf M d = some m ∧ l.length + m.length ≤ sizeLine ∧ Q .non (mset M p (.lst (l ++ m)))
    | _ => False)
  | _, _ => False
theorem lm_extend : LM K F0 dExtend rExtend := by
  intro F M H o x ds vs Q' Q e0 s r rs q k
  unfold dExtend at q
  split at q
  · split at q
    · rename_i hm
      obtain ⟨m, h3, hz, q⟩ := q
      obtain ⟨u, h1, h2⟩ := s.mu _ _ hm
      cases h2 with
      | lst b z =>
        cases r
        cases rs with
        | cons r1 r2 =>
          cases r2
          obtain ⟨p2, ys, rfl, a2, b2, _⟩ := lst_of s r1 h3
          rw [b.length, b2.length] at hz
          exact ⟨_, _, _, _, rfl, rfl, h1, a2, hz, k F _ _ _ _ (FLe.refl F) (s.putM hm (.lst (b.append b2) (by rw [List.length_append]; exact hz))) .non q⟩
    · exact q.elim
  · exact q.elim
theorem de_extend {t : TA} {t' : DTA} (ho : DE X F0 o to to') (ha : DA X F0 [e] t t') (hbase : attributeBase o "extend" X.env (eval o X.env) = eval o X.env := by rfl)
    (hfew : ((backTo cpos (starEach [e] X.env)).all (fun x => !x.1) && (backToKw cpos (keywordEach [] X.env)).all (fun x => x.1.isSome) && decide ([e].length + ([] : List Keyword).length + (if ([] : List Keyword).isEmpty then 0 else 1) < 30)) = true := by rfl)
    (hline : (apos.endLine == cpos.line) = true := by rfl) (hs : starEach [e] X.env = (false, eval e X.env) :: starEach [] X.env := by rfl) : DE X F0 (.Call (.Attribute o "extend" apos) [e] [] cpos) (tBM X.K "list" rExtend to t) (dBM "list" dExtend to' t') :=
  de_bm PySem.F.plainAttrs_list PySem.F.slot_list_extend PySem.F.type_list_extend mt_extend lm_extend ho ha (by decide) hbase hfew hline hs rfl

/-! ### sorted, list(range(..)) -/
theorem de_sortI {t : TA} {t' : DTA} {p : Pos} (hm : X.mg "sorted" = none) (ha : DA X F0 [e] t t') (hc : X.calm = true := by rfl) (hg : Gl X "sorted" := by rfl) (he : starEach [e] X.env = (false, eval e X.env) :: starEach [] X.env := by rfl) : DE X F0 (.Call (.Name "sorted" p) [e] [] pos) (tCB (rSortedI X.K) t) (dCB dSortI t') :=
  de_blt cr_sortedI lc_sortI hm ha (by decide +kernel) hg (by decide) (by decide) he rfl
theorem de_sortP {t : TA} {t' : DTA} {p : Pos} (hm : X.mg "sorted" = none) (ha : DA X F0 [e] t t') (hc : X.calm = true := by rfl) (hg : Gl X "sorted" := by rfl) (he : starEach [e] X.env = (false, eval e X.env) :: starEach [] X.env := by rfl) : DE X F0 (.Call (.Name "sorted" p) [e] [] pos) (tCB (rSortedPO X.K) t) (dCB dSortP t') :=
  de_blt cr_sortedPO lc_sortP hm ha (by decide +kernel) hg (by decide) (by decide) he rfl
abbrev DRg := G → Mp → (Int → Int → Mp → Prop) → Prop
structure DR (X : Cx) (F0 : FZ) (e : Expr) (t : L2.St → Hp → (Int → Int → Hp → Prop) → Prop) (t' : DRg) : Prop where
  pr : PRg X e t
  le : ∀ (F : FZ) (γ : G) (M : Mp) (σ : L2.St) (H : Hp) (Q' : Int → Int → Mp → Prop) (Q : Int → Int → Hp → Prop), Bs F0 F → SR X.K F M H → GR X.K F γ σ → t' γ M Q' → (∀ F1 i j M1 H1, FLe F F1 → SR X.K F1 M1 H1 → Q' i j M1 → Q i j H1) → t σ H Q
def dRg1 (ta : DTE) : DRg := fun γ M Q => ta γ M fun x M1 => match x with
  | .int n => Q 0 n M1
  | _ => False
theorem drg_1 {p : Pos} (hm : X.mg "range" = none) (ha : DE X F0 a ta ta') (hg : Gl X "range" := by rfl) (na : starEach [a] X.env = (false, eval a X.env) :: starEach [] X.env := by rfl) : DR X F0 (.Call (.Name "range" p) [a] [] pos) (tRg1 ta) (dRg1 ta') := ⟨prg_1 hg hm ha.pe na, fun F γ M σ H Q' Q e0 s g q k => by
  refine ha.le F γ M σ H _ _ e0 s g q fun F1 d1 v1 M1 H1 e1 s1 r1 q1 => ?_
  split at q1
  · cases r1
    exact ⟨_, rfl, k F1 _ _ M1 H1 e1 s1 q1⟩
  · exact q1.elim⟩
def rgL (i j : Int) : List D := ((List.range (j - i).toNat).map fun (k : Nat) => i + (k : Int)).map D.int
theorem rg_rp {F : FZ} (i j : Int) : RpL K F (rgL i j) (rgV i j) := by
  have e : rgV i j = ((List.range (j - i).toNat).map fun (k : Nat) => i + (k : Int)).map V.int := by rw [rgV, List.map_map]; rfl
  rw [e]
  exact RpL.ofInt _
theorem rg_len {i j : Int} (h : RgOk i j) : (rgV i j).length ≤ sizeLine := by
  rw [rgV_length, sizeLine_eq]
  have := h.2.2.2.2
  omega
def dLstRg (t : DRg) : DTE := fun γ M Q => t γ M fun i j M1 => RgOk i j ∧ Q (.lst (rgL i j)) M1
variable {tr : L2.St → Hp → (Int → Int → Hp → Prop) → Prop} {tr' : DRg}
theorem de_listRg {p : Pos} (hm : X.mg "list" = none) (he : DR X F0 e tr tr') (hc : X.calm = true := by rfl) (hg : Gl X "list" := by rfl) (na : starEach [e] X.env = (false, eval e X.env) :: starEach [] X.env := by rfl) : DE X F0 (.Call (.Name "list" p) [e] [] pos) (tLstRg tr) (dLstRg tr') := ⟨pe_listRg hc hg hm he.pr na, fun F γ M σ H Q' Q e0 s g q k => by
  refine he.le F γ M σ H _ _ e0 s g q fun F1 i j M1 H1 e1 s1 q1 => ⟨q1.1, fun p hp => ?_⟩
  have e2 := same_upd (o := .lst (rgV i j)) (s1.freeF hp)
  exact k _ _ _ _ _ (e1.trans e2) (s1.newF hp (rg_len q1.1)) (.lst upd_same (rg_rp i j)) q1.2⟩
end

/-! ### comprehensions that only tell -/
theorem dLcI_map {g : DTG} {te : DTE} {vs : List Nat} {γ : G} {items : List D} {M : Mp} {Q : DK} (f : D → D) (h : ∀ (i : Nat) (d : D), items[i]? = some d → ∀ Q2 : DK, Q2 (f d) M → g d (dwipe γ vs) M fun γ2 M2 => te γ2 M2 Q2) (q : Q (.lst (items.map f)) M) : dLcI g dYes te vs γ items M Q := by
  refine ⟨fun i acc M' => M' = M ∧ acc = (items.take i).map f, ⟨rfl, by simp⟩, ?_, ?_⟩
  · rintro i d acc M' hd ⟨rfl, rfl⟩
    refine h i d hd _ ⟨rfl, ?_⟩
    have hlt := (List.getElem?_eq_some_iff.mp hd).1
    rw [List.take_add_one, hd]
    simp
  · rintro acc M' ⟨rfl, rfl⟩
    rw [List.take_length]
    exact q
end DL

set_option maxRecDepth 100000
set_option maxHeartbeats 2000000
namespace DL
open PySem PySem.Spec PyProof.Rows L2

theorem fin_self {Q : DK} {d : D} {M : Mp} (q : Q d M) : fin Q d M := ⟨M, fun _ _ h => h, q⟩
theorem fin_less {Q : DK} {d : D} {M M2 : Mp} (l : MLe M2 M) (q : Q d M2) : fin Q d M := ⟨M2, l, q⟩

/-! ### the type of a thing -/
def D.isInt : D → Bool
  | .int _ => true
  | _ => false
def D.isBl : D → Bool
  | .bl _ => true
  | _ => false
theorem isiT_tab : ∀ T ∈ (["NoneType", "str", "list", "tuple", "dict"] : List String), isiT T "int" = false ∧ isiT T "bool" = false := by decide +kernel
theorem ty_int {M : Mp} {d : D} {T : String} (h : tyN M d = some T) : isiT T "int" = (d.isInt || d.isBl) ∧ isiT T "bool" = d.isBl := by
  have key : T ∈ (["NoneType", "str", "list", "tuple", "dict"] : List String) → isiT T "int" = false ∧ isiT T "bool" = false := isiT_tab T
  cases d with
  | int i => cases h; exact (by decide +kernel : isiT "int" "int" = true ∧ isiT "int" "bool" = false)
  | bl i => cases h; exact (by decide +kernel : isiT "bool" "int" = true ∧ isiT "bool" "bool" = true)
  | ref p =>
    simp only [D.isInt, D.isBl, Bool.or_self]
    apply key
    simp only [tyN] at h
    split at h <;> first
      | (cases h; done)
      | (cases h; decide +kernel)
  | ty n => cases h
  | ls n => cases h
  | dt a b => cases h
  | _ => cases h; exact key (by decide +kernel)
def D.within : D → Int → Int → Bool
  | .int i, a, b => decide (a ≤ i) && decide (i ≤ b)
  | _, _, _ => false

/-! ### ints in order -/
def srt (l : List Int) : List Int := l.mergeSort fun a b => decide (a ≤ b)
theorem srt_perm (l : List Int) : (srt l).Perm l := List.mergeSort_perm _ _
theorem srt_pw (l : List Int) : (srt l).Pairwise (· ≤ ·) := by
  have h := List.pairwise_mergeSort (le := fun a b : Int => decide (a ≤ b)) (fun a b c h1 h2 => by simp only [decide_eq_true_eq] at *; omega) (fun a b => by simp only [Bool.or_eq_true, decide_eq_true_eq]; omega) l
  exact h.imp fun h => by simpa using h
theorem pw_uniq : ∀ {l m : List Int}, l.Perm m → l.Pairwise (· ≤ ·) → m.Pairwise (· ≤ ·) → l = m
  | [], m, h, _, _ => (List.Perm.eq_nil h.symm).symm
  | x :: l, [], h, _, _ => absurd (List.Perm.eq_nil h) (by simp)
  | x :: l, y :: m, h, h1, h2 => by
    rw [List.pairwise_cons] at h1 h2
    have a : x ≤ y := by
      have : y ∈ x :: l := h.mem_iff.mpr List.mem_cons_self
      rcases List.mem_cons.mp this with e | e
      · omega
      · exact h1.1 y e
    have b : y ≤ x := by
      have : x ∈ y :: m := h.mem_iff.mp List.mem_cons_self
      rcases List.mem_cons.mp this with e | e
      · omega
      · exact h2.1 x e
    have e : x = y := by omega
    subst e
    rw [pw_uniq (List.Perm.cons_inv h) h1.2 h2.2]
theorem srt_uniq {l m : List Int} (h : l.Perm m) (hp : l.Pairwise (· ≤ ·)) : l = srt m := pw_uniq (h.trans (srt_perm m).symm) hp (srt_pw m)
theorem srt_mem {l : List Int} {x : Int} : x ∈ srt l ↔ x ∈ l := (srt_perm l).mem_iff
theorem dSortI_srt {d : D} {M : Mp} {Q : DK} (ns : List Int) (hd : d = .lst (ns.map .int) ∨ ∃ p, d = .ref p ∧ M p = some (.lst (ns.map .int))) (q : Q (.lst ((srt ns).map .int)) M) : dSortI [d] M Q :=
  ⟨ns, hd, fun ns' h1 h2 => by rw [srt_uniq h1 h2]; exact q⟩

/-! ### plain data -/
theorem ok_int (i : Int) (n : Nat) : D.ok (.int i) n = true := by cases n <;> rfl
theorem okL_int (ns : List Int) (n : Nat) : D.okL (ns.map .int) n = true := okL_iff.mpr fun d h => by
  obtain ⟨i, _, rfl⟩ := List.mem_map.mp h
  exact ok_int i n
theorem ok_pr (p : Int × Int) (n : Nat) : D.ok (prD p) (n + 1) = true := by
  show D.okL [.int p.1, .int p.2] n = true
  exact okL_int [p.1, p.2] n
theorem okL_pr (ps : List (Int × Int)) (n : Nat) : D.okL (ps.map prD) (n + 1) = true := okL_iff.mpr fun d h => by
  obtain ⟨i, _, rfl⟩ := List.mem_map.mp h
  exact ok_pr i n
/-! ### >= of tuples of ints -/
def intsOf : List D → Option (List Int)
  | [] => some []
  | .int i :: r => (intsOf r).map fun l => i :: l
  | _ => none
theorem ints_rp {K : PySem.W.Frag} {F : FZ} : ∀ {l : List D} {xs : List V} {ns : List Int}, RpL K F l xs → intsOf l = some ns → xs = ns.map V.int
  | _, _, ns, .nil, h => by simp [intsOf] at h; subst h; rfl
  | _, _, ns, .cons r t, h => by
    cases r with
    | int i =>
      simp only [intsOf] at h
      obtain ⟨m, h1, h2⟩ := Option.map_eq_some_iff.mp h
      subst h2
      rw [ints_rp t h1]; rfl
    | _ => simp [intsOf] at h
def geL (ns ms : List Int) : Bool := Ob.lexAt (fun j => decide (ns.getD j 0 = ms.getD j 0)) (fun j => decide (ms.getD j 0 ≤ ns.getD j 0)) (decide (ns.length ≥ ms.length)) 0 (min ns.length ms.length)
theorem geL_two (a b c d : Int) : geL [a, b] [c, d] = decide (c < a ∨ (a = c ∧ d ≤ b)) := by
  have e : geL [a, b] [c, d] = if decide (a = c) = true then (if decide (b = d) = true then true else decide (d ≤ b)) else decide (c ≤ a) := rfl
  rw [e]
  by_cases h1 : a = c
  · by_cases h2 : b = d
    · simp [h1, h2]
    · simp [h1, h2]
  · simp [h1]; omega
def rGeT (K : PySem.W.Frag) : R2 := fun x y H Q => ∃ (a b : Addr) (ns ms : List Int), x = .ref a ∧ y = .ref b ∧ SqT K H a (ns.map V.int) ∧ SqT K H b (ms.map V.int) ∧ Q (.bl (geL ns ms)) H
theorem op_geT {X : Cx} (hu : X.A.units < cLine) : OpR X (compareOp .GtE) (rGeT X.K) := by
  rintro pins s σ H x y v u Q I rx ry ⟨a, b, ns, ms, rfl, rfl, ha, hb, q⟩
  cases rx; cases ry
  obtain ⟨its, r1, p1, _⟩ := I.tuple ha; obtain ⟨its2, r2, p2, _⟩ := I.tuple hb
  have i1 := Vals.ints r1; have i2 := Vals.ints r2
  have e1 := i1.length; have e2 := i2.length
  have at1 : ∀ j (h : j < its.toArray.size), ∃ t, its.toArray[j] = .int (ns.getD j 0) t := fun j h => i1.int_at _ _ (by simp at h; simp [h])
  have at2 : ∀ j (h : j < its2.toArray.size), ∃ t, its2.toArray[j] = .int (ms.getD j 0) t := fun j h => i2.int_at _ _ (by simp at h; simp [h])
  have R := Ob.RcOp.tuples_ge (A := X.A) (s := s) (e := fun j => decide (ns.getD j 0 = ms.getD j 0)) (r := fun j => decide (ms.getD j 0 ≤ ns.getD j 0)) p1 p2 hu (fun j h1 h2 => by
      obtain ⟨t, z1⟩ := at1 j h1; obtain ⟨t', z2⟩ := at2 j h2
      have z : (ns.getD j 0 == ms.getD j 0) = decide (ns.getD j 0 = ms.getD j 0) := Bool.beq_eq_decide_eq _ _
      rw [z1, z2, ← z]; exact SeqAt.EqAt.int_int _ _ _ _)
    (fun j h1 h2 _ => by
      obtain ⟨t, z1⟩ := at1 j h1; obtain ⟨t', z2⟩ := at2 j h2
      rw [z1, z2]; exact Ob.RcOp.ge_int _ _ _ _)
  simp only [List.size_toArray, e1, e2] at R
  exact (R X.prog X.w X.xe (EP X pins σ Q) ⟨.bl _, H, I, rfl, q⟩ : wpAny (model X.prog X.w) X.A (compareOp .GtE (.ref a) (.ref b)) (EP X pins σ Q) X.xe s)
def dGeT : DR2 := fun x y M Q => match x, y with
  | .tup l, .tup m => ∃ ns ms, intsOf l = some ns ∧ intsOf m = some ms ∧ Q (.bl (geL ns ms)) M
  | _, _ => False
section
variable {X : Cx} {K : PySem.W.Frag} {F0 : FZ} {a b : Expr} {ta tb : TE} {ta' tb' : DTE} {pos : Pos}
theorem l2_geT : L2r K F0 dGeT (rGeT K) := by
  intro F M H d e x y Q' Q e0 s r1 r2 q k
  unfold dGeT at q
  split at q
  · obtain ⟨ns, ms, h1, h2, q⟩ := q
    cases r1 with
    | tup a1 b1 =>
      cases r2 with
      | tup a2 b2 =>
        have z1 := ints_rp b1 h1
        have z2 := ints_rp b2 h2
        subst z1 z2
        exact ⟨_, _, ns, ms, rfl, rfl, s.sqT a1, s.sqT a2, k F _ _ M H (FLe.refl F) s (.bl _) q⟩
  · exact q.elim
theorem de_geT {n : Nat} (hr : Room n X.A) (ha : DE X F0 a ta ta') (hb : DE X F0 b tb tb') : DE X F0 (.Compare a [.GtE] [b] pos) (tOp (rGeT X.K) ta tb) (dOp dGeT ta' tb') := de_cmp (op_geT (Nat.lt_of_le_of_lt (Nat.le_add_right _ _) hr.units)) l2_geT ha hb (nomark _)
end

/-! ### rows: a frozen list of lists to be changed -/
structure RowsAt (M : Mp) (as : List Addr) (rows : List (List D)) : Prop where
  nd : as.Nodup
  len : as.length = rows.length
  at' : ∀ (k : Nat) (a : Addr), as[k]? = some a → ∃ r, rows[k]? = some r ∧ M a = some (.lst r)
theorem RowsAt.get {M : Mp} {as : List Addr} {rows : List (List D)} (h : RowsAt M as rows) {k : Nat} {r : List D} (hr : rows[k]? = some r) : ∃ a, as[k]? = some a ∧ M a = some (.lst r) := by
  have hk : k < as.length := by rw [h.len]; exact (List.getElem?_eq_some_iff.mp hr).1
  have e : as[k]? = some as[k] := List.getElem?_eq_getElem hk
  obtain ⟨r', h1, h2⟩ := h.at' k _ e
  rw [hr] at h1; cases h1
  exact ⟨_, e, h2⟩
theorem RowsAt.set {M : Mp} {as : List Addr} {rows : List (List D)} (h : RowsAt M as rows) {k : Nat} {a : Addr} (ha : as[k]? = some a) (r' : List D) : RowsAt (mset M a (.lst r')) as (rows.set k r') := by
  refine ⟨h.nd, by rw [List.length_set]; exact h.len, fun j b hb => ?_⟩
  have hk := (List.getElem?_eq_some_iff.mp ha).1
  by_cases e : k = j
  · subst e
    rw [ha] at hb; cases hb
    exact ⟨r', List.getElem?_set_self (by rw [← h.len]; exact hk), mset_same⟩
  · have ne : b ≠ a := fun z => by
      subst z
      exact e ((List.getElem?_inj hk h.nd).mp (ha.trans hb.symm))
    obtain ⟨r, h1, h2⟩ := h.at' j b hb
    exact ⟨r, by rw [List.getElem?_set_ne e]; exact h1, by rw [mset_ne ne]; exact h2⟩
theorem RowsAt.other {M : Mp} {as : List Addr} {rows : List (List D)} (h : RowsAt M as rows) {p : Addr} {o : MO} (hp : p ∉ as) : RowsAt (mset M p o) as rows :=
  ⟨h.nd, h.len, fun k a ha => by
    obtain ⟨r, h1, h2⟩ := h.at' k a ha
    refine ⟨r, h1, ?_⟩
    have ne : a ≠ p := fun z => by subst z; exact hp (List.mem_of_getElem? ha)
    rw [mset_ne ne]
    exact h2⟩
/-- [[] for ..] -/
theorem lcI_fresh {g : DTG} {vs : List Nat} {γ : G} {items : List D} {M0 : Mp} {Q : DK} (hg : ∀ d M (Q : G → Mp → Prop), (∀ γ', Q γ' M) → ∀ γ, g d γ M Q)
    (q : ∀ as M, RowsAt M as (List.replicate items.length []) → (∀ p, p ∉ as → M p = M0 p) → (∀ a ∈ as, M0 a = none) → Q (.lst (as.map .ref)) M) : dLcI g dYes (dLstM dNil) vs γ items M0 Q := by
  refine ⟨fun i acc M => ∃ as : List Addr, acc = as.map .ref ∧ RowsAt M as (List.replicate i []) ∧ (∀ p, p ∉ as → M p = M0 p) ∧ ∀ a ∈ as, M0 a = none, ⟨[], rfl, ⟨List.nodup_nil, rfl, fun k a h => by simp at h⟩, fun _ _ => rfl, fun _ h => by cases h⟩, ?_, ?_⟩
  · rintro i d acc M hd ⟨as, rfl, h, ho, hn⟩
    refine hg d M _ (fun γ' => ?_) _
    refine ⟨by decide, fun p hp => ?_⟩
    have hpa : p ∉ as := fun z => by
      obtain ⟨k, hk⟩ := List.mem_iff_getElem?.mp z
      obtain ⟨r, _, h2⟩ := h.at' k p hk
      rw [hp] at h2; cases h2
    have h' := h.other (p := p) (o := .lst []) hpa
    refine ⟨as ++ [p], by rw [List.map_append]; rfl, ⟨?_, ?_, fun k a hk => ?_⟩, fun x hx => ?_, fun a ha => ?_⟩
    · rw [List.nodup_append]
      exact ⟨h.nd, by simp, fun a ha b hb => by
        rw [List.mem_singleton.mp hb]
        exact fun z => hpa (z ▸ ha)⟩
    · rw [List.length_append, h.len]; simp
    · by_cases hl : k < as.length
      · rw [List.getElem?_append_left hl] at hk
        obtain ⟨r, h1, h2⟩ := h'.at' k a hk
        refine ⟨r, ?_, h2⟩
        rw [List.replicate_succ', List.getElem?_append_left (by rw [← h.len]; exact hl)]
        exact h1
      · have e : k = as.length := by
          have := (List.getElem?_eq_some_iff.mp hk).1
          simp at this
          omega
        subst e
        simp at hk
        subst hk
        have hl2 := h.len
        simp at hl2
        exact ⟨[], by simp [hl2], mset_same⟩
    · have h1 : x ∉ as := fun z => hx (List.mem_append_left _ z)
      have h2 : x ≠ p := fun z => hx (by rw [z]; simp)
      rw [mset_ne h2]; exact ho x h1
    · rcases List.mem_append.mp ha with z | z
      · exact hn a z
      · rw [List.mem_singleton.mp z, ← ho p hpa]; exact hp
  · rintro acc M ⟨as, rfl, h, ho, hn⟩
    exact q as M h ho hn

/-! ### dicts as told -/
section
variable {κ : Type} [DecidableEq κ]
theorem dval_cons {k k1 : κ} {d : D} {l : List (κ × D)} : dval ((k1, d) :: l) k = if k1 = k then some d else dval l k := by
  by_cases h : k1 = k <;> simp [dval, List.find?, h]
theorem dval_dput {k k1 : κ} {d : D} {l : List (κ × D)} : dval (dput l k d) k1 = if k = k1 then some d else dval l k1 := by
  unfold dput
  by_cases hs : (dval l k).isSome = true
  · rw [if_pos hs]
    induction l with
    | nil => simp [dval] at hs
    | cons p l ih =>
      obtain ⟨k2, d2⟩ := p
      rw [dval_cons] at hs
      rw [List.map_cons]
      by_cases h2 : k2 = k
      · subst h2
        simp only [if_pos]
        rw [dval_cons, dval_cons]
        by_cases h3 : k2 = k1
        · simp [h3]
        · simp only [if_neg h3]
          have key : ∀ m : List (κ × D), dval (m.map fun kv => if kv.1 = k2 then (kv.1, d) else kv) k1 = dval m k1 := by
            intro m
            induction m with
            | nil => rfl
            | cons p m ih =>
              obtain ⟨k4, d4⟩ := p
              rw [List.map_cons]
              by_cases h4 : k4 = k2
              · subst h4
                simp only [if_pos]
                rw [dval_cons, dval_cons, if_neg h3, if_neg h3]; exact ih
              · simp only [if_neg h4]
                rw [dval_cons, dval_cons, ih]
          exact key l
      · rw [if_neg h2] at hs
        simp only [if_neg h2]
        rw [dval_cons, dval_cons, ih hs]
        by_cases h3 : k2 = k1
        · have h4 : ¬ k = k1 := fun z => h2 (h3.trans z.symm)
          simp [h3, h4]
        · simp [h3]
  · rw [if_neg hs]
    have hn : dval l k = none := by simpa using hs
    clear hs
    induction l with
    | nil => rw [List.nil_append, dval_cons]
    | cons p l ih =>
      obtain ⟨k2, d2⟩ := p
      rw [dval_cons] at hn
      rw [List.cons_append, dval_cons, dval_cons]
      by_cases h2 : k2 = k
      · simp [h2] at hn
      · rw [if_neg h2] at hn
        rw [ih hn]
        by_cases h3 : k2 = k1
        · have h4 : ¬ k = k1 := fun z => h2 (h3.trans z.symm)
          simp [h3, h4]
        · simp [h3]
theorem dput_len {k : κ} {d : D} {l : List (κ × D)} : (dput l k d).length ≤ l.length + 1 := by
  unfold dput
  split
  · rw [List.length_map]; omega
  · rw [List.length_append]; simp
end
end DL

set_option maxRecDepth 100000
set_option maxHeartbeats 2000000
namespace DL
open PySem PySem.Spec PyProof.Rows L2

/-! ### derivations whose kit reading is hidden: within a comprehension's own block -/
def DEx (X : Cx) (F0 : FZ) (e : Expr) (te' : DTE) : Prop := ∃ te, DE X F0 e te te'
def DTx (X : Cx) (F0 : FZ) (ifs : List Expr) (tt' : DTT) : Prop := ∃ tt, DTs X F0 ifs tt tt'
def DGx (X : Cx) (F0 : FZ) (vs : List Nat) (tg : Expr) (g' : DTG) : Prop := ∃ g, DG X F0 tg g g' ∧ GW vs g
def lfE (K : PySem.W.Frag) (F0 : FZ) (t' : DTE) : TE := fun σ H Q => ∃ F γ M Q', Bs F0 F ∧ SR K F M H ∧ GR K F γ σ ∧ t' γ M Q' ∧ ∀ F1 d v M1 H1, FLe F F1 → SR K F1 M1 H1 → Rp K F1 d v → Q' d M1 → Q v H1
def lfT (K : PySem.W.Frag) (F0 : FZ) (t' : DTT) : TT := fun σ H Q => ∃ F γ M Q', Bs F0 F ∧ SR K F M H ∧ GR K F γ σ ∧ t' γ M Q' ∧ ∀ F1 b M1 H1, FLe F F1 → SR K F1 M1 H1 → Q' b M1 → Q b H1
def lfG (K : PySem.W.Frag) (F0 : FZ) (vs : List Nat) (t' : DTG) : TG := fun v σ H Q => ∃ F γ M d Q', Bs F0 F ∧ SR K F M H ∧ GR K F γ σ ∧ Rp K F d v ∧ t' d γ M Q' ∧ ∀ F1 γ1 M1 σ1 H1, FLe F F1 → SR K F1 M1 H1 → GR K F1 γ1 σ1 → wipe σ1 vs = wipe σ vs → Q' γ1 M1 → Q σ1 H1
section
variable {X : Cx} {K : PySem.W.Frag} {F0 : FZ} {e tg : Expr} {ifs : List Expr} {vs : List Nat}
theorem DEx.pe {te' : DTE} (h : DEx X F0 e te') : PE X e (lfE X.K F0 te') := by
  obtain ⟨te, h⟩ := h
  refine ⟨fun pins s σ H Q I q => ?_⟩
  obtain ⟨F, γ, M, Q', e0, s1, g, q, k⟩ := q
  exact h.pe.run pins s σ H Q I (h.le F γ M σ H Q' Q e0 s1 g q k)
theorem le_lfE (te' : DTE) : LE K F0 te' (lfE K F0 te') := fun F γ M σ H Q' Q e0 s g q k => ⟨F, γ, M, Q', e0, s, g, q, k⟩
theorem DTx.pt {tt' : DTT} (h : DTx X F0 ifs tt') : PTs X ifs (lfT X.K F0 tt') := by
  obtain ⟨tt, h⟩ := h
  refine ⟨fun pins s σ H Q I q => ?_⟩
  obtain ⟨F, γ, M, Q', e0, s1, g, q, k⟩ := q
  exact h.pt.run pins s σ H Q I (h.le F γ M σ H Q' Q e0 s1 g q k)
theorem le_lfT (tt' : DTT) : LT K F0 tt' (lfT K F0 tt') := fun F γ M σ H Q' Q e0 s g q k => ⟨F, γ, M, Q', e0, s, g, q, k⟩
theorem DGx.pg {g' : DTG} (h : DGx X F0 vs tg g') : PG X tg (lfG X.K F0 vs g') := by
  obtain ⟨g, h, hw⟩ := h
  refine ⟨fun pins s σ H v u Q I r q => ?_⟩
  obtain ⟨F, γ, M, d, Q', e0, s1, gr, rd, q, k⟩ := q
  have a := h.le F γ M σ H d v Q' (fun σ1 H1 => wipe σ1 vs = wipe σ vs → Q σ1 H1) e0 s1 gr rd q fun F1 γ1 M1 σ1 H1 e1 s1 g1 q1 z => k F1 γ1 M1 σ1 H1 e1 s1 g1 z q1
  have b := hw v σ H _ a
  exact thn (h.pg.run pins s σ H v u _ I r b) fun _ s2 ⟨σ2, H2, I2, z1, z2⟩ => ⟨σ2, H2, I2, z2 z1⟩
theorem gw_lfG {vs : List Nat} {g' : DTG} : GW vs (lfG K F0 vs g') := fun v σ H Q ⟨F, γ, M, d, Q', e0, s, g, r, q, k⟩ => ⟨F, γ, M, d, Q', e0, s, g, r, q, fun F1 γ1 M1 σ1 H1 e1 s1 g1 z q1 => ⟨z, k F1 γ1 M1 σ1 H1 e1 s1 g1 z q1⟩⟩
theorem lg_lfG {vs : List Nat} {g' : DTG} : LG K F0 g' (lfG K F0 vs g') := fun F γ M σ H d v Q' Q e0 s g r q k => ⟨F, γ, M, d, Q', e0, s, g, r, q, fun F1 γ1 M1 σ1 H1 e1 s1 g1 _ q1 => k F1 γ1 M1 σ1 H1 e1 s1 g1 q1⟩
abbrev Blk (X : Cx) (scope : Scope) (p : Cx → Prop) : Prop := ∀ (s : Shared) (H : Hp) (C : Addr) (cl : List (Str × Addr)) (fp : List Addr), p (X.blk s H scope (compEnvC scope cl C X.env) fp)
variable {elt iter : Expr} {scope : Scope} {own : List (Str × Nat)} {pos spos py : Pos} {wi : TI} {wi' : DTI} {g' : DTG} {tt' : DTT} {te' : DTE}
theorem dx_lc (hc : X.calm = true) (hN : X.N.Nodup) (hi : DI X F0 tg iter wi wi') (ok : BlkOk X.N X.env.scope scope own) (hg : Blk X scope fun Y => DGx Y F0 (own.map (·.2)) tg g') (ht : Blk X scope fun Y => DTx Y F0 ifs tt') (he : Blk X scope fun Y => DEx Y F0 elt te') (hs : ∀ x, foldedSetIterable iter X.env x = pure x := by intro _; rfl) :
    DE X F0 (.ListComp elt [⟨tg, iter, ifs, 0⟩] scope pos) (tLc wi (lfG X.K F0 (own.map (·.2)) g') (lfT X.K F0 tt') (lfE X.K F0 te') (own.map (·.2))) (dLc wi' g' tt' te' (own.map (·.2))) :=
  ⟨pe_lc hc hN hi.pi ok (fun s H C cl fp => (hg s H C cl fp).pg) (fun s H C cl fp => (ht s H C cl fp).pt) (fun s H C cl fp => (he s H C cl fp).pe) hs, le_lc hi.le lg_lfG gw_lfG (le_lfT _) (le_lfE _)⟩
theorem ps_lcX (i : Nat) {y : Str} (hc : X.calm = true) (hN : X.N.Nodup) (hsw : swapsWith (.ListComp elt [⟨tg, iter, ifs, 0⟩] scope pos) (some (.Name y py)) spos.line X.env = pure true) (hi : DI X F0 tg iter wi wi') (ok : BlkOk X.N X.env.scope scope own) (hg : Blk X scope fun Y => DGx Y F0 (own.map (·.2)) tg g') (ht : Blk X scope fun Y => DTx Y F0 ifs tt') (he : Blk X scope fun Y => DEx Y F0 elt te')
    (hs : ∀ x, foldedSetIterable iter X.env x = pure x) (hy : X.N[i]? = some y) (hyl : X.env.scope.names.lookup y = some .local) : PS X (.Assign [.Name y py] (.ListComp elt [⟨tg, iter, ifs, 0⟩] scope pos) spos) (tAsg (tLc wi (lfG X.K F0 (own.map (·.2)) g') (lfT X.K F0 tt') (lfE X.K F0 te') (own.map (·.2))) (gName i)) :=
  ps_setLc hc hN hy hyl hsw hi.pi ok (fun s H C cl fp => (hg s H C cl fp).pg) (fun s H C cl fp => (ht s H C cl fp).pt) (fun s H C cl fp => (he s H C cl fp).pe) hs
theorem dx_setLc (i : Nat) {y : Str} (hc : X.calm = true) (hN : X.N.Nodup) (hsw : swapsWith (.ListComp elt [⟨tg, iter, ifs, 0⟩] scope pos) (some (.Name y py)) spos.line X.env = pure true) (hi : DI X F0 tg iter wi wi') (ok : BlkOk X.N X.env.scope scope own) (hg : Blk X scope fun Y => DGx Y F0 (own.map (·.2)) tg g') (ht : Blk X scope fun Y => DTx Y F0 ifs tt') (he : Blk X scope fun Y => DEx Y F0 elt te')
    (hs : ∀ x, foldedSetIterable iter X.env x = pure x := by intro _; rfl) (hy : X.N[i]? = some y := by rfl) (hyl : X.env.scope.names.lookup y = some .local := by rfl) : DS X F0 (.Assign [.Name y py] (.ListComp elt [⟨tg, iter, ifs, 0⟩] scope pos) spos) (tAsg (tLc wi (lfG X.K F0 (own.map (·.2)) g') (lfT X.K F0 tt') (lfE X.K F0 te') (own.map (·.2))) (gName i)) (dAsg (dLc wi' g' tt' te' (own.map (·.2))) (hName i)) :=
  ⟨ps_lcX i hc hN hsw hi ok hg ht he hs hy hyl, ls_asg (le_lc hi.le lg_lfG gw_lfG (le_lfT _) (le_lfE _)) (dg_name (X := X) (F0 := F0) (pos := pos) i hN hy (Or.inl hyl) (.inr hyl)).le⟩
end
end DL

set_option maxRecDepth 100000
set_option maxHeartbeats 2000000
namespace DL
open PySem PySem.Spec PyProof.Rows L2

section
variable {P : Program} {w : World} {K : PySem.W.Frag} {mg : Str → Option Value} {base : Heap}
/-- the law itself -/
theorem dokL {x : Str} {st : Stmt} {f : Addr} {fd : FuncData} {N ps : List Str} {k : Nat} {sp : DSp} (F : Fun K x x st f fd) (S : FnScope N ps (defScope st)) (len : ∀ ds M Q E, sp ds M Q E → ds.length = ps.length)
    (hbody : ∀ (cdv : Value) (A : Around) (outer : List Env) (s : Shared) (H : Hp) (E : XK) (F0 : FZ), Room k (A.deeper (envOfC x (defScope st) s.heap.objs.size f cdv)) →
      ∃ t t', DB (cxOf CX0 P w K mg base N x (defScope st) f cdv A outer s H E).nox F0 (defBody st) t t' ∧ ∀ ds M Q' E', sp ds M Q' E' → t' { nx := fun _ M1 => fin Q' .non M1, rt := fin Q' } (dstart N ds) M) : FnOk P w K mg base CX0 (k + 1) f fd ps (liftSp K sp) := by
  refine F.ok S (fun vs H Q E ⟨_, ds, _, _, _, _, r, q, _⟩ => by rw [← r.length]; exact len _ _ _ _ q) (fun cdv A outer s H vs Q E hr ⟨F, ds, M, Q', E', s1, r, q, kq, _⟩ => ?_)
  obtain ⟨t, t', d, h⟩ := hbody cdv A outer s H E F hr
  exact ⟨t, d.ps, d.le F (dstart N ds) M (L2.start N vs) H { nx := fun _ M1 => fin Q' .non M1, rt := fin Q' } { nx := fun _ H' => Q .non H', rt := Q } (Bs.refl _) s1 (gr_start r) (h ds M Q' E' q)
    ⟨fun F1 γ1 M1 σ1 H1 e1 s1 g1 ⟨M2, l, q⟩ => kq F1 .non .non M2 H1 e1 (s1.less l) .non q, fun F1 d1 v1 M1 H1 e1 s1 r1 ⟨M2, l, q⟩ => kq F1 d1 v1 M2 H1 e1 (s1.less l) r1 q, fun _ _ _ _ _ _ _ _ z => z.elim, fun _ _ _ _ _ _ _ _ z => z.elim⟩⟩
/-- a def of the text, by what the top has written -/
theorem dfun_mk {h : Heap} {x : Str} {st : Stmt} {f : Addr} {ps : List Str} {od an : Option Addr} {sl : Array (Option Value)} {oc kV dc pm cd ct : Value} (X : K.In h) (G : h.Ns mainGlobals mg) (a : PySem.W.nsIn K mainGlobals x = some (some (.ref f)))
    (l : K.lookup f = some ⟨oc, od, .func (PySem.W.fnOf x x (defArgs st) (defBody st) (defScope st) .none kV dc pm an cd ct), sl⟩) (c : PySem.W.codeIn K cd x = true) (k : PySem.W.keepIn K (.ref f) = true)
    (b : ∀ (kV doc pm : Value) (an : Option Addr) (cdv ct : Value) (us : List Value), us.length = ps.length → bindArgs (PySem.W.fnOf x x (defArgs st) (defBody st) (defScope st) .none kV doc pm an cdv ct) ⟨us, []⟩ = pure (ps.zip us)) : DFun K mg x st ps :=
  ⟨f, _, fun_mk l c k, PySem.W.mg_of X G a, (fun_mk (st := st) l c k).binds b⟩
theorem dmet_mk {x q : Str} {st : Stmt} {f : Addr} {ps : List Str} {od an : Option Addr} {sl : Array (Option Value)} {oc kV dc pm cd ct : Value} (l : K.lookup f = some ⟨oc, od, .func (PySem.W.fnOf x q (defArgs st) (defBody st) (defScope st) .none kV dc pm an cd ct), sl⟩) (c : PySem.W.codeIn K cd q = true) (k : PySem.W.keepIn K (.ref f) = true)
    (b : ∀ (kV doc pm : Value) (an : Option Addr) (cdv ct : Value) (us : List Value), us.length = ps.length → bindArgs (PySem.W.fnOf x q (defArgs st) (defBody st) (defScope st) .none kV doc pm an cdv ct) ⟨us, []⟩ = pure (ps.zip us)) : DMet K x q st f ps :=
  ⟨_, fun_mk l c k, (fun_mk (st := st) l c k).binds b⟩
theorem dmk_mk {CX : CXT} {h : Heap} {x : Str} {C f : Addr} {k : Nat} {ps : List Str} {sp : DSp} (X : K.In h) (G : h.Ns mainGlobals mg) (a : PySem.W.nsIn K mainGlobals x = some (some (.ref C))) (M : Mk K C f) (H : ∃ fd, FnOk P w K mg base CX k f fd ps (liftSp K sp) ∧ Binds K fd ps []) : DMk P w K mg base CX k x C sp := by
  obtain ⟨fd, h1, h2⟩ := H
  exact ⟨f, fd, ps, h1, PySem.W.mg_of X G a, M, h2⟩
/-- the end of a law's proof -/
theorem walk_law {l : PySem.W.OpenLaw} {q : Program} {k : Nat} {loose : List Str} {XP : (Str → Option Value) → Heap → Prop} {YP : World → Heap → Prop} {d : DefRec} {K : Params → PySem.W.Frag} {x : Str} (hn : l.most = some 63) (hdf : d.params.defaults = []) (hr : Room k callerA) (hY : ∀ (w : World) (h : Heap), YP w h → (K w.params).In h)
    (F : ∀ (w : World) (mg : Str → Option Value) (fa : Addr) (h : Heap), (K w.params).In h → h.Ns mainGlobals mg → mg d.name = some (.ref fa) →
      ∃ fd : FuncData, (∀ (s : Shared) (u : Value), BindsTo s fd ⟨[u], []⟩ [(x, u)]) ∧ ∀ base : Heap, (K w.params).In base → base.Ns mainGlobals mg → FnOk l.prog w (K w.params) mg base CX0 k fa fd [x] (liftSp (K w.params) spLaw)) :
    PySem.W.WalkO q loose XP YP l.row.toRowW d [] (fun f vs => PySem.call f vs) :=
  walk_ofK (sp := fun K => liftSp K spLaw) (CX := CX0) hn (by decide) hdf hr hY F (fun K H a ns h1 _ h3 => law_sp h1 h3) fun _ _ _ _ z => z
end
end DL

set_option maxRecDepth 100000
set_option maxHeartbeats 2000000
namespace DL
open PySem PySem.Spec PyProof.Rows L2

/-! ### {k: v for ..} -/
section
variable {X : Cx} {K : PySem.W.Frag} {F0 : FZ}
def dDcI (g : DTG) (tt : DTT) (tk te : DTE) (vs : List Nat) (γ : G) (items : List D) (M1 : Mp) (Q : DK) : Prop := ∃ I : Nat → List (Key × D) → Mp → Prop, I 0 [] M1 ∧
  (∀ i d acc M, items[i]? = some d → I i acc M → g d (dwipe γ vs) M fun γ2 M2 => tt γ2 M2 fun b M3 => if b = true then tk γ2 M3 fun x M4 => ∃ kk, keyOf x = some kk ∧ te γ2 M4 fun y M5 => I (i + 1) (dput acc kk y) M5 else I (i + 1) acc M3) ∧
  ∀ acc M, I items.length acc M → ∀ p, M p = none → Q (.ref p) (mset M p (.dK acc))
def dDc (wi : DTI) (g : DTG) (tt : DTT) (tk te : DTE) (vs : List Nat) : DTE := fun γ M Q => wi γ M fun items M1 => items.length ≤ sizeLine ∧ dDcI g tt tk te vs γ items M1 Q
def DcW (K : PySem.W.Frag) (F1 : FZ) (L : Addr) (I : Nat → List (Key × D) → Mp → Prop) (i : Nat) (H : Hp) : Prop := ∃ F2 M2 acc ps, FLe F1 F2 ∧ SR K F2 M2 H ∧ (F2.f L = none ∧ F2.d L = none) ∧ M2 L = none ∧ H L = some (.dK ps) ∧ KVR K F2 acc ps ∧ acc.length ≤ i ∧ I i acc M2
theorem le_dc {wi : TI} {wi' : DTI} {g : TG} {g' : DTG} {tt : TT} {tt' : DTT} {tk te : TE} {tk' te' : DTE} {vs : List Nat} (hi : LI K F0 wi' wi) (hg : LG K F0 g' g) (hw : GW vs g) (ht : LT K F0 tt' tt) (hkey : LE K F0 tk' tk) (he : LE K F0 te' te) :
    LE K F0 (dDc wi' g' tt' tk' te' vs) (tDc wi g tt tk te vs) := by
  intro F γ M σ H Q' Q e0 s gr q k
  refine hi F γ M σ H _ _ e0 s gr q fun F1 items J M1 H1 e1 s1 j1 q1 => ?_
  obtain ⟨hlen, I, h0, step, done⟩ := q1
  intro D hD
  have hDF := s1.freeF hD
  have hDM := s1.freeM hD
  have hDP := s1.freeP hD
  refine ⟨fun i m H => m = items.length - i ∧ i ≤ items.length ∧ DcW K F1 D I i H, ⟨items.length, by simp, Nat.zero_le _, ?_⟩, ?_⟩
  · refine ⟨F1, M1, [], [], FLe.refl _, s1.other hD, ⟨hDF, s1.freeD hD⟩, hDM, upd_same, .nil, Nat.le_refl _, h0⟩
  · rintro i m H2 ⟨rfl, hi2, F2, M2, acc, xs, e2, s2, dF, dM, hl, rl, al, i2⟩
    have dP : F2.p D = none := by rw [e2.e]; exact hDP
    by_cases hlt : i < items.length
    · have hd : items[i]? = some items[i] := List.getElem?_eq_getElem hlt
      have sh := s2.hide dF.1 dM hl (fun _ z => by cases z) (fun u e => by rw [dF.2] at e; cases e)
      obtain ⟨go, y⟩ := (j1 i (F2.hide D (.dK xs)) M2 H2 (bj_hide e2 hDP) sh).2 _ hd
      refine .inr ⟨go, DcW K F1 D I (i + 1), fun H' h => ⟨items.length - (i + 1), by omega, rfl, hlt, h⟩, fun x H3 yy => ?_⟩
      obtain ⟨F3, e3, s3, r3⟩ := y x H3 yy
      have b3 : Sm F2 F3 := e3.s
      have a3 : Bs F0 F3 := ⟨((e0.tr e1).tr e2).f.trans' b3, ((e0.tr e1).tr e2).p.trans (fun b o h => by rw [e3.e]; exact (upd_ne (ne_of_none h dP)).trans h)⟩
      have back : ∀ {F5 : FZ} {M5 : Mp} {H5 : Hp} (o : HO), FLe F3 F5 → SR K F5 M5 H5 → SR K ⟨F5.f, F2.p, F5.d⟩ M5 (upd H5 D o) ∧ H5 D = some (.dK xs) ∧ (F5.f D = none ∧ F5.d D = none) ∧ M5 D = none := fun {F5 M5 H5} o e5 s5 => by
        obtain ⟨w1, w2, w3, w4⟩ := s5.unhide (u := o) (o := .dK xs) (q := F2.p) (p := D) (by rw [e5.e, e3.e]; rfl) dP
        exact ⟨w1, w2, ⟨w3, s5.hidD (o := .dK xs) (by rw [e5.e, e3.e]; exact upd_same) (fun _ _ z => nomatch z)⟩, w4⟩
      have step' := step i _ acc M2 hd i2
      have r0 : KVR K F3 acc xs := rl.monoS b3
      have lt1 : xs.length < sizeLine := by rw [← kvr_len r0]; omega
      have main := hw x (wipe σ vs) H3 _ (hg F3 (dwipe γ vs) M2 (wipe σ vs) H3 _ x _ (fun σ2 H2 => tt σ2 H2 fun b H3 => if b = true then tk σ2 H3 fun y H4 => te σ2 H4 fun z H5 => ∃ kvs kk, y = kV kk ∧ H5 D = some (.dK kvs) ∧ kvs.length < sizeLine ∧ DcW K F1 D I (i + 1) (upd H5 D (.dK (putK kvs kk z))) else DcW K F1 D I (i + 1) H3)
        a3 s3 (gr_wipe (gr.monoS ((e1.s.trans' e2.s).trans' b3)) vs) r3 step' fun F4 γ4 M4 σ4 H4 e4 s4 g4 q4 =>
        ht F4 γ4 M4 σ4 H4 _ _ (a3.tr e4) s4 g4 q4 fun F5 b M5 H5 e5 s5 q5 => by
          cases b with
          | false =>
            obtain ⟨z1, z2, z3, z4⟩ := back (.dK xs) (e4.trans e5) s5
            have eq : upd H5 D (.dK xs) = H5 := by
              funext b
              by_cases hb : b = D
              · subst hb; rw [upd_same, z2]
              · rw [upd_ne hb]
            rw [eq] at z1
            exact ⟨⟨F5.f, F2.p, F5.d⟩, M5, acc, xs, ⟨(e2.s.trans' b3).trans' (e4.trans e5).s, e2.e⟩, z1, z3, z4, z2, KVR.monoS (F := F3) (F' := ⟨F5.f, F2.p, F5.d⟩) (e4.trans e5).s r0, Nat.le_succ_of_le al, q5⟩
          | true =>
            refine hkey F5 γ4 M5 σ4 H5 _ _ ((a3.tr e4).tr e5) s5 (g4.mono e5) q5 fun F7 d7 v7 M7 H7 e7 s7 r7 q7 => ?_
            obtain ⟨kk, hkk, q7⟩ := q7
            have hx := keyOf_rp r7 hkk
            subst hx
            refine he F7 γ4 M7 σ4 H7 _ _ (((a3.tr e4).tr e5).tr e7) s7 (g4.mono (e5.trans e7)) q7 fun F6 d v M6 H6 e6 s6 r6 q6 => ?_
            obtain ⟨z1, z2, z3, z4⟩ := back (.dK (putK xs kk v)) (((e4.trans e5).trans e7).trans e6) s6
            have l2 : (dput acc kk d).length ≤ acc.length + 1 := dput_len
            refine ⟨xs, kk, rfl, z2, lt1, ⟨F6.f, F2.p, F6.d⟩, M6, dput acc kk d, putK xs kk v, ⟨(e2.s.trans' b3).trans' (((e4.trans e5).trans e7).trans e6).s, e2.e⟩, z1, z3, z4, upd_same, kvr_put (Rp.monoS (F := F6) (F' := ⟨F6.f, F2.p, F6.d⟩) Sm.rfl' r6) (KVR.monoS (F := F3) (F' := ⟨F6.f, F2.p, F6.d⟩) (((e4.trans e5).trans e7).trans e6).s r0), by omega, q6⟩)
      rw [wipe_wipe] at main
      exact main
    · have e : i = items.length := by omega
      subst e
      refine .inl ⟨((j1 items.length F2 M2 H2 e2.bj s2).1 (Nat.le_refl _)), ?_⟩
      have hz : xs.length ≤ sizeLine := by rw [← kvr_len rl]; omega
      have s3 := s2.own (o := .dK acc) dF.1 (by rw [e2.e]; exact hDP) dF.2 hl (.dK rl hz)
      exact k F2 (.ref D) (.ref D) _ H2 (e1.trans e2) s3 (.ref D) (done acc M2 i2 D dM)
variable {kx vx tg iter : Expr} {ifs : List Expr} {scope : Scope} {own : List (Str × Nat)} {pos : Pos} {wi : TI} {wi' : DTI} {g' : DTG} {tt' : DTT} {tk' te' : DTE}
end
/-- over unlike items, each of a key of its own -/
theorem dDcI_map {g : DTG} {tk te : DTE} {vs : List Nat} {γ : G} {items : List D} {M : Mp} {Q : DK} (kf : D → Key) (f : D → D) (h : ∀ (i : Nat) (d : D), items[i]? = some d → ∀ Q2 : Key → DK, Q2 (kf d) (f d) M → g d (dwipe γ vs) M fun γ2 M2 => tk γ2 M2 fun x M4 => ∃ kk, keyOf x = some kk ∧ te γ2 M4 (Q2 kk))
    (q : ∀ p, M p = none → Q (.ref p) (mset M p (.dK (items.foldl (fun acc d => dput acc (kf d) (f d)) [])))) : dDcI g dYes tk te vs γ items M Q := by
  refine ⟨fun i acc M' => M' = M ∧ acc = (items.take i).foldl (fun acc d => dput acc (kf d) (f d)) [], ⟨rfl, by simp⟩, ?_, ?_⟩
  · rintro i d acc M' hd ⟨rfl, rfl⟩
    refine h i d hd (fun kk y M5 => M5 = M' ∧ dput _ kk y = _) ⟨rfl, ?_⟩
    have hlt := (List.getElem?_eq_some_iff.mp hd).1
    rw [List.take_add_one, hd, List.foldl_append]
    rfl
  · rintro acc M' ⟨rfl, rfl⟩
    rw [List.take_length]
    exact q

/-! ### len(set(..)) of unlike ints, [::-1], is True -/
section
variable {X : Cx} {K : PySem.W.Frag} {F0 : FZ} {a b e : Expr} {ta tb te : TE} {ta' tb' te' : DTE} {pos : Pos}
def seqInts (M : Mp) : D → Option (List D)
  | .lst l => some l
  | .tup l => some l
  | .kt l => some l
  | .ref p => (match M p with
    | some (.lst l) => some l
    | _ => none)
  | _ => none
theorem seq_rp {F : FZ} {M : Mp} {H : Hp} {d : D} {v : V} {l : List D} (s : SR K F M H) (r : Rp K F d v) (h : seqInts M d = some l) : ∃ p xs, v = .ref p ∧ (SqL K H p xs ∨ SqT K H p xs) ∧ RpL K F l xs := by
  cases r with
  | lst a b => simp only [seqInts, Option.some.injEq] at h; subst h; exact ⟨_, _, rfl, .inl (SqL.of (s.fz _ _ a)), b⟩
  | tup a b => simp only [seqInts, Option.some.injEq] at h; subst h; exact ⟨_, _, rfl, .inr (s.sqT a), b⟩
  | kt a b => simp only [seqInts, Option.some.injEq] at h; subst h; exact ⟨_, _, rfl, .inr (s.sqK a), b⟩
  | ref p =>
    simp only [seqInts] at h
    split at h
    · rename_i hm
      cases h
      obtain ⟨u, h1, h2⟩ := s.mu p _ hm
      cases h2 with
      | lst b z => exact ⟨_, _, rfl, .inl (SqL.of h1), b⟩
    · cases h
  | _ => simp [seqInts] at h
end
end DL

set_option maxRecDepth 100000
set_option maxHeartbeats 2000000
namespace DL
open PySem PySem.Spec PyProof.Rows L2

/-! ### name = {k: v for ..} on one row -/
section
variable {X : Cx} {K : PySem.W.Frag} {F0 : FZ} {kx vx tg iter : Expr} {ifs : List Expr} {scope : Scope} {own : List (Str × Nat)} {pos spos py : Pos} {wi : TI} {wi' : DTI} {g' : DTG} {tt' : DTT} {tk' te' : DTE}
theorem sw_trueD {gs : List Comprehension} {y : Str} {l : Nat} {env : Env} (hk : env.scope.kind = .function) (hy : env.scope.names.lookup y = some .local) (hl : (py.line == pos.line) = true) (ha : (scope.names.any fun (n, k) => n == y && (k == .local || k == .cell)) = false) :
    swapsWith (.DictComp kx vx gs scope pos) (some (.Name y py)) l env = pure true := by
  have ky : env.kindOf y = some .local := hy
  have hb : env.blockKind = .function := by (unfold Env.blockKind; rw [hk]; rfl)
  unfold swapsWith
  simp only [hb, ky, ha, Expr.pos, hl]; rfl
theorem ps_setDc {i : Nat} {y : Str} {g : TG} {tt : TT} {tk tv : TE} (hc : X.calm = true) (hN : X.N.Nodup) (hy : X.N[i]? = some y) (hyl : X.env.scope.names.lookup y = some .local) (hsw : swapsWith (.DictComp kx vx [⟨tg, iter, ifs, 0⟩] scope pos) (some (.Name y py)) spos.line X.env = pure true) (hi : PI X tg iter wi) (ok : BlkOk X.N X.env.scope scope own)
    (hg : Blk X scope fun Y => PG Y tg g) (ht : Blk X scope fun Y => PTs Y ifs tt) (hk : Blk X scope fun Y => PE Y kx tk) (he : Blk X scope fun Y => PE Y vx tv) (hs : ∀ x, foldedSetIterable iter X.env x = pure x) : PS X (.Assign [.Name y py] (.DictComp kx vx [⟨tg, iter, ifs, 0⟩] scope pos) spos) (tAsg (tDc wi g tt tk tv (own.map (·.2))) (gName i)) := by
  refine ⟨fun pins s σ H D I h => ?_⟩
  rw [exec_Assign_Name_used _ _ _ _ hsw]
  refine wpAny_bind (wpAny_standAt (wpAny_bind (?_ : wpAny _ X.A (do let _ ← comprehension (.DictComp kx vx [⟨tg, iter, ifs, 0⟩] scope pos) scope X.env (firstIterPos [⟨tg, iter, ifs, 0⟩] pos) newDict false (eval iter X.env) (some (assign (.Name y py) X.env))) _ _ s)))
  have h : tDc wi g tt tk tv (own.map (·.2)) σ H (fun x H1 => gName i x σ H1 D.nx) := h
  refine wpAny_bind (thn (dc_core (Qf := fun _ s' => SP X pins D .next s') hc hN I hi ok hg ht hk he hs h fun L C s' m H' I' q hn f => ?_) fun _ s' hq => wpAny_pure (wpAny_pure hq))
  refine (?_ : wpAny _ _ (assign (.Name y py) X.env (.ref L)) _ _ _)
  refine wpAny_assign_Name (store_ok2 (v := V.ref L) I' hN hy (.inl hyl) rfl (fun s2 I2 ⟨a, sb, ha⟩ => ?_) (.inr hyl))
  obtain ⟨f0, f1, f2, f3, f4, f5⟩ := f
  have haC : C ≠ a := ha.elim (fun z => z ▸ f1) fun z e => f4 y a z e.symm
  exact ⟨m, hn.sameBut sb haC, fun h3 sb3 => ⟨_, H', I2.turned (t' := s2.toks) (fun b o hb e => (sb3.2 b hb).trans e) f0 f1 f3 f4 f5, q⟩⟩
theorem dx_setDc (i : Nat) {y : Str} (hc : X.calm = true) (hN : X.N.Nodup) (hsw : swapsWith (.DictComp kx vx [⟨tg, iter, ifs, 0⟩] scope pos) (some (.Name y py)) spos.line X.env = pure true) (hi : DI X F0 tg iter wi wi') (ok : BlkOk X.N X.env.scope scope own) (hg : Blk X scope fun Y => DGx Y F0 (own.map (·.2)) tg g') (ht : Blk X scope fun Y => DTx Y F0 ifs tt') (hk : Blk X scope fun Y => DEx Y F0 kx tk') (he : Blk X scope fun Y => DEx Y F0 vx te')
    (hs : ∀ x, foldedSetIterable iter X.env x = pure x := by intro _; rfl) (hy : X.N[i]? = some y := by rfl) (hyl : X.env.scope.names.lookup y = some .local := by rfl) : DS X F0 (.Assign [.Name y py] (.DictComp kx vx [⟨tg, iter, ifs, 0⟩] scope pos) spos) (tAsg (tDc wi (lfG X.K F0 (own.map (·.2)) g') (lfT X.K F0 tt') (lfE X.K F0 tk') (lfE X.K F0 te') (own.map (·.2))) (gName i)) (dAsg (dDc wi' g' tt' tk' te' (own.map (·.2))) (hName i)) :=
  ⟨ps_setDc hc hN hy hyl hsw hi.pi ok (fun s H C cl fp => (hg s H C cl fp).pg) (fun s H C cl fp => (ht s H C cl fp).pt) (fun s H C cl fp => (hk s H C cl fp).pe) (fun s H C cl fp => (he s H C cl fp).pe) hs,
    ls_asg (le_dc hi.le lg_lfG gw_lfG (le_lfT _) (le_lfE _) (le_lfE _)) (dg_name (X := X) (F0 := F0) (pos := pos) i hN hy (Or.inl hyl) (.inr hyl)).le⟩
end
section
variable {X : Cx} {F0 : FZ} {a b c : Expr} {ta tb tc : TE} {ta' tb' tc' : DTE} {pos : Pos}
end
end DL

set_option maxRecDepth 100000
set_option maxHeartbeats 2000000
namespace DL
open PySem PySem.Spec PyProof.Rows L2

/-! ### calls that may raise, within a try or a def that raises -/
abbrev DXG := G → DXK
theorem XR.mono {K : PySem.W.Frag} {F F' : FZ} {fs : Option (List (Str × D))} {d : Option Addr} {H : Hp} (e : Sm F F') (h : XR K F fs d H) : XR K F' fs d H := by
  cases fs with
  | none => cases d <;> exact h
  | some l =>
    cases d with
    | none => exact h
    | some a => obtain ⟨gs, h1, h2⟩ := h; exact ⟨gs, h1, h2.monoS e⟩
section
variable {X : Cx} {K : PySem.W.Frag} {F0 : FZ} {e : Expr} {es : List Expr} {t : TA} {t' : DTA} {p pos : Pos}
end

/-! ### raise C() -/
/-- an error's class without fields of its own -/
structure ExCls (K : PySem.W.Frag) (mg : Str → Option Value) (x : Str) (C : Addr) : Prop where
  gC : mg x = some (.ref C)
  kC : PySem.W.keepIn K (.ref C) = true
  q : PySem.W.excIn K C [.type "ValueError", .type "Exception", .type "BaseException", .type "object"] "ValueError.__new__" = true
  sub : PySem.W.subIn K (.ref C) (.type "BaseException") = some true
  ty : PySem.W.typeIn K (.ref C) = some (.type "type")
section
variable {X : Cx} {F0 : FZ} {C : Addr} {x : Str} {p pos pos2 : Pos}
end

/-! ### try: .. except C as e: .. -/
def lfS (K : PySem.W.Frag) (F0 : FZ) (t' : DTS) : TS := fun D σ H => ∃ F γ M D', Bs F0 F ∧ SR K F M H ∧ GR K F γ σ ∧ t' D' γ M ∧ ER K F D' D
theorem lfS_pss {X : Cx} {F0 : FZ} {st : List Stmt} {t : TS} {t' : DTS} (h : DB X F0 st t t') : PSs X st (lfS X.K F0 t') := by
  refine ⟨fun pins s σ H D I q => ?_⟩
  obtain ⟨F, γ, M, D', e0, s1, g, q, er⟩ := q
  exact h.ps.run pins s σ H D I (h.le F γ M σ H D' D e0 s1 g q er)
section
variable {X : Cx} {F0 : FZ} {x n : Str} {c : Value} {body suite : List Stmt} {b₀ : Stmt} {np pos pos' : Pos} {t' : DXG → DTS} {u' : Addr → Addr → DTS} {Eout : DXG}
end
end DL

set_option maxRecDepth 100000
set_option maxHeartbeats 2000000
namespace DL
open PySem PySem.Spec PyProof.Rows L2

/-! ### classes as values, isinstance(e, C) in an except clause -/
section
variable {X : Cx} {K : PySem.W.Frag} {F0 : FZ}
end
end DL

set_option maxRecDepth 100000
set_option maxHeartbeats 2000000
namespace DL
open PySem PySem.Spec PyProof.Rows L2

/-! ### len(set(..)) of any ints -/
theorem nd_len : ∀ {l m : List Int}, l.Nodup → (∀ x, x ∈ l → x ∈ m) → l.length ≤ m.length
  | [], _, _, _ => Nat.zero_le _
  | a :: l, m, nd, h => by
    rw [List.nodup_cons] at nd
    have ha : a ∈ m := h a List.mem_cons_self
    have := nd_len (l := l) (m := m.erase a) nd.2 fun x hx => (List.mem_erase_of_ne fun e => nd.1 (by rw [← e]; exact hx)).mpr (h x (List.mem_cons_of_mem _ hx))
    have e := List.length_erase_of_mem ha
    have p := List.length_pos_of_mem ha
    rw [List.length_cons]; omega
theorem nd_of_len : ∀ {ns fm : List Int}, fm.Nodup → (∀ x, x ∈ fm → x ∈ ns) → fm.length = ns.length → ns.Nodup
  | [], _, _, _, _ => List.nodup_nil
  | a :: r, fm, nd, h, e => by
    rw [List.length_cons] at e
    have big : ¬ ∀ x, x ∈ fm → x ∈ r := fun z => by have := nd_len nd z; omega
    have ha : a ∈ fm := by
      by_cases c : a ∈ fm
      · exact c
      · exact absurd (fun x hx => (List.mem_cons.mp (h x hx)).resolve_left fun z => c (z ▸ hx)) big
    have hr : a ∉ r := fun z => big fun x hx => (List.mem_cons.mp (h x hx)).elim (fun y => by rw [y]; exact z) id
    refine List.nodup_cons.mpr ⟨hr, nd_of_len (fm := fm.erase a) (nd.erase a) (fun x hx => ?_) (by rw [List.length_erase_of_mem ha]; omega)⟩
    have hx2 : x ∈ fm := List.mem_of_mem_erase hx
    refine (List.mem_cons.mp (h x hx2)).resolve_left fun z => ?_
    subst z
    exact (List.Nodup.not_mem_erase nd) hx
theorem fm_facts (val : Nat → Int) : ∀ i : Nat, (firstMet val i).Nodup ∧ ∀ k, k ∈ firstMet val i ↔ ∃ j, j < i ∧ val j = k
  | 0 => ⟨List.nodup_nil, fun k => ⟨fun h => (by cases h), fun ⟨j, h, _⟩ => absurd h (Nat.not_lt_zero j)⟩⟩
  | i + 1 => by
    obtain ⟨h1, h2⟩ := fm_facts val i
    rw [firstMet_succ]
    unfold step_dedup
    by_cases c : (firstMet val i).any (· == val i) = true
    · rw [if_pos c]
      have cm : val i ∈ firstMet val i := by
        obtain ⟨x, hx, e⟩ := List.any_eq_true.mp c
        rw [← beq_iff_eq.mp e]; exact hx
      refine ⟨h1, fun k => (h2 k).trans ⟨fun ⟨j, hj, e⟩ => ⟨j, by omega, e⟩, fun ⟨j, hj, e⟩ => ?_⟩⟩
      by_cases z : j = i
      · subst z; rw [← e]; exact (h2 _).mp cm
      · exact ⟨j, by omega, e⟩
    · rw [if_neg c]
      have cm : val i ∉ firstMet val i := fun h => c (List.any_eq_true.mpr ⟨_, h, beq_iff_eq.mpr rfl⟩)
      refine ⟨List.nodup_append.mpr ⟨h1, by simp, fun a ha b hb => by rw [List.mem_singleton.mp hb]; exact fun z => cm (z ▸ ha)⟩, fun k => ?_⟩
      rw [List.mem_append, h2, List.mem_singleton]
      constructor
      · rintro (⟨j, hj, e⟩ | e)
        · exact ⟨j, by omega, e⟩
        · exact ⟨i, by omega, e.symm⟩
      · rintro ⟨j, hj, e⟩
        by_cases z : j = i
        · subst z; exact .inr e.symm
        · exact .inl ⟨j, by omega, e⟩
section
variable {X : Cx} {K : PySem.W.Frag} {F0 : FZ} {a : Expr} {ta : TE} {ta' : DTE} {pos : Pos}
def dLenSetG (ta : DTE) : DTE := fun γ M Q => ta γ M fun x M1 => ∃ ns : List Int, seqInts M1 x = some (ns.map .int) ∧ ns.length ≤ 4000 ∧ ∀ c : Nat, c ≤ ns.length → (c = ns.length ↔ ns.Nodup) → Q (.int (c : Int)) M1
def tLenSetG (K : PySem.W.Frag) (ta : TE) : TE := fun σ H Q => ta σ H fun x H1 => ∃ (l : Addr) (ns : List Int), x = .ref l ∧ (SqL K H1 l (ns.map V.int) ∨ SqT K H1 l (ns.map V.int)) ∧ ns.length ≤ 4000 ∧ ∀ c : Nat, c ≤ ns.length → (c = ns.length ↔ ns.Nodup) → Q (.int (c : Int)) H1
theorem pe_lenSetG {p p2 q : Pos} (hm : X.mg "len" = none) (hm2 : X.mg "set" = none) (ha : PE X a ta) (hg : Gl X "len" := by rfl) (hg2 : Gl X "set" := by rfl) (hc : X.calm = true := by rfl)
    (na : starEach [a] X.env = (false, eval a X.env) :: starEach [] X.env := by rfl) : PE X (.Call (.Name "len" p) [.Call (.Name "set" p2) [a] [] q] [] pos) (tLenSetG X.K ta) := by
  refine ⟨fun pins s σ H Q I h => Call_ (ld_blt I hg hm PySem.boot_len (PyProof.Rows.callWith_builtin1 (PyProof.Rows.args_cons (Call_ (ld_blt I hg2 hm2 PyProof.Rows.boot_set (PyProof.Rows.callWith_type1 (PyProof.Rows.args_cons (thn (ha.run pins s σ H _ I h) fun v s1 ⟨x, H1, I1, r1, q1⟩ => PyProof.Rows.args_nil ?_) na) na rfl))) rfl) rfl rfl))⟩
  obtain ⟨l, ns, rfl, hq, hl, q1⟩ := q1
  cases r1
  rcases hq with hq | hq
  · obtain ⟨its, r, pl, _⟩ := I1.list hq
    have hlen : its.toArray.size = ns.length := by rw [List.size_toArray, ← r.length, List.length_map]
    refine PySem.call_set_list (I1.ok.hd hc) pl.isList (by simpa using RZ.intsAre_vals r) (by rw [hlen]; unfold scanBound; omega) fun h' tk hS hk => PyProof.Rows.args_nil ?_
    rw [hlen] at hS
    obtain ⟨f1, f2⟩ := fm_facts (fun i => ns.getD i 0) ns.length
    have f3 := firstMet_length_le (fun i => ns.getD i 0) ns.length
    have f4 : (firstMet (fun i => ns.getD i 0) ns.length).length = ns.length ↔ ns.Nodup := ⟨fun e => nd_of_len f1 (fun x hx => by
      obtain ⟨j, hj, e⟩ := (f2 x).mp hx
      rw [← e]
      simp only [List.getD_eq_getElem?_getD, List.getElem?_eq_getElem hj, Option.getD_some]
      exact List.getElem_mem hj) e, fun nd => by rw [RZ.firstMet_nodup nd ns.length (Nat.le_refl _), List.take_length]⟩
    obtain ⟨o, es, ep, t, ho, hex, hd, _, _, _, hf, hn⟩ := hS
    exact call_len_set ho hex hd hf (by rw [hn] <;> omega) ⟨.int ((firstMet (fun i => ns.getD i 0) ns.length).length : Nat), H1, (I1.kept fun b o e => hk b o (Heap.lt_size e) e).tok _, ⟨_, by rw [hn]⟩, q1 _ f3 f4⟩
  · obtain ⟨its, r, pl, _⟩ := I1.tuple hq
    refine call_set_tupI ns (I1.ok.hd hc) pl (by simpa using RZ.intsAre_vals r) (by unfold scanBound; omega) fun h' tk c hS hle hk => PyProof.Rows.args_nil ?_
    obtain ⟨o, es, ep, t, ho, hex, hd, _, nd, mem, _, hf, hn, _, _⟩ := hS
    have f4 : c = ns.length ↔ ns.Nodup := by
      have e1 : (es.toList.map L2.keyOf).length = c := by rw [List.length_map, Array.length_toList]; exact hn
      refine ⟨fun e => nd_of_len nd (fun x hx => by have := (mem x).mpr hx; simpa using this) (by omega), fun hnd => ?_⟩
      have pm : (es.toList.map L2.keyOf).Perm ns := (List.perm_ext_iff_of_nodup nd hnd).mpr fun k => by rw [← mem k]; simp
      rw [← pm.length_eq]; exact e1.symm
    exact call_len_set ho hex hd hf (by rw [hn] <;> omega) ⟨.int (c : Nat), H1, (I1.kept hk).tok _, ⟨_, by rw [hn]⟩, q1 c hle f4⟩
theorem de_lenSetG {p p2 q : Pos} (hm : X.mg "len" = none) (hm2 : X.mg "set" = none) (ha : DE X F0 a ta ta') (hg : Gl X "len" := by rfl) (hg2 : Gl X "set" := by rfl) (hc : X.calm = true := by rfl)
    (na : starEach [a] X.env = (false, eval a X.env) :: starEach [] X.env := by rfl) : DE X F0 (.Call (.Name "len" p) [.Call (.Name "set" p2) [a] [] q] [] pos) (tLenSetG X.K ta) (dLenSetG ta') := ⟨pe_lenSetG hm hm2 ha.pe hg hg2 hc na, fun F γ M σ H Q' Q e0 s g q k => by
  refine ha.le F γ M σ H _ _ e0 s g q fun F1 d1 v1 M1 H1 e1 s1 r1 q1 => ?_
  obtain ⟨ns, h1, h3, q1⟩ := q1
  obtain ⟨p, xs, rfl, h4, h5⟩ := seq_rp s1 r1 h1
  have z := RpL.int ns h5
  subst z
  exact ⟨p, ns, rfl, h4, h3, fun c h6 h7 => k F1 _ _ M1 H1 e1 s1 (.int _) (q1 c h6 h7)⟩⟩
end
end DL

set_option maxRecDepth 100000
set_option maxHeartbeats 2000000
namespace DL
open PySem PySem.Spec PyProof.Rows L2

/-! ### one error's class against another -/
section
variable {K : PySem.W.Frag} {S C : Addr} {b : Bool}
end
end DL

set_option maxRecDepth 100000
set_option maxHeartbeats 2000000
namespace DL
open PySem PySem.Spec PyProof.Rows L2

/-! ### min, max of one list or tuple of ints -/
section
variable {prog : Program} {w : World} {A : Around} {E : Value → Shared → Prop} {s : Shared} {l : Addr} {its : List Value} {ns : List Int} {Q : Value → Shared → Prop}
end
section
variable {X : Cx} {K : PySem.W.Frag} {F0 : FZ}
end

/-! ### == of an instance by the text's own __eq__ -/
section
variable {X : Cx} {F0 : FZ} {a b : Expr} {ta tb : TE} {ta' tb' : DTE} {pos : Pos}
/-- the text's own __eq__ of the class at C -/
structure DEqM (P : Program) (w : World) (K : PySem.W.Frag) (mg : Str → Option Value) (base : Heap) (k : Nat) (C : Addr) (sp : DSp) : Prop where
  ex : ∃ f fd ps, FnOk P w K mg base CX0 k f fd ps (liftSp K sp) ∧ PySem.W.findIn K (.ref C) "__eq__" = some (some (.ref f)) ∧ PySem.W.isFn K (.ref f) = true ∧ Binds K fd ps []
end
end DL

set_option maxRecDepth 100000
set_option maxHeartbeats 2000000
namespace DL
open PySem PySem.Spec PyProof.Rows L2

/-! ### isinstance against a class of the text -/
/-- a class of which there are instances -/
structure ICl (K : PySem.W.Frag) (C : Addr) : Prop where
  cl : Cls K C
  ha : PySem.W.findIn K (.ref C) "__class__" = some (some (.builtin "object.__class__"))
  hn : PySem.W.specialIn K (.builtin "object.__class__") "__get__" = some (some (.builtin "getset_descriptor.__get__"))
  ht : PySem.W.takesIn K (.builtin "object.__class__") = some true
  hm : PySem.W.mroIn K C (.type "object") = some true
structure IsC (K : PySem.W.Frag) (C : Addr) : Prop where
  is : PySem.W.isClsIn K C = true
  ty : PySem.W.typeIn K (.ref C) = some (.type "type")
section
variable {X : Cx} {K : PySem.W.Frag} {F0 : FZ} {C : Addr}
end
end DL

set_option maxRecDepth 100000
set_option maxHeartbeats 2000000
namespace DL
open PySem PySem.Spec PyProof.Rows L2

/-! ### [e for a in .. for b in ..] -/
def dLc2I (g : DTG) (tt : DTT) (wi1 : DTI) (g1 : DTG) (tt1 : DTT) (te : DTE) (vs vs1 : List Nat) (γ : G) (items : List D) (M1 : Mp) (Q : DK) : Prop := ∃ I : Nat → List D → Mp → Prop, I 0 [] M1 ∧
  (∀ i d acc M, items[i]? = some d → I i acc M → g d (dwipe γ vs) M fun γ2 M2 => tt γ2 M2 fun b M3 => if b = true then wi1 γ2 M3 fun items1 M4 => ∃ J : Nat → List D → Mp → Prop, J 0 acc M4 ∧
    (∀ j d1 acc1 M5, items1[j]? = some d1 → J j acc1 M5 → g1 d1 (dwipe γ2 vs1) M5 fun γ3 M6 => tt1 γ3 M6 fun b M7 => if b = true then te γ3 M7 fun y M8 => acc1.length < sizeLine ∧ J (j + 1) (acc1 ++ [y]) M8 else J (j + 1) acc1 M7) ∧ ∀ acc1 M5, J items1.length acc1 M5 → I (i + 1) acc1 M5 else I (i + 1) acc M3) ∧
  ∀ acc M, I items.length acc M → Q (.lst acc) M
def dLc2 (wi : DTI) (g : DTG) (tt : DTT) (wi1 : DTI) (g1 : DTG) (tt1 : DTT) (te : DTE) (vs vs1 : List Nat) : DTE := fun γ M Q => wi γ M fun items M1 => dLc2I g tt wi1 g1 tt1 te vs vs1 γ items M1 Q
def LcW2 (K : PySem.W.Frag) (F1 : FZ) (L : Addr) (I : Nat → List D → Mp → Prop) (i : Nat) (H : Hp) : Prop := ∃ F2 M2 acc xs, FLe F1 F2 ∧ SR K F2 M2 H ∧ F2.f L = none ∧ M2 L = none ∧ H L = some (.lst xs) ∧ RpL K F2 acc xs ∧ acc.length ≤ sizeLine ∧ I i acc M2
section
variable {X : Cx} {K : PySem.W.Frag} {F0 : FZ}
theorem le_lc2 {wi wi1 : TI} {wi' wi1' : DTI} {g g1 : TG} {g' g1' : DTG} {tt tt1 : TT} {tt' tt1' : DTT} {te : TE} {te' : DTE} {vs vs1 : List Nat} (hi : LI K F0 wi' wi) (hg : LG K F0 g' g) (hw : GW vs g) (ht : LT K F0 tt' tt)
    (hi1 : LI K F0 wi1' wi1) (hg1 : LG K F0 g1' g1) (hw1 : GW vs1 g1) (ht1 : LT K F0 tt1' tt1) (he : LE K F0 te' te) : LE K F0 (dLc2 wi' g' tt' wi1' g1' tt1' te' vs vs1) (tLc2 wi g tt wi1 g1 tt1 te vs vs1) := by
  intro F γ M σ H Q' Q e0 s gr q k
  refine hi F γ M σ H _ _ e0 s gr q fun F1 items J M1 H1 e1 s1 j1 q1 => ?_
  obtain ⟨I, h0, step, done⟩ := q1
  intro D hD
  have hDF := s1.freeF hD
  have hDM := s1.freeM hD
  have hDP := s1.freeP hD
  -- behind a turn under cover
  have back : ∀ {F2 F3 F5 : FZ} {M5 : Mp} {H5 : Hp} {xs : List V} (o : HO), F2.p D = none → F3.p = upd F2.p D (.lst xs) → FLe F3 F5 → SR K F5 M5 H5 → SR K ⟨F5.f, F2.p, F5.d⟩ M5 (upd H5 D o) ∧ H5 D = some (.lst xs) ∧ F5.f D = none ∧ M5 D = none := fun {F2 F3 F5 M5 H5 xs} o dP ep e5 s5 =>
    s5.unhide (o := .lst xs) (by rw [e5.e, ep]) dP
  have same : ∀ {H5 : Hp} {xs : List V}, H5 D = some (.lst xs) → upd H5 D (.lst xs) = H5 := fun {H5 xs} z => by
    funext b
    by_cases hb : b = D
    · subst hb; rw [upd_same, z]
    · rw [upd_ne hb]
  refine ⟨fun i m H => m = items.length - i ∧ i ≤ items.length ∧ LcW2 K F1 D I i H, ⟨items.length, by simp, Nat.zero_le _, ?_⟩, ?_⟩
  · refine ⟨F1, M1, [], [], FLe.refl _, s1.other hD, hDF, hDM, upd_same, .nil, Nat.zero_le _, h0⟩
  · rintro i m H2 ⟨rfl, hi2, F2, M2, acc, xs, e2, s2, dF, dM, hl, rl, al, i2⟩
    have dP : F2.p D = none := by rw [e2.e]; exact hDP
    by_cases hlt : i < items.length
    · have hd : items[i]? = some items[i] := List.getElem?_eq_getElem hlt
      have sh := s2.hide dF dM hl (fun _ z => by cases z) (s2.noL hl)
      obtain ⟨go, y⟩ := (j1 i (F2.hide D (.lst xs)) M2 H2 (bj_hide e2 hDP) sh).2 _ hd
      refine .inr ⟨go, LcW2 K F1 D I (i + 1), fun H' h => ⟨items.length - (i + 1), by omega, rfl, hlt, h⟩, fun x H3 yy => ?_⟩
      obtain ⟨F3, e3, s3, r3⟩ := y x H3 yy
      have b3 : Sm F2 F3 := e3.s
      have p3 : F3.p = upd F2.p D (.lst xs) := by rw [e3.e]; rfl
      have a3 : Bs F0 F3 := ⟨((e0.tr e1).tr e2).f.trans' b3, ((e0.tr e1).tr e2).p.trans (fun b o h => by rw [p3]; exact (upd_ne (ne_of_none h dP)).trans h)⟩
      have step' := step i _ acc M2 hd i2
      have r0 : RpL K F3 acc xs := rl.monoS b3
      have main := hw x (wipe σ vs) H3 _ (hg F3 (dwipe γ vs) M2 (wipe σ vs) H3 _ x _ (fun σ2 H2 => tt σ2 H2 fun b H3 =>
        if b = true then wi1 σ2 H3 fun J1 H4 => ∃ W1 : Nat → Nat → Hp → Prop, (∃ m, W1 0 m H4) ∧ ∀ j k H, W1 j k H →
          (J1.stop j H ∧ LcW2 K F1 D I (i + 1) H) ∨ (J1.go j H ∧ ∃ Nx1 : Hp → Prop, (∀ H', Nx1 H' → ∃ k', k' < k ∧ W1 (j + 1) k' H') ∧ ∀ x H', J1.yld j H x H' → g1 x (wipe σ2 vs1) H' fun σ3 H5 => wipe σ3 vs1 = wipe σ2 vs1 ∧ tt1 σ3 H5 fun b H6 =>
            if b = true then te σ3 H6 fun y H7 => ∃ acc, H7 D = some (.lst acc) ∧ acc.length < sizeLine ∧ Nx1 (upd H7 D (.lst (acc ++ [y]))) else Nx1 H6)
        else LcW2 K F1 D I (i + 1) H3)
        a3 s3 (gr_wipe (gr.monoS ((e1.s.trans' e2.s).trans' b3)) vs) r3 step' fun F4 γ4 M4 σ4 H4 e4 s4 g4 q4 =>
        ht F4 γ4 M4 σ4 H4 _ _ (a3.tr e4) s4 g4 q4 fun F5 b M5 H5 e5 s5 q5 => by
          cases b with
          | false =>
            obtain ⟨z1, z2, z3, z4⟩ := back (.lst xs) dP p3 (e4.trans e5) s5
            rw [same z2] at z1
            exact ⟨⟨F5.f, F2.p, F5.d⟩, M5, acc, xs, ⟨(e2.s.trans' b3).trans' (e4.trans e5).s, e2.e⟩, z1, z3, z4, z2, RpL.monoS (F := F3) (F' := ⟨F5.f, F2.p, F5.d⟩) (e4.trans e5).s r0, al, q5⟩
          | true =>
            refine hi1 F5 γ4 M5 σ4 H5 _ _ ((a3.tr e4).tr e5) s5 (g4.mono e5) q5 fun F6 items1 J1 M6 H6 e6 s6 j6 q6 => ?_
            obtain ⟨J, k0, stepJ, doneJ⟩ := q6
            obtain ⟨z1, z2, z3, z4⟩ := back (.lst xs) dP p3 ((e4.trans e5).trans e6) s6
            rw [same z2] at z1
            have p6 : F6.p = upd F2.p D (.lst xs) := by rw [((e4.trans e5).trans e6).e, p3]
            refine ⟨fun j m H => m = items1.length - j ∧ j ≤ items1.length ∧ LcW2 K ⟨F6.f, F2.p, F6.d⟩ D J j H, ⟨items1.length, by simp, Nat.zero_le _, ⟨F6.f, F2.p, F6.d⟩, M6, acc, xs, FLe.refl _, z1, z3, z4, z2, RpL.monoS (F := F3) (F' := ⟨F6.f, F2.p, F6.d⟩) ((e4.trans e5).trans e6).s r0, al, k0⟩, ?_⟩
            rintro j m H7 ⟨rfl, hj2, F7, M7, acc1, xs1, e7, s7, dF7, dM7, hl7, rl7, al7, i7⟩
            have dP7 : F7.p D = none := by rw [e7.e]; exact dP
            by_cases hjt : j < items1.length
            · have hd1 : items1[j]? = some items1[j] := List.getElem?_eq_getElem hjt
              have sh7 := s7.hide dF7 dM7 hl7 (fun _ z => by cases z) (s7.noL hl7)
              obtain ⟨go1, y1⟩ := (j6 j (F7.hide D (.lst xs1)) M7 H7 (bj_rehide e7.s p6 e7.e (fun _ _ z => nomatch z)) sh7).2 _ hd1
              refine .inr ⟨go1, LcW2 K ⟨F6.f, F2.p, F6.d⟩ D J (j + 1), fun H' h => ⟨items1.length - (j + 1), by omega, rfl, hjt, h⟩, fun x1 H8 yy1 => ?_⟩
              obtain ⟨F8, e8, s8, r8⟩ := y1 x1 H8 yy1
              have b8 : Sm F7 F8 := e8.s
              have p8 : F8.p = upd F7.p D (.lst xs1) := by rw [e8.e]; rfl
              have b6 : Sm F6 F7 := e7.s
              have a8 : Bs F0 F8 := ⟨(((a3.tr e4).tr e5).tr e6).f.trans' (b6.trans' b8), ((e0.tr e1).tr e2).p.trans (fun b o h => by rw [p8, e7.e]; exact (upd_ne (ne_of_none h dP)).trans h)⟩
              have r08 : RpL K F8 acc1 xs1 := rl7.monoS b8
              have stepJ' := stepJ j _ acc1 M7 hd1 i7
              have main1 := hw1 x1 (wipe σ4 vs1) H8 _ (hg1 F8 (dwipe γ4 vs1) M7 (wipe σ4 vs1) H8 _ x1 _ (fun σ3 H5 => tt1 σ3 H5 fun b H6 =>
                  if b = true then te σ3 H6 fun y H7 => ∃ acc, H7 D = some (.lst acc) ∧ acc.length < sizeLine ∧ LcW2 K ⟨F6.f, F2.p, F6.d⟩ D J (j + 1) (upd H7 D (.lst (acc ++ [y]))) else LcW2 K ⟨F6.f, F2.p, F6.d⟩ D J (j + 1) H6)
                a8 s8 (gr_wipe (g4.monoS ((e5.s.trans' e6.s).trans' (b6.trans' b8))) vs1) r8 stepJ' fun F9 γ9 M9 σ9 H9 e9 s9 g9 q9 =>
                ht1 F9 γ9 M9 σ9 H9 _ _ (a8.tr e9) s9 g9 q9 fun F10 b M10 H10 e10 s10 q10 => by
                  cases b with
                  | false =>
                    obtain ⟨z1, z2, z3, z4⟩ := back (.lst xs1) dP7 p8 (e9.trans e10) s10
                    rw [same z2] at z1
                    exact ⟨⟨F10.f, F7.p, F10.d⟩, M10, acc1, xs1, ⟨(b6.trans' b8).trans' (e9.trans e10).s, e7.e⟩, z1, z3, z4, z2, RpL.monoS (F := F8) (F' := ⟨F10.f, F7.p, F10.d⟩) (e9.trans e10).s r08, al7, q10⟩
                  | true =>
                    refine he F10 γ9 M10 σ9 H10 _ _ ((a8.tr e9).tr e10) s10 (g9.mono e10) q10 fun F11 d v M11 H11 e11 s11 r11 q11 => ?_
                    obtain ⟨lt, q11⟩ := q11
                    obtain ⟨z1, z2, z3, z4⟩ := back (.lst (xs1 ++ [v])) dP7 p8 ((e9.trans e10).trans e11) s11
                    refine ⟨xs1, z2, by rw [← r08.length]; exact lt, ⟨F11.f, F7.p, F11.d⟩, M11, acc1 ++ [d], xs1 ++ [v], ⟨(b6.trans' b8).trans' ((e9.trans e10).trans e11).s, e7.e⟩, z1, z3, z4, upd_same, RpL.append (RpL.monoS (F := F8) (F' := ⟨F11.f, F7.p, F11.d⟩) ((e9.trans e10).trans e11).s r08) (.cons (Rp.monoS (F := F11) (F' := ⟨F11.f, F7.p, F11.d⟩) Sm.rfl' r11) .nil), ?_, q11⟩
                    rw [List.length_append, List.length_singleton]
                    exact lt)
              rw [wipe_wipe] at main1
              exact main1
            · have e : j = items1.length := by omega
              subst e
              refine .inl ⟨(j6 items1.length F7 M7 H7 (bj_rehide0 e7.s p6 e7.e (fun _ _ z => nomatch z)) s7).1 (Nat.le_refl _), F7, M7, acc1, xs1, ⟨(e2.s.trans' b3).trans' (((e4.trans e5).trans e6).s.trans' e7.s), by rw [e7.e]; exact e2.e⟩, s7, dF7, dM7, hl7, rl7, al7, doneJ acc1 M7 i7⟩)
      rw [wipe_wipe] at main
      exact main
    · have e : i = items.length := by omega
      subst e
      refine .inl ⟨((j1 items.length F2 M2 H2 e2.bj s2).1 (Nat.le_refl _)), ?_⟩
      have hz : xs.length ≤ sizeLine := by rw [← rl.length]; omega
      have e3 := same_upd (o := .lst xs) dF
      exact k (F2.put D (.lst xs)) (.lst acc) (.ref D) M2 H2 ((e1.trans e2).trans e3) (s2.adopt dF dP dM hl hz) (.lst upd_same (rl.mono e3)) (done acc M2 i2)
def DIx (X : Cx) (F0 : FZ) (tg iter : Expr) (wi' : DTI) : Prop := ∃ wi, DI X F0 tg iter wi wi'
def lfI (K : PySem.W.Frag) (F0 : FZ) (t' : DTI) : TI := fun σ H Q => ∃ F γ M Q', Bs F0 F ∧ SR K F M H ∧ GR K F γ σ ∧ t' γ M Q' ∧ ∀ F1 items J M1 H1, FLe F F1 → SR K F1 M1 H1 → JR K F1 items J → Q' items M1 → Q J H1
theorem DIx.pi {tg iter : Expr} {wi' : DTI} (h : DIx X F0 tg iter wi') : PI X tg iter (lfI X.K F0 wi') := by
  obtain ⟨wi, h⟩ := h
  refine ⟨fun pins s σ H Q I q => ?_⟩
  obtain ⟨F, γ, M, Q', e0, s1, g, q, k⟩ := q
  exact h.pi.run pins s σ H Q I (h.le F γ M σ H Q' Q e0 s1 g q k)
theorem le_lfI (t' : DTI) : LI K F0 t' (lfI K F0 t') := fun F γ M σ H Q' Q e0 s g q k => ⟨F, γ, M, Q', e0, s, g, q, k⟩
variable {e tg tg1 elt iter iter1 : Expr} {ifs ifs1 : List Expr} {scope : Scope} {own : List (Str × Nat)} {vs1 : List Nat} {pos : Pos} {wi : TI} {wi' wi1' : DTI} {g' g1' : DTG} {tt' tt1' : DTT} {te' : DTE}
theorem dx_lc2 (hc : X.calm = true) (hN : X.N.Nodup) (hi : DI X F0 tg iter wi wi') (ok : BlkOk X.N X.env.scope scope own) (hv : ∀ i ∈ vs1, i ∈ own.map (·.2)) (hg : Blk X scope fun Y => DGx Y F0 (own.map (·.2)) tg g') (ht : Blk X scope fun Y => DTx Y F0 ifs tt')
    (hi1 : Blk X scope fun Y => DIx Y F0 tg1 iter1 wi1') (hg1 : Blk X scope fun Y => DGx Y F0 vs1 tg1 g1') (ht1 : Blk X scope fun Y => DTx Y F0 ifs1 tt1') (he : Blk X scope fun Y => DEx Y F0 elt te') (hs : ∀ x, foldedSetIterable iter X.env x = pure x := by intro _; rfl) (hs1 : ∀ env x, foldedSetIterable iter1 env x = pure x := by intro _ _; rfl) :
    DE X F0 (.ListComp elt [⟨tg, iter, ifs, 0⟩, ⟨tg1, iter1, ifs1, 0⟩] scope pos) (tLc2 wi (lfG X.K F0 (own.map (·.2)) g') (lfT X.K F0 tt') (lfI X.K F0 wi1') (lfG X.K F0 vs1 g1') (lfT X.K F0 tt1') (lfE X.K F0 te') (own.map (·.2)) vs1) (dLc2 wi' g' tt' wi1' g1' tt1' te' (own.map (·.2)) vs1) :=
  ⟨pe_lc2 hc hN hi.pi ok hv (fun s H C cl fp => (hg s H C cl fp).pg) (fun s H C cl fp => (ht s H C cl fp).pt) (fun s H C cl fp => (hi1 s H C cl fp).pi) (fun s H C cl fp => (hg1 s H C cl fp).pg) (fun s H C cl fp => (ht1 s H C cl fp).pt) (fun s H C cl fp => (he s H C cl fp).pe) hs hs1,
    le_lc2 hi.le lg_lfG gw_lfG (le_lfT _) (le_lfI _) lg_lfG gw_lfG (le_lfT _) (le_lfE _)⟩
end
end DL

set_option maxRecDepth 100000
set_option maxHeartbeats 2000000
namespace DL
open PySem PySem.Spec PyProof.Rows L2

/-! ### dicts are frozen -/
section
variable {K : PySem.W.Frag} {F : FZ} {M : Mp} {H : Hp}
def FZ.putD (F : FZ) (a : Addr) (o : HO) : FZ := ⟨F.f, F.p, upd F.d a o⟩
theorem putD_le {p : Addr} {o : HO} (h : F.d p = none) : FLe F (F.putD p o) := ⟨⟨Same.refl _, fun b u e => by show upd F.d p o b = _; rw [upd_ne (ne_of_none e h)]; exact e⟩, rfl⟩
theorem SR.frzD (s : SR K F M H) {p : Addr} {o : MO} {u : HO} (h : M p = some o) (hu : H p = some u) (dc : DcO u) : SR K (F.putD p u) (mdel M p) H := by
  have hF := s.dj p _ h
  have hP := s.notP h
  have hD := s.notD h
  have le := putD_le (F := F) (o := u) hD
  refine ⟨s.fz, s.ok, fun b x q => ?_, s.pz, fun b x q => ?_, fun b x q => ?_, fun b x q => ?_, fun b x q => ?_⟩
  · by_cases w : b = p
    · subst w; rw [mdel_same] at q; cases q
    · rw [mdel_ne w] at q; exact s.dj _ _ q
  · have q' : F.p b = some x := q
    have w : b ≠ p := ne_of_none q' hP
    obtain ⟨a1, a2, a3, a4⟩ := s.pf b x q'
    exact ⟨a1, by rw [mdel_ne w]; exact a2, a3, fun v hv => a4 v (by
      have hv' : upd F.d p u b = some v := hv
      rw [upd_ne w] at hv'; exact hv')⟩
  · by_cases w : b = p
    · subst w; rw [mdel_same] at q; cases q
    · rw [mdel_ne w] at q
      obtain ⟨v, a1, a2⟩ := s.mu b x q
      exact ⟨v, a1, a2.mono le⟩
  · have q' : upd F.d p u b = some x := q
    by_cases w : b = p
    · subst w; rw [upd_same] at q'; cases q'; exact .inl hu
    · rw [upd_ne w] at q'; exact s.dz _ _ q'
  · have q' : upd F.d p u b = some x := q
    by_cases w : b = p
    · subst w; rw [upd_same] at q'; cases q'; exact ⟨hF, mdel_same, dc⟩
    · rw [upd_ne w] at q'
      obtain ⟨a1, a2, a3⟩ := s.df b x q'
      exact ⟨a1, by rw [mdel_ne w]; exact a2, a3⟩
theorem kvr_parts {κ : Type} : ∀ {l : List (κ × D)} {m : List (κ × V)}, KVR K F l m → l.map (·.1) = m.map (·.1) ∧ RpL K F (l.map (·.2)) (m.map (·.2))
  | _, _, .nil => ⟨rfl, .nil⟩
  | (k, d) :: l, (k2, v) :: m, .cons r t => by
    obtain ⟨e, r⟩ := r
    simp only at e r
    subst e
    obtain ⟨h1, h2⟩ := kvr_parts t
    exact ⟨by rw [List.map_cons, List.map_cons, h1], .cons r h2⟩
theorem SR.freezeK (s : SR K F M H) {p : Addr} {kvs : List (Key × D)} (h : M p = some (.dK kvs)) : ∃ F1, FLe F F1 ∧ SR K F1 (mdel M p) H ∧ Rp K F1 (.dk (kvs.map (·.1)) (kvs.map (·.2))) (.ref p) := by
  obtain ⟨u, h1, h2⟩ := s.mu p _ h
  cases h2 with
  | dK r z =>
    rename_i ps
    have le := putD_le (F := F) (o := .dK ps) (s.notD h)
    obtain ⟨e1, e2⟩ := kvr_parts r
    refine ⟨_, le, s.frzD h h1 z, ?_⟩
    rw [e1]
    exact .dk upd_same (e2.mono le)
theorem SR.freezeT (s : SR K F M H) {p : Addr} {kvs : List (List Key × D)} (h : M p = some (.dT kvs)) : ∃ F1, FLe F F1 ∧ SR K F1 (mdel M p) H ∧ Rp K F1 (.dt (kvs.map (·.1)) (kvs.map (·.2))) (.ref p) := by
  obtain ⟨u, h1, h2⟩ := s.mu p _ h
  cases h2 with
  | dT r z zz =>
    rename_i ps
    have le := putD_le (F := F) (o := .dT ps) (s.notD h)
    obtain ⟨e1, e2⟩ := kvr_parts r
    refine ⟨_, le, s.frzD h h1 ⟨z, zz⟩, ?_⟩
    rw [e1]
    exact .dt upd_same (e2.mono le)
end
/-- ghost: what a name holds is frozen: a list, a dict -/
def frzV (M : Mp) : D → Option (D × Mp)
  | .ref p => (match M p with
    | some (.lst l) => some (.lst l, mdel M p)
    | some (.dK kvs) => some (.dk (kvs.map (·.1)) (kvs.map (·.2)), mdel M p)
    | some (.dT kvs) => some (.dt (kvs.map (·.1)) (kvs.map (·.2)), mdel M p)
    | _ => none)
  | _ => none
theorem frzV_rp {K : PySem.W.Frag} {F : FZ} {M M' : Mp} {H : Hp} {d d' : D} {v : V} (s : SR K F M H) (r : Rp K F d v) (h : frzV M d = some (d', M')) : ∃ F1, FLe F F1 ∧ SR K F1 M' H ∧ Rp K F1 d' v := by
  cases r with
  | ref p =>
    simp only [frzV] at h
    split at h
    · rename_i hm
      cases h
      obtain ⟨xs, s1, e1, r1⟩ := s.freeze hm
      exact ⟨_, e1, s1, r1⟩
    · rename_i hm
      cases h
      exact s.freezeK hm
    · rename_i hm
      cases h
      exact s.freezeT hm
    · cases h
  | _ => simp [frzV] at h
section
variable {X : Cx} {K : PySem.W.Frag} {F0 : FZ} {t : TS} {t' : DTS} {e : Expr} {te : TE} {te' : DTE}
def dFrzE (te : DTE) : DTE := fun γ M Q => te γ M fun d M1 => ∃ d' M', frzV M1 d = some (d', M') ∧ Q d' M'
theorem de_frzA (h : DE X F0 e te te') : DE X F0 e te (dFrzE te') := ⟨h.pe, fun F γ M σ H Q' Q e0 s g q k => by
  refine h.le F γ M σ H _ _ e0 s g q fun F1 d v M1 H1 e1 s1 r1 q1 => ?_
  obtain ⟨d', M', hf, q1⟩ := q1
  obtain ⟨F2, e2, s2, r2⟩ := frzV_rp s1 r1 hf
  exact k _ _ _ _ H1 (e1.trans e2) s2 r2 q1⟩
end

/-! ### locks -/
section
variable {K : PySem.W.Frag} {F : FZ} {M : Mp} {H : Hp}
theorem SR.over (s : SR K F M H) {a : Addr} {o : HO} (hf : F.f a = none) (hp : F.p a = none) (hm : M a = none) (hd : ∀ u, F.d a = some u → Rd (upd H a o) a u) : SR K F M (upd H a o) := by
  refine ⟨fun b x e => by rw [upd_ne (ne_of_none e hf)]; exact s.fz _ _ e, s.ok, s.dj, fun b x e => by rw [upd_ne (ne_of_none e hp)]; exact s.pz _ _ e, s.pf, fun b x e => ?_, fun b x e => ?_, s.df⟩
  · obtain ⟨v, h1, h2⟩ := s.mu b x e
    exact ⟨v, by rw [upd_ne (mne_of_none e hm)]; exact h1, h2⟩
  · by_cases w : b = a
    · subst w; exact hd x e
    · exact rd_upd (s.dz b x e) w
end
section
variable {K : PySem.W.Frag} {F0 : FZ}
end
end DL

set_option maxRecDepth 100000
set_option maxHeartbeats 2000000
namespace DL
open PySem PySem.Spec PyProof.Rows L2

/-! ### walks over a frozen dict -/
/-- a walk that wants the dict locked -/
def LIL (K : PySem.W.Frag) (F0 : FZ) (wi' : DTI) (wi : TI) : Prop := ∀ (F : FZ) (γ : G) (M : Mp) (σ : L2.St) (H : Hp) (R' : List D → Mp → Prop), Bs F0 F → SR K F M H → GR K F γ σ → wi' γ M R' →
  ∃ (d : Addr) (u : HO) (items : List D), F.d d = some u ∧ R' items M ∧ ∀ (od : Obj) (F1 : FZ) (H1 : Hp) (R : It → Hp → Prop), F1.p d = some (.frz od u) → H1 d = some (.frz od u) → Sm F F1 → (∀ J, (∀ F2, Bs F1 F2 → JR K F2 items J) → R J H1) → wi σ H1 R
section
variable {K : PySem.W.Frag} {F0 : FZ} {X : Cx}
theorem Bs.trans {F F1 F2 : FZ} (a : Bs F F1) (b : Bs F1 F2) : Bs F F2 := ⟨a.f.trans' b.f, a.p.trans b.p⟩
theorem LG.base {F1 : FZ} {g' : DTG} {g : TG} (h : LG K F0 g' g) (b : Bs F0 F1) : LG K F1 g' g := fun F γ M σ H d v Q' Q e0 => h F γ M σ H d v Q' Q (b.trans e0)
theorem LT.base {F1 : FZ} {t' : DTT} {t : TT} (h : LT K F0 t' t) (b : Bs F0 F1) : LT K F1 t' t := fun F γ M σ H Q' Q e0 => h F γ M σ H Q' Q (b.trans e0)
theorem LE.base {F1 : FZ} {t' : DTE} {t : TE} (h : LE K F0 t' t) (b : Bs F0 F1) : LE K F1 t' t := fun F γ M σ H Q' Q e0 => h F γ M σ H Q' Q (b.trans e0)
theorem LS.base {F1 : FZ} {t' : DTS} {t : TS} (h : LS K F0 t' t) (b : Bs F0 F1) : LS K F1 t' t := fun F γ M σ H D' D e0 => h F γ M σ H D' D (b.trans e0)
/-- known items -/
theorem li_const {items : List D} {J : It} (h : ∀ F, Bs F0 F → JR K F items J) : LI K F0 (fun _ M R => R items M) (fun _ H R => R J H) := fun F γ M σ H R' R e0 s g q k => k F items J M H (FLe.refl F) s (h F e0) q
end
/-- a walked dict: how the kit walks it -/
structure DIL (X : Cx) (F0 : FZ) (tg iter : Expr) (wi : TI) (wi' : DTI) : Prop where
  pi : PI X tg iter wi
  le : LIL X.K F0 wi' wi
section
variable {X : Cx} {F0 : FZ} {tg e : Expr} {i : Nat} {pos apos cpos : Pos}
variable {iter elt : Expr} {body : List Stmt} {ifs : List Expr} {scope : Scope} {own : List (Str × Nat)} {spos py : Pos} {wi : TI} {wi' : DTI} {g : TG} {g' : DTG} {tb : TS} {tb' : DTS} {tt' : DTT} {te' : DTE}
end
end DL

set_option maxRecDepth 100000
set_option maxHeartbeats 2000000
namespace DL
open PySem PySem.Spec PyProof.Rows L2

/-! ### walks over a changeable list: it is out of reach meanwhile -/
section
variable {K : PySem.W.Frag} {F0 : FZ} {X : Cx}
theorem mdel_le {M : Mp} {p : Addr} : MLe (mdel M p) M := fun a o h => by
  by_cases e : a = p
  · rw [e, mdel_same] at h; cases h
  · rw [mdel_ne e] at h; exact h
theorem SR.lockL {F : FZ} {M : Mp} {H : Hp} (s : SR K F M H) {p : Addr} {l : List D} {xs : List V} (h : M p = some (.lst l)) (hx : H p = some (.lst xs)) (od : Obj) : SR K (F.hide p (.frz od (.lst xs))) (mdel M p) (upd H p (.frz od (.lst xs))) ∧ Same F.p (F.hide p (.frz od (.lst xs))).p := by
  have hp := s.notP h
  have hd := s.notD h
  have hf := s.dj p _ h
  have s2 := (s.less mdel_le).over (a := p) (o := .frz od (.lst xs)) hf hp mdel_same fun u e => by rw [hd] at e; cases e
  exact ⟨s2.hide hf mdel_same upd_same (fun _ z => nomatch z) (fun u e => by rw [hd] at e; cases e), fun b o e => by show upd F.p p _ b = some o; rw [upd_ne (ne_of_none e hp)]; exact e⟩
theorem SR.unlockL {F F2 : FZ} {M1 : Mp} {H2 : Hp} {p : Addr} {l : List D} {xs : List V} {od : Obj} (s : SR K F2 M1 H2) (e : F2.p = upd F.p p (.frz od (.lst xs))) (hp : F.p p = none) (r : RpL K F2 l xs) (hz : xs.length ≤ sizeLine) : SR K ⟨F2.f, F.p, F2.d⟩ (mset M1 p (.lst l)) (upd H2 p (.lst xs)) ∧ H2 p = some (.frz od (.lst xs)) ∧ M1 p = none := by
  obtain ⟨z1, z2, z3, z4⟩ := s.unhide (u := .lst xs) e hp (fun _ _ z => by cases z; rfl)
  exact ⟨z1.own z3 hp (z1.noL0 upd_same) upd_same (.lst (RpL.monoS (F := F2) (F' := ⟨F2.f, F.p, F2.d⟩) Sm.rfl' r) hz), z2, z4⟩
theorem jr_hid {F : FZ} {p : Addr} {l : List D} {xs : List V} {od : Obj} (h : F.p p = some (.frz od (.lst xs))) (r : RpL K F l xs) : JR K F l (Itl K p) := by
  have hl := r.length
  refine jr_of (G := fun H => SqL K H p xs) (Y := YAt xs) (by rw [hl]; exact walk_list) (fun F1 M1 H1 e s => .inl (.inr ⟨od, s.pz _ _ (e.p _ _ _ h)⟩)) (fun i H hi q => ⟨xs, q, by omega⟩) fun i d F1 M1 H1 x H2 e s hd y => ?_
  obtain ⟨e2, hx⟩ := y
  subst e2
  obtain ⟨v, h1, h2⟩ := r.get hd
  rw [hx] at h1; cases h1
  exact ⟨F1, FLe.refl _, s, Rp.monoS e.f h2⟩
def dLcH (i : Nat) (g : DTG) (tt : DTT) (te : DTE) (vs : List Nat) : DTE := fun γ M Q => ∃ p l, γ[i]? = some (some (.ref p)) ∧ M p = some (.lst l) ∧ dLcI g tt te vs γ l (mdel M p) fun r M' => M' p = none → Q r (mset M' p (.lst l))
theorem le_lcH (i : Nat) {g : TG} {g' : DTG} {tt : TT} {tt' : DTT} {te : TE} {te' : DTE} {vs : List Nat} (hg : LG K F0 g' g) (hw : GW vs g) (ht : LT K F0 tt' tt) (he : LE K F0 te' te) : LE K F0 (dLcH i g' tt' te' vs) (tLockE (tLc (iSeq K (tVar i)) g tt te vs)) := by
  intro F γ M σ H Q' Q e0 s gr q k
  obtain ⟨p, l, hi, hm, q⟩ := q
  obtain ⟨v, hv, rv⟩ := gr.at' i _ hi
  cases rv
  obtain ⟨u, h1, h2⟩ := s.mu p _ hm
  cases h2 with
  | lst rl hz =>
    rename_i xs
    have hp := s.notP hm
    refine ⟨p, .lst xs, h1, trivial, fun od => ?_⟩
    obtain ⟨s1, sp⟩ := s.lockL hm h1 od
    have b1 : Bs F0 (F.hide p (.frz od (.lst xs))) := ⟨e0.f, e0.p.trans sp⟩
    have rl1 : RpL K (F.hide p (.frz od (.lst xs))) l xs := RpL.monoS (F := F) (F' := F.hide p (.frz od (.lst xs))) (Sm.rfl' (F := F)) rl
    refine ⟨.ref p, hv, .inl ⟨p, rfl, ⟨xs, .inl (.inr ⟨od, upd_same⟩)⟩, ?_⟩⟩
    have hl : l.length ≤ sizeLine := by rw [rl.length]; exact hz
    refine le_lc (F0 := F.hide p (.frz od (.lst xs))) (wi' := fun _ M R => R l M) (wi := fun _ H R => R (Itl K p) H) (li_const fun F2 b2 => jr_hid (b2.p _ _ upd_same) (rl1.monoS b2.f)) (hg.base b1) hw (ht.base b1) (he.base b1) (F.hide p (.frz od (.lst xs))) γ (mdel M p) σ _ (fun r M' => M' p = none → Q' r (mset M' p (.lst l))) (fun v H' => H' p = some (.frz od (.lst xs)) ∧ Q v (upd H' p (.lst xs))) (Bs.refl _) s1 (GR.monoS (F := F) (F' := F.hide p (.frz od (.lst xs))) (Sm.rfl' (F := F)) gr) ⟨hl, q⟩ fun F2 dd v M1 H2 e2 s2 r2 q2 => ?_
    obtain ⟨z1, z2, z3⟩ := s2.unlockL (F := F) (by rw [e2.e]; rfl) hp (rl1.mono e2) hz
    exact ⟨z2, k ⟨F2.f, F.p, F2.d⟩ dd v _ _ ⟨e2.s, rfl⟩ z1 (Rp.monoS (F := F2) (F' := ⟨F2.f, F.p, F2.d⟩) Sm.rfl' r2) (q2 z3)⟩
end
section
variable {X : Cx} {F0 : FZ} {tg iter elt : Expr} {body : List Stmt} {ifs : List Expr} {scope : Scope} {own : List (Str × Nat)} {pos : Pos} {g : TG} {g' : DTG} {tb : TS} {tb' : DTS} {tt' : DTT} {te' : DTE} {i : Nat}
theorem dx_lcH (hc : X.calm = true) (hN : X.N.Nodup) (hi : DE X F0 iter (tVar i) (dVar i)) (ok : BlkOk X.N X.env.scope scope own) (hg : Blk X scope fun Y => DGx Y F0 (own.map (·.2)) tg g') (ht : Blk X scope fun Y => DTx Y F0 ifs tt') (he : Blk X scope fun Y => DEx Y F0 elt te') (hs : ∀ x, foldedSetIterable iter X.env x = pure x := by intro _; rfl) :
    DE X F0 (.ListComp elt [⟨tg, iter, ifs, 0⟩] scope pos) (tLockE (tLc (iSeq X.K (tVar i)) (lfG X.K F0 (own.map (·.2)) g') (lfT X.K F0 tt') (lfE X.K F0 te') (own.map (·.2)))) (dLcH i g' tt' te' (own.map (·.2))) :=
  ⟨pe_lock (pe_lc hc hN (pi_seq hi.pe) ok (fun s H C cl fp => (hg s H C cl fp).pg) (fun s H C cl fp => (ht s H C cl fp).pt) (fun s H C cl fp => (he s H C cl fp).pe) hs), le_lcH i lg_lfG gw_lfG (le_lfT _) (le_lfE _)⟩
end
end DL

set_option maxRecDepth 100000
set_option maxHeartbeats 2000000
namespace DL
open PySem PySem.Spec PyProof.Rows L2

/-! ### == of lists that may change -/
section
variable {X : Cx} {K : PySem.W.Frag} {F0 : FZ} {a b : Expr} {ta tb : TE} {ta' tb' : DTE} {pos : Pos}
end
end DL

set_option maxRecDepth 100000
set_option maxHeartbeats 2000000
namespace DL
open PySem PySem.Spec PyProof.Rows L2

/-! ### != of instances whose class has an own __eq__ and no own __ne__ -/
/-- the class at C leaves != to object -/
structure NeOf (K : PySem.W.Frag) (C : Addr) : Prop where
  ne : PySem.W.findIn K (.ref C) "__ne__" = some (some (.builtin "object.__ne__"))
  hm : PySem.W.mroIn K C (.type "object") = some true
section
variable {prog : Program} {w : World} {A : Around} {E : Value → Shared → Prop} {s : Shared} {K : PySem.W.Frag} {x C f : Addr} {ox : Obj} {od : Option Obj} {b : Value}
end
section
variable {X : Cx} {F0 : FZ} {a b : Expr} {ta tb : TE} {ta' tb' : DTE} {pos : Pos}
end
end DL

set_option maxRecDepth 100000
set_option maxHeartbeats 2000000
namespace DL
open PySem PySem.Spec PyProof.Rows L2

/-! ### the place of an int in a list of ints -/
section
variable {X : Cx} {K : PySem.W.Frag} {F0 : FZ} {o e : Expr} {to : TE} {to' : DTE} {apos cpos : Pos}
end
end DL

set_option maxRecDepth 100000
set_option maxHeartbeats 2000000
namespace DL
open PySem PySem.Spec PyProof.Rows L2

/-! ### tuples of the written part, by a global name -/
section
variable {X : Cx} {K : PySem.W.Frag} {F0 : FZ}
/-- the tuple behind a global name -/
structure GT (K : PySem.W.Frag) (mg : Str → Option Value) (x : Str) (ds : List D) : Prop where
  ex : ∃ (a : Addr) (xs : List V), mg x = some (.ref a) ∧ KTup K a xs ∧ ∀ F : FZ, RpL K F ds xs
end

/-! ### sorted, of a dict of few ints -/
section
variable {X : Cx} {K : PySem.W.Frag} {F0 : FZ} {e : Expr} {pos : Pos}
end
end DL

set_option maxRecDepth 100000
set_option maxHeartbeats 2000000
namespace DL
open PySem PySem.Spec PyProof.Rows L2

/-! ### data in order: sorted, <, <=, >, >= -/
abbrev leD (a b : D) : Bool := !PySem.W.dataLt b.py a.py
section
variable {X : Cx}
end
section
variable {X : Cx} {K : PySem.W.Frag} {F0 : FZ} {a b e : Expr} {ta tb : TE} {ta' tb' : DTE} {pos : Pos}
end
/-! ### rows of ints -/
end DL

set_option maxRecDepth 100000
set_option maxHeartbeats 4000000
namespace DL
open PySem PySem.Spec PyProof.Rows L2

/-! ### set(xs) of a list of ints, as SetR; sorted(set(..)) -/
section
variable {P : Program} {w : World} {A : Around} {E : Value → Shared → Prop} {s : Shared}
abbrev eS (w : World) : Obj := { cls := .type "set", dict := none, data := .set #[] 0 (.fresh 0 0 (!w.params.followText "set-order")) }
end
section
variable {X : Cx} {K : PySem.W.Frag} {F0 : FZ} {a : Expr} {ta : TE} {ta' : DTE} {pos : Pos}
end
/-! ### sorted(d), a new list to be changed -/
section
variable {X : Cx} {K : PySem.W.Frag} {F0 : FZ} {e : Expr} {pos : Pos}
end
end DL

set_option maxRecDepth 100000
set_option maxHeartbeats 2000000
namespace DL
open PySem PySem.Spec PyProof.Rows L2

/-! ### ==, != of an instance with an own __eq__ and a thing of another kind -/
section
open PySem.SeqAt PySem.MeetsSeq PySem.AutoSeq1
abbrev NotI (s : Shared) (p : Addr) (T : String) : Prop := ∀ M : Model, PySem.W.Looks M s.heap (isInstance (.ref p) (.type T)) false
end
section
variable {prog : Program} {w : World} {A : Around} {E : Value → Shared → Prop} {s : Shared} {K : PySem.W.Frag} {x C f : Addr} {ox : Obj} {od : Option Obj} {a : Value} {Ta id : String}
end
/-- the class at C is none of the built-in ones -/
structure NoB (K : PySem.W.Frag) (C : Addr) : Prop where
  n : PySem.W.subIn K (.ref C) (.type "NoneType") = some false
  b : PySem.W.subIn K (.ref C) (.type "bool") = some false
  i : PySem.W.subIn K (.ref C) (.type "int") = some false
  s : PySem.W.subIn K (.ref C) (.type "str") = some false
  t : PySem.W.subIn K (.ref C) (.type "tuple") = some false
  l : PySem.W.subIn K (.ref C) (.type "list") = some false
  d : PySem.W.subIn K (.ref C) (.type "dict") = some false
/-- a thing of a built-in kind -/
inductive Oth (K : PySem.W.Frag) (H : Hp) : V → String → Prop
  | non : Oth K H .non "NoneType"
  | bl (b : Bool) : Oth K H (.bl b) "bool"
  | int (i : Int) : Oth K H (.int i) "int"
  | str (z : Str) : Oth K H (.str z) "str"
  | tup {a : Addr} {xs : List V} (h : SqT K H a xs) : Oth K H (.ref a) "tuple"
  | lst {a : Addr} {xs : List V} (h : SqL K H a xs) : Oth K H (.ref a) "list"
  | dct {a : Addr} {kvs : List (Key × V)} (h : H a = some (.dK kvs)) : Oth K H (.ref a) "dict"
section
variable {X : Cx} {pins : List (Addr × Obj)} {σ : L2.St} {H : Hp} {s : Shared} {y : V} {u : Value} {T : String}
end
section
variable {prog : Program} {w : World} {A : Around} {E : Value → Shared → Prop} {s : Shared} {K : PySem.W.Frag} {x C f : Addr} {ox : Obj} {od : Option Obj} {b tb : Value}
end
section
variable {X : Cx} {F0 : FZ} {a b : Expr} {ta tb : TE} {ta' tb' : DTE} {pos : Pos}
/-- the other one, as data -/
def othD (M : Mp) : D → Bool
  | .non => true
  | .bl _ => true
  | .int _ => true
  | .str _ => true
  | .tup _ => true
  | .kt _ => true
  | .lst _ => true
  | .ref p => (match M p with
    | some (.lst _) => true
    | some (.dK _) => true
    | _ => false)
  | _ => false
def dOthA (K : PySem.W.Frag) (C : Addr) (M : Mp) (y : D) : Prop := othD M y = true ∨ ∃ q C2 gs, y = .ref q ∧ M q = some (.ins C2 gs) ∧ PySem.W.notFirst K C (.ref C2) = true
def dEqAny (K : PySem.W.Frag) (C : Addr) (sp : DSp) : DR2 := fun x y M Q => ∃ p fs, x = .ref p ∧ M p = some (.ins C fs) ∧ dOthA K C M y ∧ sp [.ref p, y] M (fun d M1 => ∃ b, d = .bl b ∧ Q (.bl b) M1) DXK.no
def dNeAny (K : PySem.W.Frag) (C : Addr) (sp : DSp) : DR2 := fun x y M Q => ∃ p fs, x = .ref p ∧ M p = some (.ins C fs) ∧ dOthA K C M y ∧ sp [.ref p, y] M (fun d M1 => ∃ b, d = .bl b ∧ Q (.bl (!b)) M1) DXK.no
def dEqRef (C : Addr) (sp : DSp) : DR2 := fun x y M Q => ∃ q gs, y = .ref q ∧ M q = some (.ins C gs) ∧ othD M x = true ∧ sp [.ref q, x] M (fun d M1 => ∃ b, d = .bl b ∧ Q (.bl b) M1) DXK.no
/-- either of two rules -/
def dOr2 (r r' : DR2) : DR2 := fun x y M Q => r x y M Q ∨ r' x y M Q
end
end DL

set_option maxRecDepth 100000
set_option maxHeartbeats 2000000
namespace DL
open PySem PySem.Spec PyProof.Rows L2

/-! ### the things of two own classes, held against anything -/
structure Apart (K : PySem.W.Frag) (C D : Addr) : Prop where
  nc : NoB K C
  nd : NoB K D
  cc : PySem.W.subIn K (.ref C) (.ref C) = some true
  dd : PySem.W.subIn K (.ref D) (.ref D) = some true
  cd : PySem.W.subIn K (.ref C) (.ref D) = some false
  dc : PySem.W.subIn K (.ref D) (.ref C) = some false
section
variable {X : Cx} {F0 : FZ} {a b : Expr} {ta tb : TE} {ta' tb' : DTE} {pos : Pos} {k1 k2 j : Nat} {C D : Addr} {sp1 sp2 : DSp}
abbrev dEqA2 (K : PySem.W.Frag) (C : Addr) (sp1 : DSp) (D : Addr) (sp2 : DSp) : DR2 := dOr2 (dEqAny K C sp1) (dEqAny K D sp2)
abbrev dNeA2 (K : PySem.W.Frag) (C : Addr) (sp1 : DSp) (D : Addr) (sp2 : DSp) : DR2 := dOr2 (dNeAny K C sp1) (dNeAny K D sp2)
abbrev dEqR2 (C : Addr) (sp1 : DSp) (D : Addr) (sp2 : DSp) : DR2 := dOr2 (dEqRef C sp1) (dEqRef D sp2)
end
end DL

set_option maxRecDepth 100000
set_option maxHeartbeats 2000000
namespace DL
open PySem PySem.Spec PyProof.Rows L2

/-! ### an error's __init__: super().__init__("..") and one field -/
/-- what an error's class and its __init__ must be -/
structure EiC (P : Program) (K : PySem.W.Frag) (mg : Str → Option Value) (f C cda cc : Addr) (qual : Str) (fd : FuncData) (fld pn : Str) : Prop where
  ex : ∃ (z : Str) (params : Arguments) (body : List Stmt) (scope : Scope) (dV kV doc pm ct oc ccl cl : Value) (an od cdd cld : Option Addr) (osl ccs csl : Array (Option Value)) (vs : Array Value) (file : Str) (tf : Tok) (ar : Arg) (nk : Nat) (p0 p1 p2 p3 p4 p5 p6 p7 p8 p9 : Pos),
    fd = PySem.W.ksFn "__init__" qual params body scope dV kV doc pm an (.ref cda) ct cc ∧ K.lookup f = some ⟨oc, od, .func fd, osl⟩ ∧ K.lookup cda = some ⟨ccl, cdd, .fields vs, ccs⟩ ∧ vs[2]? = some (.str file tf) ∧ ((P.main.file : Str) == file) = true ∧
    K.lookup cc = some ⟨cl, cld, .cell (some (.ref C)), csl⟩ ∧
    body = [.Expr (.Call (.Attribute (.Call (.Name "super" p0) [] [] p1) "__init__" p2) [.Constant (.str z) nk p3] [] p4) p5, .Assign [.Attribute (.Name "self" p6) fld p7] (.Name pn p8) p9] ∧ z.length ≤ 1000 ∧
    (params.posonlyargs ++ params.args).head? = some ar ∧ ar.arg = ("self" : Str) ∧ scope.kind = .function ∧ scope.isCoroutine = false ∧ scope.isGenerator = false ∧ (∀ x ∈ scope.names, x.2 ≠ .cell) ∧ (∀ x ∈ scope.names, x.2 = .free → x.1 = ("__class__" : Str)) ∧
    scope.names.lookup ("self" : Str) = some .local ∧ scope.names.lookup pn = some .local ∧ scope.names.lookup ("super" : Str) = some .globalImplicit ∧ scope.names.lookup ("__class__" : Str) = some .free ∧
    (∀ L, ∃ pl : Sem Bool, eval (.Call (.Attribute (.Call (.Name "super" p0) [] [] p1) "__init__" p2) [.Constant (.str z) nk p3] [] p4) (PySem.W.ksEnv qual scope L f (.ref cda) cc) = (do
      let ov ← attributeBase (.Call (.Name "super" p0) [] [] p1) "__init__" (PySem.W.ksEnv qual scope L f (.ref cda) cc) (eval (.Call (.Name "super" p0) [] [] p1) (PySem.W.ksEnv qual scope L f (.ref cda) cc))
      standAt p2.atName
      let (fx, first) ← holding [ov] (getMethod ov "__init__" pl)
      callWith p4 fx first (backTo p4 (starEach [.Constant (.str z) nk p3] (PySem.W.ksEnv qual scope L f (.ref cda) cc))) [])) ∧
    (∀ L, interactive (PySem.W.ksEnv qual scope L f (.ref cda) cc) = false) ∧
    (∀ L, swapsWith (.Call (.Attribute (.Call (.Name "super" p0) [] [] p1) "__init__" p2) [.Constant (.str z) nk p3] [] p4) none p5.line (PySem.W.ksEnv qual scope L f (.ref cda) cc) = pure false) ∧
    (∀ L, swapsWith (.Name pn p8) (some (.Attribute (.Name "self" p6) fld p7)) p9.line (PySem.W.ksEnv qual scope L f (.ref cda) cc) = pure false) ∧ (pn == ("__debug__" : Str)) = false ∧ (pn == ("__classdict__" : Str)) = false
  cd : PySem.W.codeIn K (.ref cda) qual = true
  sup : PySem.W.ks_superIn K C C "__init__" = some (some (.builtin "ValueError.__init__"))
  ve : PySem.W.subIn K (.ref C) (.type "ValueError") = some true
  mro : PySem.W.mroIn K C (.ref C) = some true
  any : PySem.W.nsIn K cStatics "thirdparty.any" = some none
  mgs : mg "super" = none
  top : (P.main.scope.names.lookup ("super" : Str)).isSome = false
  T : OexC K C
  no : PySem.W.findIn K (.ref C) fld = some none
  ne : pn ≠ ("self" : Str)
section
open PySem.W
variable {prog : Program} {w : World} {A : Around} {E : Value → Shared → Prop} {h : Heap} {g : Array GenState} {d : Drawn} {t : Nat} {os : OsState}
variable {nm q : Str} {C N : Addr} {bs bm : List Value} {hdct : Bool} {sn : List Str} {sub : List Value} {ab : Bool} {col : Option Bool} {dd : Option Addr} {k0 k1 k2 k3 k5 : Option Value}
end
section
variable {P : Program} {w : World} {K : PySem.W.Frag} {mg : Str → Option Value} {base : Heap} {CX : CXT} {f C cda cc : Addr} {qual fld pn : Str} {fd : FuncData} {k : Nat}
end
end DL

set_option maxRecDepth 100000
set_option maxHeartbeats 2000000
namespace DL
open PySem PySem.Spec PyProof.Rows L2

/-! ### raise C(e), C with an __init__ of its own and one field -/
structure EiCls (P : Program) (K : PySem.W.Frag) (mg : Str → Option Value) (x : Str) (C : Addr) (fld : Str) : Prop where
  ex : ∃ f cda cc qual fd pn, EiC P K mg f C cda cc qual fd fld pn ∧ PySem.W.findIn K (.ref C) "__init__" = some (some (.ref f)) ∧ PySem.W.typeIn K (.ref f) = some (.type "function") ∧ Binds K fd ["self", pn] []
  gC : mg x = some (.ref C)
section
variable {X : Cx} {F0 : FZ} {C : Addr} {x fld : Str} {p pos pos2 : Pos} {e : Expr} {te : TE} {te' : DTE} {j : Nat} {E : DXG}
end
/-! ### C(..), the __init__ raising: within a try, or in a def that raises -/
section
variable {X : Cx} {CX : CXT} {k j : Nat} {f C : Addr} {fd : FuncData} {ps : List Str} {sp : Sp} {E : XK} {x : Str} {p pos : Pos} {e : Expr} {es : List Expr} {t : TA} {F0 : FZ}
end

/-! ### several except clauses, named or not -/
abbrev HSpec := Value × Option Nat × (Addr → Value → Option Addr → TS)
def NmOk (X : Cx) : Option Str → Option Nat → Prop
  | none, none => True
  | some n, some i => X.N[i]? = some n ∧ X.env.kindOf n = some .local
  | _, _ => False
inductive HsOk (X : Cx) : List ExceptHandler → List HSpec → Prop
  | nil : HsOk X [] []
  | cons {x : Str} {c : Value} {ts : Addr → Value → Option Addr → TS} {b₀ : Stmt} {suite : List Stmt} {np pos' : Pos} {hds : List ExceptHandler} {l : List HSpec} {nm : Option Str} {oi : Option Nat} (hn : NmOk X nm oi) (hc : Names X x c)
      (hsu : ∀ (a : Addr) (oe : Obj) (cls : Value) (d : Option Addr) (pn : List (Addr × Obj)), L2N.Zn cls d oe → (∃ vs, oe.data = .fields vs) → PSs (X.suite a ((a, oe) :: pn)) (b₀ :: suite) (ts a cls d)) (r : HsOk X hds l) :
      HsOk X (.ExceptHandler (some (.Name x np)) nm (b₀ :: suite) pos' :: hds) ((c, oi, ts) :: l)
section
variable {X : Cx} {body : List Stmt} {h₀ : ExceptHandler} {hds : List ExceptHandler} {l : List HSpec} {pos : Pos} {tb : WX → TS} {Wout : WX}
end
end DL

set_option maxRecDepth 100000
set_option maxHeartbeats 2000000
namespace DL
open PySem PySem.Spec PyProof.Rows L2

/-! ### several except clauses, as data -/
abbrev DHSpec := Value × Option Nat × Bool × (Addr → Addr → Option (List (Str × D)) → DTS)
def FldAt (K : PySem.W.Frag) (F : FZ) : Option (List (Str × D)) → Option Addr → Prop
  | none, none => True
  | some l, some dd => ∃ gs, F.p dd = some (.xd gs) ∧ KVR K F l gs
  | _, _ => False
def tsOf (K : PySem.W.Frag) (nf : Bool) (u : Addr → Addr → Option (List (Str × D)) → DTS) : Addr → Value → Option Addr → TS := fun a cls d D σ H => ∃ Dc F1 fs, cls = .ref Dc ∧ ExcC K Dc ∧ (nf = true → fs = none) ∧ FldAt K F1 fs d ∧ lfS K F1 (u a Dc fs) D σ H
def hsOf (K : PySem.W.Frag) (l : List DHSpec) : List HSpec := l.map fun z => (z.1, z.2.1, tsOf K z.2.2.1 z.2.2.2)
inductive DHs (X : Cx) : List ExceptHandler → List DHSpec → Prop
  | nil : DHs X [] []
  | cons {x : Str} {c : Value} {u : Addr → Addr → Option (List (Str × D)) → DTS} {b₀ : Stmt} {suite : List Stmt} {np pos' : Pos} {hds : List ExceptHandler} {l : List DHSpec} {nm : Option Str} {oi : Option Nat} {nf : Bool} (hn : NmOk X nm oi) (hc : Names X x c)
      (hsu : ∀ (F1 : FZ) (a Dc : Addr) (fs : Option (List (Str × D))) (d : Option Addr) (oe : Obj) (pn : List (Addr × Obj)), ExcC X.K Dc → L2N.Zn (.ref Dc) d oe → (∃ vs, oe.data = .fields vs) → (nf = true → fs = none) → FldAt X.K F1 fs d → ∃ t, DB (X.suite a ((a, oe) :: pn)) F1 (b₀ :: suite) t (u a Dc fs))
      (r : DHs X hds l) : DHs X (.ExceptHandler (some (.Name x np)) nm (b₀ :: suite) pos' :: hds) ((c, oi, nf, u) :: l)
theorem DHs.ok {X : Cx} : ∀ {hds : List ExceptHandler} {l : List DHSpec}, DHs X hds l → HsOk X hds (hsOf X.K l)
  | _, _, .nil => .nil
  | _, _, .cons (u := u) (nf := nf) hn hc hsu r => .cons hn hc (fun a oe cls d pn hz hfl => ⟨fun pins s σ H D I q => by
      obtain ⟨Dc, F1, fs, rfl, hx, hnf, hfa, q⟩ := q
      obtain ⟨t, h⟩ := hsu F1 a Dc fs d oe pn hx hz hfl hnf hfa
      exact (lfS_pss h).run pins s σ H D I q⟩) r.ok
section
variable {X : Cx} {F0 : FZ} {body : List Stmt} {h₀ : ExceptHandler} {hds : List ExceptHandler} {l : List DHSpec} {pos : Pos} {t' : DXG → DTS} {Eout : DXG}
end
end DL

set_option maxRecDepth 100000
set_option maxHeartbeats 2000000
namespace DL
open PySem PySem.Spec PyProof.Rows L2

/-! ### a raising __init__; how an error's class is read off the written part -/
section
variable {P : Program} {w : World} {K : PySem.W.Frag} {mg : Str → Option Value} {base : Heap}
end
end DL

set_option maxRecDepth 100000
set_option maxHeartbeats 2000000
namespace DL
open PySem PySem.Spec PyProof.Rows L2

/-! ### a op b op c op d -/
section
variable {X : Cx} {K : PySem.W.Frag} {F0 : FZ} {a b c d : Expr} {ta tb tc td : TE} {ta' tb' tc' td' : DTE} {pos : Pos} {op op' op2 : CmpOp} {r r' r2 : R2} {e e' e2 : DR2}
end
end DL

set_option maxRecDepth 100000
set_option maxHeartbeats 2000000
namespace DL
open PySem PySem.Spec PyProof.Rows L2

/-! ### a dict looked for in a tuple of tuples -/
section
open PySem.SeqAt PySem.MeetsSeq PySem.AutoSeq1
variable {A : Around} {s : Shared}
end
section
variable {X : Cx} {F0 : FZ} {a b : Expr} {ta tb : TE} {ta' tb' : DTE} {pos : Pos} {K : PySem.W.Frag}
end
end DL

set_option maxRecDepth 100000
set_option maxHeartbeats 2000000

/-! ### t[::-1] of a tuple -/
namespace HT
open PySem PySem.Spec PyProof.Rows
section
variable {prog : Program} {w : World} {A : Around} {E : Value → Shared → Prop} {s : Shared}
theorem adjust_rev (n : Nat) : Builtin.Slice.sliceAdjust none none (-1) (n : Int) = ((n : Int) - 1, -1) := by
  unfold Builtin.Slice.sliceAdjust
  have h1 : ((-1 : Int) < 0) := by decide
  simp only [h1, if_true]
theorem places_rev (n : Nat) : Builtin.Slice.slicePlaces ((n : Int) - 1) (-1) (-1) = n := by
  unfold Builtin.Slice.slicePlaces
  have h1 : ¬ ((-1 : Int) > 0) := by decide
  have h2 : (-(-1 : Int)) = 1 := by decide
  simp only [h1, if_false, h2, Int.ediv_one]
  split <;> omega
theorem sliceApplied_rev {sl : Addr} {u : Tok} {n : Nat} {Q : Int × Int × Nat → Shared → Prop} (hs : s.heap.IsSliceOf sl .none .none (.int (-1) u))
    (h : Q ((n : Int) - 1, -1, n) s) : wpAny (model prog w) A (Builtin.Slice.sliceApplied (.ref sl) (pure (n : Int))) Q E s := by
  obtain ⟨os, hos, hcs, hds⟩ := id hs
  unfold Builtin.Slice.sliceApplied Builtin.Slice.sliceFields
  refine wpAny_bind (wpAny_bind (wpAny_field hos hds (x := .none) rfl (wpAny_bind (wpAny_field hos hds (x := .none) rfl (wpAny_bind (wpAny_field hos hds (x := .int (-1) u) rfl (wpAny_pure ?_)))))))
  refine wpAny_bind (slicePart_int ?_)
  show wpAny _ _ (if ((-1 : Int) == 0) = true then _ else _) _ _ s
  rw [if_neg (by decide)]
  refine wpAny_bind (slicePart_none (wpAny_bind (slicePart_none (wpAny_bind (wpAny_pure ?_)))))
  show wpAny _ _ (match Builtin.Slice.sliceAdjust none none (-1) (n : Int) with | (lo, hi) => pure (lo, (-1 : Int), Builtin.Slice.slicePlaces lo hi (-1))) _ _ s
  rw [adjust_rev n]
  show wpAny _ _ (pure ((n : Int) - 1, (-1 : Int), Builtin.Slice.slicePlaces ((n : Int) - 1) (-1) (-1))) _ _ s
  rw [places_rev]
  exact wpAny_pure h
theorem pick_rev (xs : Array Value) : ((List.range xs.size).filterMap fun (m : Nat) => xs[(((xs.size : Int) - 1) + (m : Int) * (-1)).toNat]?).toArray = xs.toList.reverse.toArray := by
  have e : (fun (m : Nat) => xs[(((xs.size : Int) - 1) + (m : Int) * (-1)).toNat]?) = (fun k => xs[k]?) ∘ fun m => xs.size - 1 - m := by
    funext m
    show xs[(((xs.size : Int) - 1) + (m : Int) * (-1)).toNat]? = xs[xs.size - 1 - m]?
    have : (((xs.size : Int) - 1) + (m : Int) * (-1)).toNat = xs.size - 1 - m := by omega
    rw [this]
  rw [e, ← List.filterMap_map, PySem.W.krv_range, List.filterMap_reverse, PySem.W.krv_all]

theorem getItem_tuple_rev {t sl : Addr} {items : Array Value} {u : Tok} {Q : Value → Shared → Prop} (ht : IsTup s.heap t items) (hs : s.heap.IsSliceOf sl .none .none (.int (-1) u))
    (h : Q (.ref s.heap.objs.size) { s with heap := s.heap.push { cls := .type "tuple", data := .seq items.toList.reverse.toArray } })
    (hsz : items.size ≤ sizeLine) : wpAny (model prog w) A (getItem (.ref t) (.ref sl)) Q E s := by
  have htake : sizeOk (.seq items.toList.reverse.toArray) := by
    show items.toList.reverse.toArray.size ≤ sizeLine
    rw [List.size_toArray, List.length_reverse, Array.length_toList]
    exact hsz
  obtain ⟨os, hos, hcs, hds⟩ := id hs
  have hTs : s.TypeIs (.ref sl) "slice" := ⟨os, hos, hcs⟩
  unfold getItem
  try with_reducible refine wpAny_holding ?_
  first | refine wpAny_bind (wpAny_pure ?_) | skip
  refine wpAny_bind (wpAny_sequenceKey ht.typeIs (by decide) ?_)
  refine wpAny_bind (wpAny_callSpecial?_slot (name := Str.ofString "__getitem__") ht.typeIs PyProof.Rows.slot_tuple_getitem
    (wpAny_call_entry PyProof.Rows.slot_tuple_getitem ht.typeIs entry_tuple_getitem ?_ (args_tuple_getitem _ _)))
  show wpAny _ _ (Builtin.Tuple.tupleItemsOf (.ref t) >>= _) _ _ s
  refine wpAny_bind (tupleItemsOf_ ht ?_)
  refine wpAny_bind (wpAny_typeOf hTs ?_)
  rw [if_pos (by decide)]
  refine wpAny_bind (sliceApplied_rev hs ?_)
  have hno : ¬ ((((items.size : Int) - 1) == 0 && (-1 : Int) == 1 && items.size == items.size) = true) := by
    intro q
    rw [Bool.and_eq_true, Bool.and_eq_true] at q
    have q1 : (-1 : Int) = 1 := eq_of_beq q.1.2
    omega
  show wpAny _ _ (if (((items.size : Int) - 1) == 0 && (-1 : Int) == 1 && items.size == items.size) = true then _ else _) _ _ s
  rw [if_neg hno, pick_rev]
  first
    | exact wpAny_bind (m := Builtin.Tuple.tupleExact _) (wpAny_newObj_type (wpAny_pure ⟨_, rfl, wpAny_pure h⟩) htake)
    | exact wpAny_bind (m := Builtin.Tuple.tupleExact _) (wpAny_newObj_type (wpAny_bind (wpAny_pure (wpAny_pure ⟨_, rfl, wpAny_pure h⟩))) htake)
    | exact wpAny_bind (wpAny_bind (m := Builtin.Tuple.tupleExact _) (wpAny_newObj_type (wpAny_pure (wpAny_pure ⟨_, rfl, wpAny_pure h⟩)) htake))
    | exact wpAny_bind (wpAny_bind (m := Builtin.Tuple.tupleExact _) (wpAny_newObj_type (wpAny_pure ⟨_, rfl, wpAny_pure h⟩) htake))
end
end HT

namespace DL
open PySem PySem.Spec PyProof.Rows L2
def tRevT (K : PySem.W.Frag) (te : TE) : TE := fun σ H Q => te σ H fun x H1 => ∃ a xs, x = .ref a ∧ SqT K H1 a xs ∧ ∀ p, H1 p = none → Q (.ref p) (upd H1 p (.tup xs.reverse))
def dRevT (ta : DTE) : DTE := fun γ M Q => ta γ M fun x M1 => ∃ l, x = .tup l ∧ Q (.tup l.reverse) M1
section
variable {X : Cx} {F0 : FZ} {e : Expr} {te : TE} {te' : DTE} {k : Nat} {p1 p2 p3 pos : Pos}
theorem pe_revT (he : PE X e te) : PE X (.Subscript e (.Slice none none (some (.UnaryOp .USub (.Constant (.int 1) k p1) p2)) p3) pos) (tRevT X.K te) := by
  refine ⟨fun pins s σ H Q I h => ?_⟩
  refine Subscript_ (thn (he.run pins s σ H _ I h) fun v s1 ⟨x, H1, I1, r1, q1⟩ => ?_)
  obtain ⟨a, xs, ex, hx, q⟩ := q1
  subst ex
  cases r1
  have hst : PO X (some (.UnaryOp .USub (.Constant (.int 1) k p1) p2)) (tPart (tUn (rU fun i => .int (-i)) (tC (.int 1)))) := po_some (pe_un un_neg pe_int)
  refine wpAny_Slice (thn (po_none.run pins s1 σ H1 (fun o H2 => o = none ∧ H2 = H1) I1 ⟨rfl, rfl⟩) fun vl s2 ⟨l, H2, I2, pl, el, e2⟩ => ?_)
  subst el e2
  refine thn (po_none.run pins s2 σ H2 (fun o H3 => o = none ∧ H3 = H2) I2 ⟨rfl, rfl⟩) fun vu s3 ⟨u, H3, I3, pu, eu, e3⟩ => ?_
  subst eu e3
  refine thn (hst.run pins s3 σ H3 (fun o H4 => o = some (-1) ∧ H4 = H3) I3 ⟨1, rfl, -1, rfl, rfl, rfl⟩) fun vs s4 ⟨o, H4, I4, ps, eo, e4⟩ => ?_
  subst eo e4
  cases pl
  cases pu
  cases ps with | int _ tk => ?_
  have I5 : Inv X pins σ H4 { s4 with heap := s4.heap.push { cls := .type "slice", data := .fields #[.none, .none, .int (-1) tk] } } := I4.kept (t' := s4.toks) fun b ob q => Heap.get?_push_of_some _ q
  obtain ⟨its, r, ht, hz⟩ := I5.tuple hx
  have hlen := r.length
  show wpAny (model X.prog X.w) X.A (subscriptTail e (.Slice none none (some (.UnaryOp .USub (.Constant (.int 1) k p1) p2)) p3) (.ref a) (.ref s4.heap.objs.size)) (EP X pins σ Q) X.xe { s4 with heap := s4.heap.push { cls := .type "slice", data := .fields #[.none, .none, .int (-1) tk] } }
  refine tail_any (ops := [.ref a, .ref s4.heap.objs.size]) ht.typeIs (PyProof.Rows.slot_tuple_getitem.lookup) ?_ (by with_unfolding_all rfl)
  refine HT.getItem_tuple_rev ht (Heap.IsSliceOf.new _ .none .none (.int (-1) tk)) ?_ (by rw [List.size_toArray]; omega)
  refine ⟨.ref _, _, I5.laid (t' := s4.toks) (o := .tup xs.reverse) (fun b ob q => Heap.get?_push_of_some _ q) (Nat.le_refl _) ?_, rfl, q _ (I5.hok.fresh (Nat.le_refl _))⟩
  exact ⟨by rw [List.length_reverse]; exact hz, _, r.reverse, IsTup.new _ _⟩
theorem de_revT (he : DE X F0 e te te') : DE X F0 (.Subscript e (.Slice none none (some (.UnaryOp .USub (.Constant (.int 1) k p1) p2)) p3) pos) (tRevT X.K te) (dRevT te') := ⟨pe_revT he.pe, fun F γ M σ H Q' Q e0 s g q k => by
  refine he.le F γ M σ H _ _ e0 s g q fun F1 d1 v1 M1 H1 e1 s1 r1 q1 => ?_
  obtain ⟨l, rfl, q1⟩ := q1
  cases r1 with
  | tup h1 h2 =>
    rename_i p xs
    refine ⟨p, xs, rfl, s1.sqT h1, fun p' hp => ?_⟩
    have e2 := same_upd (o := .tup xs.reverse) (s1.freeF hp)
    exact k _ _ _ _ _ (e1.trans e2) (s1.newF hp (by show xs.reverse.length ≤ sizeLine; rw [List.length_reverse]; exact s1.lenT h1)) (.tup upd_same (h2.reverse.mono e2)) q1⟩
end
end DL

set_option maxRecDepth 100000
set_option maxHeartbeats 2000000
namespace DL
open PySem PySem.Spec PyProof.Rows L2

/-! ### {k: v for ..} of any keys: o0 the new dict -/
section
variable {X : Cx}
end
section
variable {X : Cx} {K : PySem.W.Frag} {F0 : FZ} {kx vx tg iter : Expr} {ifs : List Expr} {scope : Scope} {own : List (Str × Nat)} {pos spos py : Pos} {wi : TI} {wi' : DTI} {g' : DTG} {tt' : DTT} {tk' te' : DTE}
end
end DL

set_option maxRecDepth 100000
set_option maxHeartbeats 2000000
namespace DL
open PySem PySem.Spec PyProof.Rows L2

/-! ### {t: v for ..}, keys tuples -/
section
variable {X : Cx} {K : PySem.W.Frag} {F0 : FZ}
variable {kx vx tg iter : Expr} {ifs : List Expr} {scope : Scope} {own : List (Str × Nat)} {pos spos py : Pos} {wi : TI} {wi' : DTI} {g' : DTG} {tt' : DTT} {tk' te' : DTE}
end
end DL

set_option maxRecDepth 100000
set_option maxHeartbeats 2000000
namespace DL
open PySem PySem.Spec PyProof.Rows L2

/-! ### a dict of the written part with text keys, by its global name -/
def tblGet (tbl : List (Str × D)) (z : Str) : Option D := (tbl.find? fun p => decide (p.1 = z)).map (·.2)
structure KDa (K : PySem.W.Frag) (w : World) (mg : Str → Option Value) (x : Str) (tbl : List (Str × D)) (A : Addr) (es : Array DictEntry) (n : Nat) : Prop where
  hm : mg x = some (.ref A)
  dc : KDict K w A es n
  no : ∀ z, tblGet tbl z = none → PySem.W.nsIn K A z = some none
  go : ∀ z d, tblGet tbl z = some d → ∃ (u : Value) (v : V), PySem.W.nsIn K A z = some (some u) ∧ RelV v u ∧ ∀ F : FZ, Rp K F d v
def KDt (K : PySem.W.Frag) (w : World) (mg : Str → Option Value) (x : Str) (tbl : List (Str × D)) : Prop := ∃ (A : Addr) (es : Array DictEntry) (n : Nat), KDa K w mg x tbl A es n
/-- what is in the dict besides its written keys: nothing -/
theorem dicW_none {K : PySem.W.Frag} {P : Params} {a : Addr} {ks : List Str} (h : He.dicW K a = some (He.keysIn P ks)) {z : Str} (hz : z ∉ ks) : PySem.W.nsIn K a z = some none := by
  unfold He.dicW at h
  unfold PySem.W.nsIn
  have key : ∀ {l : List DictEntry} {ks : List Str}, l.map He.keyOf = He.keysIn P ks → z ∉ ks → l.find? (·.key.isStr z) = none ∧ l.any (·.refKey) = false := by
    intro l
    induction l with
    | nil => intro ks _ _; exact ⟨rfl, rfl⟩
    | cons e l ih =>
      intro ks hk hz
      cases ks with
      | nil => cases hk
      | cons k ks =>
        have h1 : He.keyOf e :: l.map He.keyOf = some (k, PyData.keyHash P k) :: He.keysIn P ks := hk
        injection h1 with h2 h3
        obtain ⟨i1, i2⟩ := ih h3 fun hm => hz (List.mem_cons_of_mem _ hm)
        have hne : k ≠ z := fun e => hz (e ▸ List.mem_cons_self)
        obtain ⟨eh, ek, ev⟩ := e
        unfold He.keyOf at h2
        simp only at h2
        cases ek with
        | str x t =>
          simp only [Option.some.injEq, Prod.mk.injEq] at h2
          have q1 : (Value.str x t).isStr z = false := by
            rw [PySem.W.isStr_of]
            show Value.isStrOf z (.str x t) = false
            have : Value.isStrOf z (.str x t) = (x == z) := by rfl
            rw [this, h2.1]
            exact beq_eq_false_iff_ne.mpr hne
          refine ⟨by rw [List.find?_cons, q1]; exact i1, ?_⟩
          rw [List.any_cons, i2]
          rfl
        | _ => cases h2
  split at h
  · rename_i c es n sl e
    rw [e]
    dsimp only
    split at h
    · obtain ⟨k1, k2⟩ := key (Option.some.inj h) hz
      rw [k1]
      dsimp only
      rw [k2]
      rfl
    · cases h
  · cases h
theorem dicW_of {K : PySem.W.Frag} {P : Params} {A : Addr} {n : Nat} {es : Array DictEntry} {ks : List Str} (h : K.lookup A = some ⟨.type "dict", none, .dict es n, #[]⟩) (low : (A == sysModules) = false) (hk : es.toList.map He.keyOf = He.keysIn P ks) : He.dicW K A = some (He.keysIn P ks) := by
  unfold He.dicW
  rw [h]
  dsimp only
  rw [low, hk]
  rfl
theorem kdt_mk {K : PySem.W.Frag} {w : World} {mg : Str → Option Value} {x : Str} {A : Addr} {tbl : List (Str × D)} (hm : mg x = some (.ref A)) (hd : He.dicW K A = some (He.keysIn w.params (tbl.map (·.1))))
    (hv : ∀ p ∈ tbl, ∃ (u : Value) (v : V), PySem.W.nsIn K A p.1 = some (some u) ∧ RelV v u ∧ ∀ F : FZ, Rp K F p.2 v) : KDt K w mg x tbl := by
  obtain ⟨es, n, D⟩ := He.dicW_ok hd
  refine ⟨A, es, n, ⟨hm, D, fun z hz => dicW_none hd fun hmem => ?_, fun z d hz => ?_⟩⟩
  · obtain ⟨p, hp, e⟩ := List.mem_map.mp hmem
    unfold tblGet at hz
    rw [Option.map_eq_none_iff, List.find?_eq_none] at hz
    exact hz p hp (decide_eq_true e)
  · unfold tblGet at hz
    obtain ⟨p, hp, e⟩ := Option.map_eq_some_iff.mp hz
    have h1 := List.find?_some hp
    have h2 := List.mem_of_find?_eq_some hp
    obtain ⟨u, v, q⟩ := hv p h2
    rw [of_decide_eq_true h1, e] at q
    exact ⟨u, v, q⟩
section
variable {X : Cx} {K : PySem.W.Frag} {F0 : FZ} {a : Expr} {ta : TE} {ta' : DTE} {pos p1 : Pos} {x : Str} {tbl : List (Str × D)}
def dKdIn (neg : Bool) (tbl : List (Str × D)) (ta : DTE) : DTE := fun γ M Q => ta γ M fun y M1 => ∃ z, y = .str z ∧ Q (.bl (if neg then !(tblGet tbl z).isSome else (tblGet tbl z).isSome)) M1
def dKdIx (tbl : List (Str × D)) (ta : DTE) : DTE := fun γ M Q => ta γ M fun y M1 => ∃ z d, y = .str z ∧ tblGet tbl z = some d ∧ Q d M1
theorem kd_ns {A : Addr} (h1 : ∀ z, tblGet tbl z = none → PySem.W.nsIn X.K A z = some none) (h2 : ∀ z d, tblGet tbl z = some d → ∃ (u : Value) (v : V), PySem.W.nsIn X.K A z = some (some u) ∧ RelV v u ∧ ∀ F : FZ, Rp X.K F d v) (z : Str) :
    ∃ r : Option Value, PySem.W.nsIn X.K A z = some r ∧ r.isSome = (tblGet tbl z).isSome := by
  cases e : tblGet tbl z with
  | none => exact ⟨none, h1 z e, rfl⟩
  | some d =>
    obtain ⟨u, v, q, _⟩ := h2 z d e
    exact ⟨some u, q, rfl⟩
theorem de_kdNotIn {A : Addr} {es : Array DictEntry} {n : Nat} (h : KDa X.K X.w X.mg x tbl A es n) (ha : DE X F0 a ta ta') (hg : Gl X x := by rfl) (hd : (x == ("__debug__" : Str)) = false := by decide) :
    DE X F0 (.Compare a [.NotIn] [.Name x p1] pos) (tOp (fun x y H Q => ∃ (z : Str) (r : Option Value), x = .str z ∧ y = .ref A ∧ PySem.W.nsIn X.K A z = some r ∧ Q (.bl (!r.isSome)) H) ta (tC (.ref A))) (dKdIn true tbl ta') := by
  refine ⟨pe_cmpR (op_notIn_kd h.dc) ha.pe (pe_glob (v := .ref A) hg h.hm rfl hd) rfl, fun F γ M σ H Q' Q e0 s g q k => ?_⟩
  refine ha.le F γ M σ H _ _ e0 s g q fun F1 d1 v1 M1 H1 e1 s1 r1 q1 => ?_
  obtain ⟨z, rfl, q1⟩ := q1
  cases r1
  obtain ⟨r, hr, er⟩ := kd_ns h.no h.go z
  exact ⟨z, r, rfl, rfl, hr, k F1 _ _ M1 H1 e1 s1 (.bl _) (by rw [er]; exact q1)⟩
theorem dt_kdNotIn {A : Addr} {es : Array DictEntry} {n : Nat} (h : KDa X.K X.w X.mg x tbl A es n) (ha : DE X F0 a ta ta') (hg : Gl X x := by rfl) (hd : (x == ("__debug__" : Str)) = false := by decide) :
    DT X F0 (.Compare a [.NotIn] [.Name x p1] pos) (tTest (tOp (fun x y H Q => ∃ (z : Str) (r : Option Value), x = .str z ∧ y = .ref A ∧ PySem.W.nsIn X.K A z = some r ∧ Q (.bl (!r.isSome)) H) ta (tC (.ref A)))) (dTest (dKdIn true tbl ta')) :=
  ⟨pt_cmpR (op_notIn_kd h.dc) ha.pe (pe_glob (v := .ref A) hg h.hm rfl hd) rfl, le_test (de_kdNotIn (pos := pos) (p1 := p1) h ha hg hd).le⟩
theorem de_kdIx {A : Addr} {es : Array DictEntry} {n : Nat} (h : KDa X.K X.w X.mg x tbl A es n) (ha : DE X F0 a ta ta') (hg : Gl X x := by rfl) (hd : (x == ("__debug__" : Str)) = false := by decide) (hs : PlainIx a := by exact fun _ _ => rfl) :
    DE X F0 (.Subscript (.Name x p1) a pos) (tOp (rIxD X.K X.w) (tC (.ref A)) ta) (dKdIx tbl ta') := by
  refine ⟨pe_ix ix_kdict (pe_glob (v := .ref A) hg h.hm rfl hd) ha.pe hs, fun F γ M σ H Q' Q e0 s g q k => ?_⟩
  refine ha.le F γ M σ H _ _ e0 s g q fun F1 d1 v1 M1 H1 e1 s1 r1 q1 => ?_
  obtain ⟨z, d, rfl, hz, q1⟩ := q1
  cases r1
  obtain ⟨u, v, hu, rv, rp⟩ := h.go z d hz
  exact ⟨A, z, v, rfl, rfl, ⟨es, n, u, h.dc.at_, h.dc.lit, hu, rv⟩, k F1 _ _ M1 H1 e1 s1 (rp F1) q1⟩
end
end DL

set_option maxRecDepth 100000
set_option maxHeartbeats 2000000
namespace DL
open PySem PySem.Spec PyProof.Rows L2

/-! ### the place of a datum in a list -/
section
variable {X : Cx} {K : PySem.W.Frag} {F0 : FZ} {o e : Expr} {to : TE} {to' : DTE} {apos cpos : Pos}
end
end DL

set_option maxRecDepth 100000
set_option maxHeartbeats 2000000
namespace DL
open PySem PySem.Spec PyProof.Rows L2

section
variable {X : Cx} {K : PySem.W.Frag} {F0 : FZ} {a b e : Expr} {ta tb te : TE} {ta' tb' te' : DTE} {pos p2 : Pos}
/-! ### slices of texts -/
/-! ### a short text * a small number -/
end

/-! ### texts in order -/
end DL

set_option maxRecDepth 100000
set_option maxHeartbeats 2000000
namespace DL
open PySem PySem.Spec PyProof.Rows L2

/-! ### y = [e for a in .. for b in ..] -/
section
variable {X : Cx} {K : PySem.W.Frag} {F0 : FZ} {elt tg tg1 iter iter1 : Expr} {ifs ifs1 : List Expr} {scope : Scope} {own : List (Str × Nat)} {vs1 : List Nat} {pos spos py : Pos} {wi : TI} {wi' wi1' : DTI} {g' g1' : DTG} {tt' tt1' : DTT} {te' : DTE}
theorem dx_setLc2 (i : Nat) {y : Str} (hc : X.calm = true) (hN : X.N.Nodup) (hsw : swapsWith (.ListComp elt [⟨tg, iter, ifs, 0⟩, ⟨tg1, iter1, ifs1, 0⟩] scope pos) (some (.Name y py)) spos.line X.env = pure true) (hi : DI X F0 tg iter wi wi') (ok : BlkOk X.N X.env.scope scope own) (hv : ∀ i ∈ vs1, i ∈ own.map (·.2)) (hg : Blk X scope fun Y => DGx Y F0 (own.map (·.2)) tg g') (ht : Blk X scope fun Y => DTx Y F0 ifs tt')
    (hi1 : Blk X scope fun Y => DIx Y F0 tg1 iter1 wi1') (hg1 : Blk X scope fun Y => DGx Y F0 vs1 tg1 g1') (ht1 : Blk X scope fun Y => DTx Y F0 ifs1 tt1') (he : Blk X scope fun Y => DEx Y F0 elt te') (hs : ∀ x, foldedSetIterable iter X.env x = pure x := by intro _; rfl) (hs1 : ∀ env x, foldedSetIterable iter1 env x = pure x := by intro _ _; rfl)
    (hy : X.N[i]? = some y := by rfl) (hyl : X.env.scope.names.lookup y = some .local := by rfl) :
    DS X F0 (.Assign [.Name y py] (.ListComp elt [⟨tg, iter, ifs, 0⟩, ⟨tg1, iter1, ifs1, 0⟩] scope pos) spos) (tAsg (tLc2 wi (lfG X.K F0 (own.map (·.2)) g') (lfT X.K F0 tt') (lfI X.K F0 wi1') (lfG X.K F0 vs1 g1') (lfT X.K F0 tt1') (lfE X.K F0 te') (own.map (·.2)) vs1) (gName i)) (dAsg (dLc2 wi' g' tt' wi1' g1' tt1' te' (own.map (·.2)) vs1) (hName i)) :=
  ⟨ps_setLc2 hc hN hy hyl hsw hi.pi ok hv (fun s H C cl fp => (hg s H C cl fp).pg) (fun s H C cl fp => (ht s H C cl fp).pt) (fun s H C cl fp => (hi1 s H C cl fp).pi) (fun s H C cl fp => (hg1 s H C cl fp).pg) (fun s H C cl fp => (ht1 s H C cl fp).pt) (fun s H C cl fp => (he s H C cl fp).pe) hs hs1,
    ls_asg (le_lc2 hi.le lg_lfG gw_lfG (le_lfT _) (le_lfI _) lg_lfG gw_lfG (le_lfT _) (le_lfE _)) (dg_name (X := X) (F0 := F0) (pos := pos) i hN hy (Or.inl hyl) (.inr hyl)).le⟩
end
end DL

set_option maxRecDepth 100000
set_option maxHeartbeats 2000000
namespace DL
open PySem PySem.Spec PyProof.Rows L2

/-! ### enumerate(a frozen list) -/
section
variable {X : Cx} {K : PySem.W.Frag} {F0 : FZ} {e : Expr} {p pos : Pos}
end
end DL

set_option maxRecDepth 100000
set_option maxHeartbeats 2000000
namespace DL
open PySem PySem.Spec PyProof.Rows L2

/-! ### y = [e for a in .. for b in ..], a new list to be changed -/
section
variable {X : Cx} {K : PySem.W.Frag} {F0 : FZ}
end
section
variable {X : Cx} {K : PySem.W.Frag} {F0 : FZ} {elt tg tg1 iter iter1 : Expr} {ifs ifs1 : List Expr} {scope : Scope} {own : List (Str × Nat)} {vs1 : List Nat} {pos spos py : Pos} {wi : TI} {wi' wi1' : DTI} {g' g1' : DTG} {tt' tt1' : DTT} {te' : DTE}
end
end DL

set_option maxRecDepth 100000
set_option maxHeartbeats 2000000
namespace DL
open PySem PySem.Spec PyProof.Rows L2

/-! ### tuple * int -/
section
variable {X : Cx} {K : PySem.W.Frag} {F0 : FZ}
end
end DL

set_option maxRecDepth 100000
set_option maxHeartbeats 4000000
namespace DL
open PySem PySem.Spec PyProof.Rows L2

/-! ### sorted(set(rows)), rows of ints, of any lengths but none empty -/
section
variable {P : Program} {w : World} {A : Around} {E : Value → Shared → Prop} {s : Shared}
end
section
variable {X : Cx} {K : PySem.W.Frag} {F0 : FZ} {a : Expr} {ta : TE} {ta' : DTE} {pos : Pos}
end
end DL

set_option maxRecDepth 100000
set_option maxHeartbeats 2000000
namespace DL
open PySem PySem.Spec PyProof.Rows L2

/-! ### d.update(other) -/
section
variable {X : Cx} {K : PySem.W.Frag} {F0 : FZ} {o e : Expr} {to : TE} {to' : DTE} {pos apos cpos : Pos}
end

/-! ### == of tuples with lists in them that may change -/
section
variable {X : Cx} {K : PySem.W.Frag} {F0 : FZ} {a b : Expr} {ta tb : TE} {ta' tb' : DTE} {pos : Pos}
end
end DL

set_option maxRecDepth 100000
set_option maxHeartbeats 2000000
namespace DL
open PySem PySem.Spec PyProof.Rows L2
/-! ### a datum is equal to itself -/
end DL

set_option maxRecDepth 100000
set_option maxHeartbeats 2000000
namespace DL
open PySem PySem.Spec PyProof.Rows L2

/-! ### a dict of the written part with keys that are tuples, by its global name: X.get(k, None) -/
def tblT (tbl : List (List Key × D)) (k : List Key) : Option D := (tbl.find? fun p => decide (p.1 = k)).map (·.2)
structure KTa (P : Program) (w : World) (K : PySem.W.Frag) (mg : Str → Option Value) (x : Str) (tbl : List (List Key × D)) (A : Addr) (xs : List (List Key × Addr × Value)) : Prop where
  hm : mg x = some (.ref A)
  low : (A == sysModules) = false
  dc : ∀ h : Heap, K.In h → h.DictOfH (tupleKind (mixKind P w)) A xs
  no : ∀ k, tblT tbl k = none → atKey xs k = none
  go : ∀ k d, tblT tbl k = some d → ∃ p v, atKey xs k = some p ∧ RelV v p.2 ∧ ∀ F : FZ, Rp K F d v
section
variable {X : Cx} {e f : Expr} {apos cpos p1 : Pos} {ty tx : TE} {x : Str} {tbl : List (List Key × D)} {A : Addr} {xs : List (List Key × Addr × Value)}
end
section
variable {X : Cx} {K : PySem.W.Frag} {F0 : FZ} {e : Expr} {apos cpos p1 p2 : Pos} {j2 : Nat} {ty : TE} {ty' : DTE} {x : Str} {tbl : List (List Key × D)} {A : Addr} {xs : List (List Key × Addr × Value)} {n : Nat}
end
/-- one written key: its tuple and its value -/
structure KEnt (P : Program) (w : World) (K : PySem.W.Frag) (k : List Key) (d : D) (e : DictEntry) (a : Addr) : Prop where
  hk : e.key = .ref a
  hh : e.hash = tupleKeyHash (mixKind P w) k
  is : ∀ h : Heap, K.In h → (tupleKind (mixKind P w)).is h k a
  val : ∃ v, RelV v e.val ∧ ∀ F : FZ, Rp K F d v
end DL

set_option maxRecDepth 100000
set_option maxHeartbeats 2000000
namespace DL
open PySem PySem.Spec PyProof.Rows L2
/-! ### a def called by another global name (g = x) -/
section
variable {P : Program} {w : World} {K : PySem.W.Frag} {mg : Str → Option Value} {base : Heap}
structure DFunA (K : PySem.W.Frag) (mg : Str → Option Value) (g x : Str) (st : Stmt) (ps : List Str) : Prop where
  ex : ∃ f fd, Fun K x x st f fd ∧ mg g = some (.ref f) ∧ Binds K fd ps []
end
end DL

set_option maxRecDepth 100000
set_option maxHeartbeats 2000000
namespace DL
open PySem PySem.Spec PyProof.Rows L2
/-! ### sorted(ints), a new list to be changed -/
section
variable {X : Cx} {K : PySem.W.Frag} {F0 : FZ} {e : Expr} {pos : Pos}
end
end DL

set_option maxRecDepth 100000
set_option maxHeartbeats 2000000
/-! ### enumerate of a tuple -/
namespace PySem
open Sem (wp)
namespace DL57
end DL57
end PySem
namespace DL
open PySem PySem.Spec PyProof.Rows L2
section
variable {X : Cx} {K : PySem.W.Frag} {F0 : FZ} {e : Expr} {p pos : Pos}
end
end DL

set_option maxRecDepth 100000
set_option maxHeartbeats 2000000
namespace DL
open PySem PySem.Spec PyProof.Rows L2
/-! ### sum(ints) -/
section
variable {K : PySem.W.Frag} {F0 : FZ}
end
end DL

set_option maxRecDepth 100000
set_option maxHeartbeats 2000000
/-! ### xs.extend(a tuple) -/
namespace PySem
open Sem (wp)
namespace DL59
end DL59
end PySem
namespace DL
open PySem PySem.Spec PyProof.Rows L2
section
variable {X : Cx} {K : PySem.W.Frag} {F0 : FZ} {o e : Expr} {to : TE} {to' : DTE} {pos apos cpos : Pos}
end
end DL

set_option maxRecDepth 100000
set_option maxHeartbeats 2000000
namespace DL
open PySem PySem.Spec PyProof.Rows L2
/-! ### comprehensions over the image of a list; what holds of the memory stays -/
theorem take_snoc {α : Type} {l : List α} {i : Nat} {a : α} (h : l[i]? = some a) : l.take (i + 1) = l.take i ++ [a] := by
  rw [List.take_add_one, h]; rfl
theorem dLcI_mapS {α : Type} {g : DTG} {te : DTE} {vs : List Nat} {γ : G} {M : Mp} {Q : DK} (S : Mp → Prop) (L : List α) (w : α → D) (f : α → D) (s0 : S M)
    (h : ∀ (i : Nat) (a : α) (M1 : Mp), L[i]? = some a → S M1 → ∀ Q2 : DK, (∀ M2, S M2 → Q2 (f a) M2) → g (w a) (dwipe γ vs) M1 fun γ2 M2 => te γ2 M2 Q2)
    (q : ∀ M2, S M2 → Q (.lst (L.map f)) M2) : dLcI g dYes te vs γ (L.map w) M Q := by
  refine ⟨fun i acc M' => S M' ∧ acc = (L.take i).map f, ⟨s0, by simp⟩, ?_, ?_⟩
  · rintro i d acc M' hd ⟨hs, rfl⟩
    rw [List.getElem?_map] at hd
    obtain ⟨a, ha, rfl⟩ := Option.map_eq_some_iff.mp hd
    refine h i a M' ha hs _ fun M2 h2 => ⟨h2, ?_⟩
    rw [take_snoc ha]
    simp
  · rintro acc M' ⟨hs, rfl⟩
    rw [List.length_map, List.take_length]
    exact q M' hs
end DL

set_option maxRecDepth 100000
set_option maxHeartbeats 2000000
/-! ### sum(lists, []) -/
namespace PySem
open Sem (wp)
namespace DL61
section
variable {prog : Program} {w : World} {A : Around} {R : Result → Shared → Prop}
end
end DL61
end PySem
namespace DL
open PySem PySem.Spec PyProof.Rows L2
section
variable {X : Cx} {K : PySem.W.Frag} {F0 : FZ}
inductive All2 {α β : Type} (R : α → β → Prop) : List α → List β → Prop
  | nil : All2 R [] []
  | cons {a b xs ys} : R a b → All2 R xs ys → All2 R (a :: xs) (b :: ys)
theorem All2.length_eq {α β : Type} {R : α → β → Prop} : ∀ {xs : List α} {ys : List β}, All2 R xs ys → xs.length = ys.length
  | _, _, .nil => rfl
  | _, _, .cons _ t => by rw [List.length_cons, List.length_cons, t.length_eq]
theorem All2.at {α β : Type} {R : α → β → Prop} : ∀ {xs : List α} {ys : List β}, All2 R xs ys → ∀ (j : Nat) (y : β), ys[j]? = some y → ∃ x, xs[j]? = some x ∧ R x y
  | _, _, .cons r _, 0, y, h => by rw [List.getElem?_cons_zero] at h; cases h; exact ⟨_, rfl, r⟩
  | _, _, .cons _ t, j+1, y, h => by rw [List.getElem?_cons_succ] at h; exact t.at j y h
/-! as data -/
end
end DL

set_option maxRecDepth 100000
set_option maxHeartbeats 2000000
namespace DL
open PySem PySem.Spec PyProof.Rows L2
/-! ### reversed(a frozen list) -/
section
variable {X : Cx} {F0 : FZ} {e tg : Expr} {p pos : Pos}
end
end DL

set_option maxRecDepth 100000
set_option maxHeartbeats 2000000
namespace DL
open PySem PySem.Spec PyProof.Rows L2
/-! ### repr of a datum, where no repr is under way -/
section
variable {X : Cx} {K : PySem.W.Frag} {F0 : FZ} {e : Expr} {p pos : Pos}
end
end DL

set_option maxRecDepth 100000
set_option maxHeartbeats 2000000
namespace DL
open PySem PySem.Spec PyProof.Rows L2
/-! ### a law whose own body asks what stands around it: as the claim calls it -/
section
variable {P : Program} {w : World} {K : PySem.W.Frag} {mg : Str → Option Value} {base : Heap}
end
end DL

set_option maxRecDepth 100000
set_option maxHeartbeats 2000000
namespace DL
open PySem PySem.Spec PyProof.Rows L2
section
variable {X : Cx} {F0 : FZ} {o e : Expr} {to : TE} {to' : DTE} {apos cpos : Pos}
end
end DL

set_option maxRecDepth 100000
set_option maxHeartbeats 2000000
namespace DL
open PySem PySem.Spec PyProof.Rows L2
/-! ### a def whose body asks that no repr is under way (a helper that calls repr) -/
/-- what a call answers where no repr is under way -/
def GdOk (P : Program) (w : World) (K : PySem.W.Frag) (mg : Str → Option Value) (base : Heap) (k : Nat) (f : Addr) (fd : FuncData) (ps : List Str) (sp : Sp) : Prop :=
  ∀ (A : Around) (outer : List Env) (s : Shared) (H : Hp) (args : Args) (us : List Value) (vs : List V) (Q : VK) (E : XK), A.guards = some [] → Room k A → Env0 P w K mg base A outer s H → BindsTo s fd args (ps.zip us) → Vals vs us → sp vs H Q E →
    codeAny (model P w) A (.call (.ref f) args) (CR CX0 outer P w H s Q E) s
section
variable {P : Program} {w : World} {K : PySem.W.Frag} {mg : Str → Option Value} {base : Heap}
end
section
variable {X : Cx} {F0 : FZ} {k j : Nat} {f : Addr} {fd : FuncData} {ps : List Str} {x : Str} {p pos : Pos} {e : Expr} {es : List Expr}
/-- a helper as called, where no repr is under way -/
structure DCalG (P : Program) (w : World) (K : PySem.W.Frag) (mg : Str → Option Value) (base : Heap) (k : Nat) (x : Str) (sp : DSp) : Prop where
  ex : ∃ (f : Addr) (fd : FuncData) (ps : List Str), GdOk P w K mg base k f fd ps (liftSp K sp) ∧ (∀ ds M Q E, sp ds M Q E → ds.length = ps.length) ∧ mg x = some (.ref f) ∧ PySem.W.keepIn K (.ref f) = true ∧ L2.Binds K fd ps []
theorem GdOk.mono {P : Program} {w : World} {K : PySem.W.Frag} {mg : Str → Option Value} {base : Heap} {sp : Sp} (h : GdOk P w K mg base k f fd ps sp) (hk : k ≤ j) : GdOk P w K mg base j f fd ps sp := fun A outer s H args us vs Q E hg hr => h A outer s H args us vs Q E hg (hr.mono hk)
end
section
variable {P : Program} {w : World} {K : PySem.W.Frag} {mg : Str → Option Value} {base : Heap}
end
end DL

set_option maxRecDepth 100000
set_option maxHeartbeats 2000000
namespace DL
open PySem PySem.Spec PyProof.Rows L2
/-! ### what repr can show: small leaves, few nodes -/
mutual
def D.nd : D → Nat
  | .tup l => D.ndL l
  | .lst l => D.ndL l
  | .kt l => D.ndL l
  | .str x => x.cps.size
  | _ => 0
def D.ndL : List D → Nat
  | [] => 0
  | d :: r => D.nd d + 131 + D.ndL r
end
mutual
def D.sm : D → Bool
  | .non => true
  | .bl _ => true
  | .int i => decide (i.natAbs < 10 ^ 39)
  | .str x => PyData.strOk x
  | .tup l => D.smL l
  | .lst l => D.smL l
  | .kt l => D.smL l
  | _ => false
def D.smL : List D → Bool
  | [] => true
  | d :: r => D.sm d && D.smL r
end
theorem log_small {i : Int} (h : i.natAbs < 10 ^ 39) : i.natAbs.log2 < 130 := by
  by_cases e : i.natAbs = 0
  · rw [e]; decide
  · exact (Nat.log2_lt e).mpr (Nat.lt_of_lt_of_le h (by decide))
theorem log_w {i : Int} (h : i.natAbs < 10 ^ 39) : (PyData.int i).weight ≤ 130 := by
  have := log_small h
  show (if i == 0 then 0 else i.natAbs.log2 + 1) ≤ 130
  split <;> omega
mutual
theorem D.wt : ∀ {d : D}, d.sm = true → d.py.weight ≤ d.nd + 130
  | .non, _ => Nat.zero_le _
  | .bl _, _ => Nat.zero_le _
  | .int i, h => by
    have := log_w (of_decide_eq_true (show decide (i.natAbs < 10 ^ 39) = true from h))
    show (PyData.int i).weight ≤ _
    omega
  | .str x, _ => Nat.le_add_right _ _
  | .tup l, h => Nat.le_trans (D.wtL (show D.smL l = true from h)) (Nat.le_add_right _ _)
  | .lst l, h => Nat.le_trans (D.wtL (show D.smL l = true from h)) (Nat.le_add_right _ _)
  | .kt l, h => Nat.le_trans (D.wtL (show D.smL l = true from h)) (Nat.le_add_right _ _)
theorem D.wtL : ∀ {l : List D}, D.smL l = true → PyData.weightAll (D.pyL l) ≤ D.ndL l
  | [], _ => Nat.le_refl _
  | d :: r, h => by
    simp only [D.smL, Bool.and_eq_true] at h
    have h1 := D.wt h.1
    have h2 := D.wtL h.2
    rw [D.pyL, D.ndL, PyData.weightAll]; omega
end
/-! ### texts compared -/
section
variable {X : Cx} {K : PySem.W.Frag} {F0 : FZ} {a b : Expr} {ta tb : TE} {ta' tb' : DTE} {pos : Pos}
/-! ### repr of a datum, told at once -/
end
end DL

set_option maxRecDepth 100000
set_option maxHeartbeats 4000000
namespace DL
open PySem PySem.Spec PyProof.Rows L2
/-! ### pairs of small ints hash apart -/
/-! ### dict(d), keys that are tuples of small ints -/
section
variable {prog : Program} {w : World} {K : Type} [DecidableEq K] {knd : HeapKind prog w K} {A : Around} {E : Value → Shared → Prop} {s : Shared}
end
section
variable {X : Cx} {K : PySem.W.Frag} {F0 : FZ}
end
/-! ### d.setdefault(key, e) -/
section
variable {X : Cx} {K : PySem.W.Frag} {F0 : FZ} {o e f : Expr} {td ty tx : TE} {td' ty' tx' : DTE} {apos cpos : Pos}
end
end DL

set_option maxRecDepth 100000
set_option maxHeartbeats 4000000
namespace DL
open PySem PySem.Spec PyProof.Rows L2
/-! ### for k, v in d.items(), the keys of d tuples -/
section
variable {X : Cx} {pins : List (Addr × Obj)} {σ : L2.St} {H : Hp} {s : Shared} {d : Addr} {o : Obj}
end
section
variable {P : Program} {w : World} {K : PySem.W.Frag} {d : Addr} {o : Obj} {es : Array DictEntry} {ep : Nat}
end
section
variable {X : Cx} {e : Expr} {td : TE} {apos cpos : Pos}
end
section
variable {K : PySem.W.Frag} {F0 : FZ} {X : Cx}
end
section
variable {X : Cx} {F0 : FZ} {tg e : Expr} {i : Nat} {pos apos cpos : Pos}
end
end DL

set_option maxRecDepth 100000
set_option maxHeartbeats 2000000
namespace DL
open PySem PySem.Spec PyProof.Rows L2
/-! ### isinstance(x, dict), x a told dict with tuple keys -/
section
variable {X : Cx} {K : PySem.W.Frag} {F0 : FZ}
end
end DL

set_option maxRecDepth 100000
set_option maxHeartbeats 2000000
namespace DL
open PySem PySem.Spec PyProof.Rows L2
/-! ### d.pop(key), d a dict with tuple keys, the key there -/
section
variable {X : Cx} {K : PySem.W.Frag} {F0 : FZ}
end
section
variable {X : Cx} {F0 : FZ} {o e : Expr} {to : TE} {to' : DTE} {ta : TA} {ta' : DTA} {apos cpos : Pos}
end
end DL

set_option maxRecDepth 100000
set_option maxHeartbeats 2000000
namespace DL
open PySem PySem.Spec PyProof.Rows L2
/-! ### repr of small things: greater whole numbers, the empty dict in a tuple -/
mutual
def D.pz : D → PyData
  | .non => .none
  | .bl b => .bool b
  | .int i => .int i
  | .str x => .str x
  | .tup l => .tuple (D.pzL l)
  | .lst l => .list (D.pzL l)
  | .kt l => .tuple (D.pzL l)
  | .dk _ _ => .dict []
  | _ => .none
def D.pzL : List D → List PyData
  | [] => []
  | d :: r => D.pz d :: D.pzL r
end
mutual
/-- small: no dict -/
def D.sz : D → Bool
  | .non => true
  | .bl _ => true
  | .int i => decide (i.natAbs < 10 ^ 59)
  | .str x => PyData.strOk x
  | .tup l => D.szL l
  | .lst l => D.szL l
  | .kt l => D.szL l
  | _ => false
def D.szL : List D → Bool
  | [] => true
  | d :: r => D.sz d && D.szL r
end
/-- no list, no tuple: an empty dict may be -/
def D.z1 : D → Bool
  | .non => true
  | .bl _ => true
  | .int i => decide (i.natAbs < 10 ^ 59)
  | .str x => PyData.strOk x
  | .dk [] [] => true
  | _ => false
/-! ### a tuple of scalars and empty dicts -/
inductive Dz1 (H : Hp) : V → PyData → Prop
  | non : Dz1 H .non .none
  | bl (b : Bool) : Dz1 H (.bl b) (.bool b)
  | int (i : Int) : Dz1 H (.int i) (.int i)
  | str (x : Str) : Dz1 H (.str x) (.str x)
  | dk {a : Addr} : Rd H a (.dK []) → Dz1 H (.ref a) (.dict [])
inductive Dz1L (H : Hp) : List V → List PyData → Prop
  | nil : Dz1L H [] []
  | cons {v : V} {vs : List V} {d : PyData} {ds : List PyData} : Dz1 H v d → Dz1L H vs ds → Dz1L H (v :: vs) (d :: ds)
section
variable {X : Cx} {K : PySem.W.Frag} {F0 : FZ} {e : Expr} {p pos : Pos} {pins : List (Addr × Obj)} {σ : L2.St} {H : Hp} {s : Shared}
theorem rd_dict0 (I : Inv X pins σ H s) {a : Addr} (rd : Rd H a (.dK [])) : ∃ as, Reads s.heap (.ref a) (.dict []) as ∧ sysModules ∉ as := by
  obtain ⟨_, nm, xs, kv, dd⟩ := rd.ok I.hok
  cases kv
  obtain ⟨o, es, ep, ho, hx, hdat, _, hp, _⟩ := dd
  have he : es.toList = [] := by
    generalize es.toList = l at hp
    cases hp
    rfl
  refine ⟨a :: [] ++ [], Reads.dict ho hx.1 hdat (by rw [he]; exact .nil) (by rw [he]; exact .nil), fun hm => ?_⟩
  have : sysModules = a := by simpa using hm
  rw [this] at nm; simp at nm
theorem Dz1L.reads (I : Inv X pins σ H s) : ∀ {vs : List V} {ds : List PyData} {us : List Value}, Dz1L H vs ds → Vals vs us → ∃ as, ReadsAll s.heap us ds as ∧ sysModules ∉ as
  | _, _, _, .nil, r => by
    cases r
    exact ⟨_, ReadsAll.nil, by simp⟩
  | _, _, _, .cons h1 h2, r => by
    cases r with
    | cons r1 r2 =>
      obtain ⟨bs, q1, q2⟩ := Dz1L.reads I h2 r2
      cases h1 with
      | non => cases r1; exact ⟨_, ReadsAll.cons Reads.none q1, by simpa using q2⟩
      | bl b => cases r1; exact ⟨_, ReadsAll.cons (Reads.bool b) q1, by simpa using q2⟩
      | int i => obtain ⟨t, rfl⟩ := r1; exact ⟨_, ReadsAll.cons (Reads.int i t) q1, by simpa using q2⟩
      | str x => obtain ⟨t, rfl⟩ := r1; exact ⟨_, ReadsAll.cons (Reads.str x t) q1, by simpa using q2⟩
      | dk rd =>
        cases r1
        obtain ⟨as, a1, a2⟩ := rd_dict0 I rd
        exact ⟨_, ReadsAll.cons a1 q1, fun z => (List.mem_append.mp z).elim a2 q2⟩
end
end DL
namespace DL
open PySem PySem.Spec PyProof.Rows L2
section
variable {X : Cx} {K : PySem.W.Frag} {F0 : FZ}
/-! ### str of a whole number or None -/
end
end DL

set_option maxRecDepth 100000
set_option maxHeartbeats 2000000
namespace DL
open PySem PySem.Spec PyProof.Rows L2
/-! ### repr of a tuple whose items are small things without a dict, or empty dicts -/
inductive DmZ (K : PySem.W.Frag) (H : Hp) : V → PyData → Prop
  | dp {v : V} {x : PyData} : Dp K H v x → x.hasDict = false → DmZ K H v x
  | dk {a : Addr} : Rd H a (.dK []) → DmZ K H (.ref a) (.dict [])
inductive DmL (K : PySem.W.Frag) (H : Hp) : List V → List PyData → Prop
  | nil : DmL K H [] []
  | cons {v : V} {vs : List V} {d : PyData} {ds : List PyData} : DmZ K H v d → DmL K H vs ds → DmL K H (v :: vs) (d :: ds)
section
variable {X : Cx} {K : PySem.W.Frag} {F0 : FZ} {pins : List (Addr × Obj)} {σ : L2.St} {H : Hp} {s : Shared}
end
end DL

set_option maxRecDepth 100000
set_option maxHeartbeats 2000000
namespace DL
open PySem PySem.Spec PyProof.Rows L2
/-! ### a power, kept as a letter -/
section
variable {X : Cx} {K : PySem.W.Frag} {F0 : FZ} {a b : Expr} {ta tb : TE} {ta' tb' : DTE} {pos : Pos}
end
end DL

set_option maxRecDepth 100000
set_option maxHeartbeats 2000000
namespace DL
open PySem PySem.Spec PyProof.Rows L2
/-! ### d.setdefault(key, z), d a dict with tuple keys -/
section
variable {X : Cx} {K : PySem.W.Frag} {F0 : FZ}
end
section
variable {X : Cx} {F0 : FZ} {o e f : Expr} {to : TE} {to' : DTE} {ta : TA} {ta' : DTA} {apos cpos : Pos}
end
end DL

set_option maxRecDepth 100000
set_option maxHeartbeats 2000000
namespace DL
open PySem PySem.Spec PyProof.Rows L2
/-! ### repr of any small thing: scalars, tuples, lists, dicts with plain keys -/
def keyP : L2.Key → PyData
  | .inl i => .int i
  | .inr x => .str x
mutual
inductive DgZ (K : PySem.W.Frag) (H : Hp) : V → PyData → Prop
  | non : DgZ K H .non .none
  | bl (b : Bool) : DgZ K H (.bl b) (.bool b)
  | int (i : Int) : DgZ K H (.int i) (.int i)
  | str (x : Str) : DgZ K H (.str x) (.str x)
  | lst {a : Addr} {xs : List V} {ds : List PyData} : SqL K H a xs → DgL K H xs ds → DgZ K H (.ref a) (.list ds)
  | tup {a : Addr} {xs : List V} {ds : List PyData} : SqT K H a xs → DgL K H xs ds → DgZ K H (.ref a) (.tuple ds)
  | dk {a : Addr} {ps : List (L2.Key × V)} {kvs : List (PyData × PyData)} : Rd H a (.dK ps) → kvs.map (·.1) = ps.map (fun p => keyP p.1) → DgL K H (ps.map (·.2)) (kvs.map (·.2)) → DgZ K H (.ref a) (.dict kvs)
inductive DgL (K : PySem.W.Frag) (H : Hp) : List V → List PyData → Prop
  | nil : DgL K H [] []
  | cons {v : V} {vs : List V} {d : PyData} {ds : List PyData} : DgZ K H v d → DgL K H vs ds → DgL K H (v :: vs) (d :: ds)
end
section
variable {X : Cx} {K : PySem.W.Frag} {F0 : FZ} {pins : List (Addr × Obj)} {σ : L2.St} {H : Hp} {s : Shared}
def ShO (X : Cx) (s : Shared) (u : Value) (x : PyData) : Prop := ∃ as bs, Reads s.heap u x as ∧ ReadAtMost s.heap x.depth bs ∧ ReprK X.prog X.w bs s.heap x.depth u x.shown
def ShA (X : Cx) (s : Shared) (us : List Value) (ds : List PyData) : Prop := ∃ as bs, ReadsAll s.heap us ds as ∧ ReadAtMost s.heap (PyData.depthAll ds) bs ∧ ReprAllK X.prog X.w bs s.heap (PyData.depthAll ds) us (PyData.shownAll ds)
theorem ShO.flat {u : Value} {x : PyData} {as : List Addr} (rd : Reads s.heap u x as) (nd : x.hasDict = false) (hs : x.showable = true) (hz : x.shown.length ≤ sizeLine) : ShO X s u x := by
  obtain ⟨bs, h1, h2⟩ := ReprK.of_reads (prog := X.prog) (w := X.w) rd hs (fun z => by rw [nd] at z; cases z) hz
  exact ⟨as, bs, rd, h1, h2⟩
theorem ShA.nil : ShA X s [] [] := by
  refine ⟨_, [], ReadsAll.nil, (fun _ h => by cases h), ?_⟩
  rw [PyData.shownAll]
  exact .nil
theorem ShA.cons {u : Value} {x : PyData} {us : List Value} {ds : List PyData} (h : ShO X s u x) (t : ShA X s us ds) : ShA X s (u :: us) (x :: ds) := by
  obtain ⟨a1, b1, rd1, m1, k1⟩ := h
  obtain ⟨a2, b2, rd2, m2, k2⟩ := t
  have n1 : x.depth ≤ PyData.depthAll (x :: ds) := by rw [PyData.depthAll]; exact Nat.le_max_left _ _
  have n2 : PyData.depthAll ds ≤ PyData.depthAll (x :: ds) := by rw [PyData.depthAll]; exact Nat.le_max_right _ _
  refine ⟨_, b1 ++ b2, ReadsAll.cons rd1 rd2, (m1.mono n1).append (m2.mono n2), ?_⟩
  rw [PyData.shownAll]
  have q1 := (k1.more fun b hb => List.mem_append_left b2 hb).level_le n1
  have q2 := k2.more_le (fun b hb => List.mem_append_right b1 hb) n2
  exact .cons q1 q2
theorem keys_sh : ∀ {ps : List (L2.Key × V)} {vs : List (L2.Key × Value)} {es : List DictEntry}, KV ps vs → Pairs (mixKind X.prog X.w) es vs → PyData.showableAll (ps.map fun p => keyP p.1) = true → (∀ t ∈ PyData.shownAll (ps.map fun p => keyP p.1), t.length ≤ sizeLine) → ShA X s (es.map (·.key)) (ps.map fun p => keyP p.1)
  | _, _, _, .nil, .nil, _, _ => ShA.nil
  | _, _, _, .cons (a := p) hp tp, .cons hk _ tk, hs, hz => by
    rw [List.map_cons, PyData.showableAll, Bool.and_eq_true] at hs
    rw [List.map_cons, PyData.shownAll] at hz
    refine ShA.cons ?_ (keys_sh tp tk hs.2 fun t ht => hz t (List.mem_cons_of_mem _ ht))
    have z := hz _ List.mem_cons_self
    have hk2 : keyIs _ _ = true := hk
    rw [← hp.1] at hk2
    rcases keyIs_shape hk2 with ⟨i, t, e1, e2⟩ | ⟨x, t, e1, e2⟩
    · have h1 := hs.1
      dsimp only
      rw [e1] at h1 z ⊢
      rw [e2]
      exact ShO.flat (Reads.int i t) rfl h1 z
    · have h1 := hs.1
      dsimp only
      rw [e1] at h1 z ⊢
      rw [e2]
      exact ShO.flat (Reads.str x t) rfl h1 z
theorem vals_kv : ∀ {ps : List (L2.Key × V)} {vs : List (L2.Key × Value)} {es : List DictEntry}, KV ps vs → Pairs (mixKind X.prog X.w) es vs → Vals (ps.map (·.2)) (es.map (·.val))
  | _, _, _, .nil, .nil => .nil
  | _, _, _, .cons hp tp, .cons _ hv tk => .cons (by dsimp only; rw [hv]; exact hp.2) (vals_kv tp tk)
mutual
theorem DgZ.sh (I : Inv X pins σ H s) : ∀ {v : V} {x : PyData} {u : Value}, DgZ X.K H v x → RelV v u → x.showable = true → x.shown.length ≤ sizeLine → ShO X s u x
  | _, _, _, .non, r, hs, hz => by cases r; exact ShO.flat Reads.none rfl hs hz
  | _, _, _, .bl b, r, hs, hz => by cases r; exact ShO.flat (Reads.bool b) rfl hs hz
  | _, _, _, .int i, r, hs, hz => by obtain ⟨t, rfl⟩ := r; exact ShO.flat (Reads.int i t) rfl hs hz
  | _, _, _, .str x, r, hs, hz => by obtain ⟨t, rfl⟩ := r; exact ShO.flat (Reads.str x t) rfl hs hz
  | _, _, _, .lst (ds := ds) hl ha, r, hs, hz => by
    cases r
    obtain ⟨its, rv, ⟨o, n, ho, hc, _, hd⟩, _⟩ := I.list hl
    have z2 : (listText (PyData.shownAll ds)).length ≤ sizeLine := by rw [PyData.shown] at hz; exact hz
    obtain ⟨as, bs, ra, hb, hk⟩ := DgL.sh I ha rv (by rw [PyData.showable] at hs; exact hs) fun t ht => Nat.le_trans (listText_mem_le ht) z2
    have rr := Reads.list ho hc hd ra
    have dp : (PyData.list ds).depth = PyData.depthAll ds + 1 := by simp only [PyData.depth]
    refine ⟨_, _ :: bs, rr, ReadAtMost.cons rr (by omega) hb, ?_⟩
    rw [dp, PyData.shown]
    cases its with
    | nil =>
      have e := ra
      cases e
      rw [PyData.shownAll, listText_nil]
      exact .listEmpty ho hc hd
    | cons y l => exact .list ho hc hd (not_mem_of_deeper rr (by omega) hb) (by have := hk.length_eq; simpa using this) (fun i y e => hk.item i y (by simpa using e))
  | _, _, _, .tup (ds := ds) hl ha, r, hs, hz => by
    cases r
    obtain ⟨its, rv, ⟨o, ho, hc, n, hd⟩, _⟩ := I.tuple hl
    have z2 : (tupleText (PyData.shownAll ds)).length ≤ sizeLine := by rw [PyData.shown] at hz; exact hz
    obtain ⟨as, bs, ra, hb, hk⟩ := DgL.sh I ha rv (by rw [PyData.showable] at hs; exact hs) fun t ht => Nat.le_trans (tupleText_mem_le ht) z2
    have rr := Reads.tuple ho hc hd ra
    have dp : (PyData.tuple ds).depth = PyData.depthAll ds + 1 := by simp only [PyData.depth]
    refine ⟨_, _ :: bs, rr, ReadAtMost.cons rr (by omega) hb, ?_⟩
    rw [dp, PyData.shown]
    exact .tuple ho hc hd (not_mem_of_deeper rr (by omega) hb) hk
  | _, _, _, .dk (a := a) (ps := ps) (kvs := kvs) hr hkeys ha, r, hs, hz => by
    cases r
    obtain ⟨_, nm, xs, kv, o, es, ep, ho, hx, hdat, _, hp, _⟩ := hr.ok I.hok
    have z2 : (dictText (PyData.shownKv kvs)).length ≤ sizeLine := by rw [PyData.shown] at hz; exact hz
    obtain ⟨s1, s2⟩ := PyData.showableKv_split kvs (by rw [PyData.showable] at hs; exact hs)
    have z3 := fun t ht => let ⟨p, hp, le⟩ := PyData.shownKv_key_le kvs t ht; Nat.le_trans le (Nat.le_trans (dictText_mem_le hp) z2)
    have z4 := fun t ht => let ⟨p, hp, le⟩ := PyData.shownKv_val_le kvs t ht; Nat.le_trans le (Nat.le_trans (dictText_mem_le hp) z2)
    have kk : ShA X s (es.toList.map (·.key)) (kvs.map (·.1)) := by
      rw [hkeys] at s1 z3 ⊢
      exact keys_sh kv hp s1 z3
    obtain ⟨a1, b1, r1, m1, k1⟩ := kk
    obtain ⟨a2, b2, r2, m2, k2⟩ := DgL.sh I ha (vals_kv kv hp) s2 z4
    have rr : Reads s.heap (.ref a) (.dict kvs) _ := Reads.dict ho hx.1 hdat r1 r2
    have n1 := PyData.depthAll_keys_le kvs
    have n2 := PyData.depthAll_vals_le kvs
    have dp : (PyData.dict kvs).depth = PyData.depthKv kvs + 1 := by simp only [PyData.depth]
    have mm := (m1.mono n1).append (m2.mono n2)
    refine ⟨_, a :: (b1 ++ b2), rr, ReadAtMost.cons rr (by omega) mm, ?_⟩
    rw [dp, PyData.shown, PyData.shownKv_eq]
    have q1 := k1.more_le (fun b hb => List.mem_append_left b2 hb) n1
    have q2 := k2.more_le (fun b hb => List.mem_append_right b1 hb) n2
    exact .dict ho hx.1 hdat nm (not_mem_of_deeper rr (by omega) mm) (ReprEntriesK.of_two _ _ _ q1 q2)
theorem DgL.sh (I : Inv X pins σ H s) : ∀ {vs : List V} {ds : List PyData} {us : List Value}, DgL X.K H vs ds → Vals vs us → PyData.showableAll ds = true → (∀ t ∈ PyData.shownAll ds, t.length ≤ sizeLine) → ShA X s us ds
  | _, _, _, .nil, r, _, _ => by cases r; exact ShA.nil
  | _, _, _, .cons (d := d) (ds := ds) h1 h2, r, hs, hz => by
    cases r with
    | cons r1 r2 =>
      rw [PyData.showableAll, Bool.and_eq_true] at hs
      rw [PyData.shownAll] at hz
      exact ShA.cons (DgZ.sh I h1 r1 hs.1 (hz _ List.mem_cons_self)) (DgL.sh I h2 r2 hs.2 fun t ht => hz t (List.mem_cons_of_mem _ ht))
end
end
/-! ### as data -/
mutual
def D.gp : D → PyData
  | .non => .none
  | .bl b => .bool b
  | .int i => .int i
  | .str x => .str x
  | .tup l => .tuple (D.gpL l)
  | .lst l => .list (D.gpL l)
  | .dk ks l => .dict ((ks.map keyP).zip (D.gpL l))
  | _ => .none
def D.gpL : List D → List PyData
  | [] => []
  | d :: r => D.gp d :: D.gpL r
end
section
variable {K : PySem.W.Frag} {H : Hp}
end
end DL

set_option maxRecDepth 100000
set_option maxHeartbeats 2000000
namespace DL
open PySem PySem.Spec PyProof.Rows L2
/-! ### repr of any small thing, as a rule -/
section
variable {X : Cx} {K : PySem.W.Frag} {F0 : FZ} {pins : List (Addr × Obj)} {σ : L2.St} {H : Hp} {s : Shared}
end
end DL

set_option maxRecDepth 100000
set_option maxHeartbeats 4000000
namespace DL
open PySem PySem.Spec PyProof.Rows L2
/-! ### own methods, called on instances -/
section
variable {K : PySem.W.Frag} {F : FZ}
end
/-- a method as called on an instance -/
structure DMt (P : Program) (w : World) (K : PySem.W.Frag) (mg : Str → Option Value) (base : Heap) (CX : CXT) (k : Nat) (C : Addr) (m : Str) (sp : DSp) : Prop where
  ex : ∃ (g : Addr) (fd : FuncData) (ps : List Str), FnOk P w K mg base CX k g fd ps (liftSp K sp) ∧ Meth K C m g ∧ L2.Binds K fd ps []
section
variable {X : Cx} {F0 : FZ} {e o : Expr} {es : List Expr} {to : TE} {to' : DTE} {t : TA} {t' : DTA} {m : Str} {pos apos : Pos} {C : Addr} {CX : CXT}
end
end DL

set_option maxRecDepth 100000
set_option maxHeartbeats 4000000
/-! ### a, *b = a list; *a, b = a list -/
namespace L2
open PySem PySem.Spec PySem.Calls PyProof.Rows
section
variable {prog : Program} {w : World} {A : Around} {E : Value → Shared → Prop} {s : Shared}
end
section
variable {X : Cx} {pos : Pos}
end
end L2
namespace DL
open PySem PySem.Spec PyProof.Rows L2
section
variable {X : Cx} {F0 : FZ} {pos : Pos}
end
end DL

set_option maxRecDepth 100000
set_option maxHeartbeats 4000000
namespace DL
open PySem PySem.Spec PyProof.Rows L2
/-! ### texts: split, join, int(text), f-strings; defs as values -/
section
variable {X : Cx} {K : PySem.W.Frag} {F0 : FZ} {o e : Expr} {es : List Expr} {to te : TE} {to' te' : DTE} {apos pos p : Pos} {t : TA} {t' : DTA}
/-! f-strings -/
abbrev DTJ := G → Mp → Str → (Str → Mp → Prop) → Prop
structure DJs (X : Cx) (F0 : FZ) (es : List Expr) (ts : List TE) (r' : DTJ) : Prop where
  pj : PJ X es ts
  le : ∀ (F : FZ) (γ : G) (M : Mp) (σ : L2.St) (H : Hp) (acc : Str) (Q' : Str → Mp → Prop) (Q : Str → Hp → Prop), Bs F0 F → SR X.K F M H → GR X.K F γ σ → r' γ M acc Q' → (∀ F1 out M1 H1, FLe F F1 → SR X.K F1 M1 H1 → Q' out M1 → Q out H1) → tJs ts acc σ H Q
/-! a def that a name holds -/
structure DCalA (P : Program) (w : World) (K : PySem.W.Frag) (mg : Str → Option Value) (base : Heap) (CX : CXT) (k : Nat) (f : Addr) (sp : DSp) : Prop where
  ex : ∃ (fd : FuncData) (ps : List Str), FnOk P w K mg base CX k f fd ps (liftSp K sp) ∧ PySem.W.keepIn K (.ref f) = true ∧ L2.Binds K fd ps []
end
end DL

set_option maxRecDepth 100000
set_option maxHeartbeats 1000000
namespace DL
open PySem
/-! ### written numbers -/
/-! ### texts that a sign parts -/
end DL

set_option maxRecDepth 100000
set_option maxHeartbeats 4000000
namespace DL
open PySem PySem.Spec PyProof.Rows L2
/-! ### list.insert -/
section
variable {X : Cx} {K : PySem.W.Frag} {F0 : FZ} {o e e2 : Expr} {to : TE} {to' : DTE} {ta : TA} {ta' : DTA} {apos cpos : Pos}
def rInsert : V → List V → Hp → VK → Prop := fun x vs H Q => ∃ (l : Addr) (xs : List V) (i : Int) (y : V), x = .ref l ∧ vs = [.int i, y] ∧ H l = some (.lst xs) ∧ xs.length < sizeLine ∧ 0 ≤ i ∧ i < 2 ^ 63 ∧
    Q .non (upd H l (.lst (xs.take i.toNat ++ [y] ++ xs.drop i.toNat)))
def dInsert : DRM := fun x ds M Q => match x, ds with
  | .ref p, [.int i, d] => (match M p with
    | some (.lst l) => l.length < sizeLine ∧ 0 ≤ i ∧ i < 2 ^ 62 ∧ Q .non (mset M p (.lst (l.take i.toNat ++ [d] ++ l.drop i.toNat)))
    | _ => False)
  | _, _ => False
theorem lm_insert : LM K F0 dInsert rInsert := by
  intro F M H o x ds vs Q' Q e0 s r rs q k
  unfold dInsert at q
  split at q
  · rename_i p i d
    split at q
    · rename_i l hm
      obtain ⟨hl, i0, i1, q⟩ := q
      obtain ⟨u, h1, h2⟩ := s.mu p _ hm
      cases h2 with
      | lst b z =>
        rename_i xs
        cases r
        cases rs with
        | cons r1 r2 =>
          cases r2 with
          | cons r3 r4 =>
            cases r4
            cases r1
            rw [b.length] at hl
            refine ⟨p, xs, i, _, rfl, rfl, h1, hl, i0, by omega, k F _ _ _ _ (FLe.refl F) (s.putM hm (.lst (((b.take _).append (.cons r3 .nil)).append (b.drop _)) ?_)) .non q⟩
            simp only [List.length_append, List.length_take, List.length_drop, List.length_cons, List.length_nil]
            omega
    · exact q.elim
  · exact q.elim
theorem de_insert (ho : DE X F0 o to to') (ha : DA X F0 [e, e2] ta ta') (hbase : attributeBase o "insert" X.env (eval o X.env) = eval o X.env := by rfl)
    (hfew : ((backTo cpos (starEach [e, e2] X.env)).all (fun x => !x.1) && (backToKw cpos (keywordEach [] X.env)).all (fun x => x.1.isSome) && decide ([e, e2].length + ([] : List Keyword).length + (if ([] : List Keyword).isEmpty then 0 else 1) < 30)) = true := by rfl)
    (hline : (apos.endLine == cpos.line) = true := by rfl) (hs : starEach [e, e2] X.env = (false, eval e X.env) :: starEach [e2] X.env := by rfl) (hpl : (backTo cpos (starEach [e2] X.env)).any (·.1) = false := by rfl) : DE X F0 (.Call (.Attribute o "insert" apos) [e, e2] [] cpos) (tBM X.K "list" rInsert to ta) (dBM "list" dInsert to' ta') :=
  de_bm PySem.F.plainAttrs_list PySem.F.slot_list_insert PySem.F.type_list_insert mt_insert lm_insert ho ha (by decide) hbase hfew hline hs hpl
end
end DL

set_option maxRecDepth 100000
set_option maxHeartbeats 4000000
/-! ### tuples whose objects are known -/
namespace L2
open PySem PySem.Spec PyProof.Rows HT
section
variable {X : Cx}
end
end L2
namespace DL
open PySem PySem.Spec PyProof.Rows L2
section
variable {X : Cx} {K : PySem.W.Frag} {F0 : FZ} {a b o e : Expr} {es : List Expr} {ta tb te to : TE} {ta' tb' te' to' : DTE} {t : TA} {t' : DTA} {pos apos cpos : Pos}
end
end DL
namespace L2
open PySem PySem.Spec PyProof.Rows HT
section
variable {X : Cx} {e : Expr} {te : TE} {k : Nat} {p1 p2 p3 pos : Pos}
end
end L2
namespace DL
open PySem PySem.Spec PyProof.Rows L2
section
variable {X : Cx} {F0 : FZ} {e : Expr} {te : TE} {te' : DTE} {k : Nat} {p1 p2 p3 pos : Pos}
end
end DL

set_option maxRecDepth 100000
set_option maxHeartbeats 2000000
namespace DL
open PySem PySem.Spec PyProof.Rows L2 HotX

/-! ### walks and unpackings while an error is handled -/
section
variable {prog : Program} {w : World} {A : Around} {E : Value → Shared → Prop} {s : Shared}
end
section
variable {X : Cx} {pos : Pos}
end
/-! ### lists and tuples walked there -/
end DL

set_option maxRecDepth 100000
set_option maxHeartbeats 2000000
namespace DL
open PySem PySem.Spec PyProof.Rows L2 HotX

/-! ### a list comprehension while an error is handled -/
/-- the block's context: it bears the pins of the code around it -/
abbrev blkH (X : Cx) (s : Shared) (H : Hp) (scope : Scope) (cenv : Env) (fp : List Addr) : Cx := { X with s_0 := s, H_0 := H, env := cenv, outer := X.stack, ex := fp, fn := fun x => scope.names.lookup x == some .cell, xe := fun _ _ => False }
section
variable {X : Cx} {pins : List (Addr × Obj)} {σ : L2.St} {H : Hp} {s : Shared}
end
section
variable {X : Cx}
end
/-! ### as data -/
abbrev BlkH (X : Cx) (scope : Scope) (p : Cx → Prop) : Prop := ∀ (s : Shared) (H : Hp) (C : Addr) (cl : List (Str × Addr)) (fp : List Addr), p (blkH X s H scope (compEnvC scope cl C X.env) fp)
structure DIH (X : Cx) (F0 : FZ) (tg iter : Expr) (wi : TI) (wi' : DTI) : Prop where
  pi : L2H.PIH X tg iter wi
  le : LI X.K F0 wi' wi
section
variable {X : Cx} {F0 : FZ} {e tg elt iter : Expr} {te : TE} {te' : DTE} {ifs : List Expr} {scope : Scope} {own : List (Str × Nat)} {pos : Pos} {wi : TI} {wi' : DTI} {g' : DTG} {tt' : DTT}
end
end DL

set_option maxRecDepth 100000
set_option maxHeartbeats 2000000
namespace DL
open PySem PySem.Spec PyProof.Rows L2 HotX

/-! ### a def that is called in an except suite, with the error -/
/-- a: the error that is handled; Dc: its class; it has no fields -/
structure HotE (K : PySem.W.Frag) (A : Around) (a Dc : Addr) (oe : Obj) : Prop where
  hx : ExcC K Dc
  hz : L2N.Zn (.ref Dc) none oe
  hf : ∃ vs, oe.data = .fields vs
  hh : A.handled = some (.ref a)
abbrev HSp := Addr → Addr → DSp
def HtOk (P : Program) (w : World) (K : PySem.W.Frag) (mg : Str → Option Value) (base : Heap) (k : Nat) (f : Addr) (fd : FuncData) (ps : List Str) (sp : Addr → Addr → Sp) : Prop :=
  ∀ (A : Around) (outer : List Env) (s : Shared) (H : Hp) (args : Args) (us : List Value) (vs : List V) (Q : VK) (E : XK) (a Dc : Addr) (oe : Obj), HotE K A a Dc oe → L2H.RoomH k A → L2H.PinOk outer H s (a, oe) → Env0 P w K mg base A outer s H → BindsTo s fd args (ps.zip us) → Vals vs us → sp a Dc vs H Q E →
    codeAny (model P w) A (.call (.ref f) args) (CR CX0 outer P w H s Q E) s
theorem HtOk.mono {P : Program} {w : World} {K : PySem.W.Frag} {mg : Str → Option Value} {base : Heap} {j k : Nat} {f : Addr} {fd : FuncData} {ps : List Str} {sp : Addr → Addr → Sp} (h : HtOk P w K mg base k f fd ps sp) (hk : k ≤ j) : HtOk P w K mg base j f fd ps sp := fun A outer s H args us vs Q E a Dc oe he hr => h A outer s H args us vs Q E a Dc oe he (hr.mono hk)
section
variable {P : Program} {w : World} {K : PySem.W.Frag} {mg : Str → Option Value} {base : Heap}
end
section
variable {X : Cx} {F0 : FZ} {k j : Nat} {f : Addr} {fd : FuncData} {ps : List Str} {x : Str} {p pos : Pos} {e : Expr} {es : List Expr}
/-- such a def as called -/
structure DCalH (P : Program) (w : World) (K : PySem.W.Frag) (mg : Str → Option Value) (base : Heap) (k : Nat) (x : Str) (sp : HSp) : Prop where
  ex : ∃ (f : Addr) (fd : FuncData) (ps : List Str), HtOk P w K mg base k f fd ps (fun a Dc => liftSp K (sp a Dc)) ∧ (∀ a Dc ds M Q E, sp a Dc ds M Q E → ds.length = ps.length) ∧ mg x = some (.ref f) ∧ PySem.W.keepIn K (.ref f) = true ∧ L2.Binds K fd ps []
end
section
variable {P : Program} {w : World} {K : PySem.W.Frag} {mg : Str → Option Value} {base : Heap}
end
/-! ### what stands in such a body -/
section
variable {X : Cx} {F0 : FZ}
end
end DL

set_option maxRecDepth 100000
set_option maxHeartbeats 4000000
namespace DL
open PySem PySem.Spec PyProof.Rows L2
/-! ### own methods that may raise, within a try or a def that raises -/
section
variable {X : Cx} {F0 : FZ} {e o : Expr} {es : List Expr} {to : TE} {to' : DTE} {t : TA} {t' : DTA} {m : Str} {pos apos : Pos} {C : Addr}
end
end DL

set_option maxRecDepth 100000
set_option maxHeartbeats 4000000
namespace DL
open PySem PySem.Spec PyProof.Rows L2
/-! ### == and != in an except suite -/
section
variable {X : Cx} {F0 : FZ} {a b : Expr} {ta tb : TE} {ta' tb' : DTE} {pos : Pos}
end
end DL

set_option maxRecDepth 100000
set_option maxHeartbeats 2000000
namespace DL
open PySem PySem.Spec PyProof.Rows L2
/-! ### the program's top by one run in the kernel, the facts read off the heap -/
/-- a def: where it stands, its names, parameters, body, scope -/
structure HdFn where
  adr : PySem.W.Frag → Addr
  name : Str
  qual : Str
  params : Arguments
  body : List Stmt
  scope : Scope
def HdFn.val (d : HdFn) : He.FnV := some (d.name, d.qual, d.params, .stmts d.body, d.scope, mainGlobals, [], .none, builtinsNs)
def HdFn.code (K : PySem.W.Frag) (d : HdFn) : Bool := match K.lookup (d.adr K) with
  | some ⟨_, _, .func fd, _⟩ => PySem.W.codeIn K fd.code d.qual
  | _ => false
/-! ### what the facts name -/
/-! ### the hook -/
abbrev HAl : Type := Bool × List He.FnV
section
variable {bs : PySem.W.Frag → List Bool} {fs : List HdFn} {K : PySem.W.Frag}
end
/-! ### the ends -/
end DL

set_option maxRecDepth 100000
set_option maxHeartbeats 2000000
namespace DL
open PySem PySem.Spec PyProof.Rows L2
/-! ### the facts told in parts, the top run for each -/
end DL

set_option maxRecDepth 100000
set_option maxHeartbeats 2000000
namespace DL
open PySem PySem.Spec PyProof.Rows L2
/-! ### one of two readings -/
section
variable {X : Cx} {F0 : FZ} {e : Expr} {st : Stmt} {t1 t2 : TE} {t1' t2' : DTE} {u1 u2 : TS} {u1' u2' : DTS}
end
end DL

set_option maxRecDepth 100000
set_option maxHeartbeats 4000000
namespace DL
open PySem PySem.Spec PyProof.Rows L2
/-! ### dict(zip(t, u)) of two tuples, the keys tuples -/
section
variable {prog : Program} {w : World} {A : Around} {E : Value → Shared → Prop} {s : Shared}
end
section
variable {prog : Program} {w : World}
end
end DL

set_option maxRecDepth 100000
set_option maxHeartbeats 4000000
namespace DL
open PySem PySem.Spec PyProof.Rows L2
/-! ### dict(zip(t, u)): the rule -/
section
variable {X : Cx} {F0 : FZ} {e e2 : Expr} {ta : TA} {ta' : DTA} {p p2 pos pos2 : Pos}
end
def tupOf : D → Option (List D)
  | .tup l => some l
  | .kt l => some l
  | _ => none
section
variable {X : Cx} {F0 : FZ} {e e2 : Expr} {ta : TA} {ta' : DTA} {p p2 pos pos2 : Pos} {j : Nat}
end
end DL

set_option maxRecDepth 100000
set_option maxHeartbeats 4000000
namespace DL
open PySem PySem.Spec PyProof.Rows L2
/-! ### zip of a tuple and a list -/
section
variable {prog : Program} {w : World} {A : Around} {E : Value → Shared → Prop} {s : Shared}
/-- a turn of zip whose sides are a tuple and a list -/
theorem mz_next {z ti tu p q a b : Addr} {c0 e0 : Value} {k : Nat} {xs ys : Array Value} {Q : Option Value → Shared → Prop} (nh : A.handled = none) (ap : ZipApart z ti tu p q a b)
    (zz : IsZip s.heap z ti tu .none) (pp : IsPair s.heap ti (.ref p) (.ref q)) (oo : IsPair s.heap tu c0 e0) (ip : s.heap.IsTupleIter p a k) (iq : s.heap.IsListIter q b k) (ta : s.heap.IsTuple a xs) (tb : s.heap.IsList b ys) (len : xs.size = ys.size)
    (yes : ∀ (x y : Value) (h' : Heap), xs[k]? = some x → ys[k]? = some y → IsZip h' z ti tu (rawInt s.heap.objs.size) → IsPair h' tu x y → h'.IsTupleIter p a (k + 1) → h'.IsListIter q b (k + 1) → IsPair h' s.heap.objs.size x y → h'.objs.size = s.heap.objs.size + 1 →
      (∀ c o, c ≠ z → c ≠ tu → c ≠ p → c ≠ q → s.heap.get? c = some o → h'.get? c = some o) → Q (some (.ref s.heap.objs.size)) { s with heap := h' })
    (no : xs[k]? = none → ∀ h' : Heap, (∀ c o, c ≠ z → c ≠ tu → c ≠ p → c ≠ q → s.heap.get? c = some o → h'.get? c = some o) → Q none { s with heap := h' }) :
    wpAny (model prog w) A (pyNext (Value.ref z)) Q E s := by
  have ty : s.TypeIs (.ref z) "zip" := ⟨_, zz, rfl⟩
  unfold pyNext
  refine wpAny_bind (wpAny_attempt (wpAny_callSpecial?_slot (name := Str.ofString "__next__") ty F.slot_zip_next (wpAny_call_entry F.slot_zip_next ty F.entry_zip_next ?_ (F.args_zip_next_1 _))))
  show wpAny _ A.in1 (field (Value.ref z) 2 >>= _) _ _ s
  apply wpAny_bind
  refine wpAny_field zz rfl (x := .bool false) rfl ?_
  show wpAny _ A.in1 (field (Value.ref z) 3 >>= _) _ _ s
  apply wpAny_bind
  refine wpAny_field zz rfl (x := .ref ti) rfl ?_
  apply wpAny_bind
  refine wpAny_seqItems pp rfl ?_
  show wpAny _ A.in1 (Builtin.SmallTypes.ownedTupleIsFree (Value.ref z) >>= _) _ _ s
  apply wpAny_bind
  unfold Builtin.SmallTypes.ownedTupleIsFree
  apply wpAny_bind
  refine wpAny_field zz rfl (x := Value.none) rfl ?_
  apply wpAny_pure
  simp only [if_true]
  apply wpAny_bind
  apply wpAny_rule
  apply wpAny_bind
  refine wpAny_field zz rfl (x := .ref tu) rfl ?_
  apply wpAny_bind
  refine wpAny_setField_rec zz (by simp) fun g1 z1 b1 => ?_
  replace z1 : IsZip g1 z ti tu .ellipsis := z1
  apply wpAny_bind
  simp only [List.forIn_cons, List.zipIdx_cons, List.forIn_nil, List.zipIdx_nil]
  apply wpAny_bind
  apply wpAny_bind
  apply wpAny_onRaise
  show wpAny _ _ (Builtin.SmallTypes.nextOf (Value.ref p) >>= _) _ _ _
  apply wpAny_bind
  have ip1 := ip.extBut b1.extBut ap.i1z
  have ta1 := ta.extBut b1.extBut ap.l1z
  cases ex : xs[k]? with
  | none =>
    refine RZ.nextOf_tuple_end nh ip1 ta1 ex fun g2 e b2 hE => ?_
    obtain ⟨oe, he, hc⟩ := hE
    have z2 : IsZip g2 z ti tu .ellipsis := b2 _ _ ap.i1z.symm z1
    have ne : e ≠ z := fun r => by rw [r, z2] at he; cases he; simp at hc
    refine wpAny_setField_rec z2 (by simp) fun g3 _ b3 => ?_
    refine wpAny_bind (wpAny_isInstance (T := "StopIteration") (b := true) ⟨oe, b3.extBut _ _ ne he, hc⟩ isSubtype_stop ?_)
    exact wpAny_pure (no ex _ fun c o c1 c2 c3 c4 g => b3.extBut _ _ c1 (b2 _ _ c3 (b1.extBut _ _ c1 g)))
  | some x =>
    obtain ⟨y, ey⟩ : ∃ y, ys[k]? = some y := ⟨_, Array.getElem?_eq_getElem (by have := (Array.getElem?_eq_some_iff.mp ex).1; omega)⟩
    refine RZ.nextOf_tuple_item ip1 ta1 ex fun g2 ip2 b2 => ?_
    apply wpAny_pure
    have oo2 : IsPair g2 tu c0 e0 := b2.extBut _ _ ap.TOi1 (b1.extBut _ _ ap.TOz oo)
    apply wpAny_bind
    refine wpAny_seqItems oo2 rfl ?_
    apply wpAny_bind
    refine wpAny_updateSeq_pair oo2 fun g3 oo3 b3 => ?_
    replace oo3 : IsPair g3 tu x e0 := oo3
    apply wpAny_bind
    refine wpAny_letGo (wpAny_pure ?_)
    apply wpAny_bind
    apply wpAny_bind
    apply wpAny_onRaise
    show wpAny _ _ (Builtin.SmallTypes.nextOf (Value.ref q) >>= _) _ _ _
    apply wpAny_bind
    refine wpAny_nextOf_list_item (((iq.extBut b1.extBut ap.i2z).extBut b2.extBut ap.i12.symm).extBut b3.extBut ap.TOi2.symm) (((tb.extBut b1.extBut ap.l2z).extBut b2.extBut ap.l2i1).extBut b3.extBut ap.l2TO) ey fun g4 iq4 b4 => ?_
    apply wpAny_pure
    have oo4 : IsPair g4 tu x e0 := b4.extBut _ _ ap.TOi2 oo3
    apply wpAny_bind
    refine wpAny_seqItems oo4 rfl ?_
    apply wpAny_bind
    refine wpAny_updateSeq_pair oo4 fun g5 oo5 b5 => ?_
    replace oo5 : IsPair g5 tu x y := oo5
    apply wpAny_bind
    refine wpAny_letGo (wpAny_pure (wpAny_pure ?_))
    apply wpAny_bind
    refine wpAny_seqItems oo5 rfl ?_
    apply wpAny_bind
    refine wpAny_newTuple ?_
    have sz : g5.objs.size = s.heap.objs.size := by rw [b5.1, b4.1, b3.1, b2.1, b1.1]
    have zz5 : IsZip g5 z ti tu .ellipsis := b5.extBut _ _ ap.TOz.symm (b4.extBut _ _ ap.i2z.symm (b3.extBut _ _ ap.TOz.symm (b2.extBut _ _ ap.i1z.symm z1)))
    have fr : ∀ c o, c ≠ z → c ≠ tu → c ≠ p → c ≠ q → s.heap.get? c = some o → g5.get? c = some o := fun c o c1 c2 c3 c4 g => b5.extBut _ _ c2 (b4.extBut _ _ c4 (b3.extBut _ _ c2 (b2.extBut _ _ c3 (b1.extBut _ _ c1 g))))
    have ip5 : g5.IsTupleIter p a (k + 1) := ((ip2.extBut b3.extBut ap.TOi1.symm).extBut b4.extBut ap.i12).extBut b5.extBut ap.TOi1.symm
    have iq5 : g5.IsListIter q b (k + 1) := iq4.extBut b5.extBut ap.TOi2.symm
    have zl : z < g5.objs.size := Heap.lt_size zz5
    show wpAny _ _ (Builtin.SmallTypes.ownedTupleHandOut (Value.ref z) (Value.ref g5.objs.size) >>= _) _ _ _
    apply wpAny_bind
    unfold Builtin.SmallTypes.ownedTupleHandOut
    have zz6 : IsZip (g5.push { cls := .type "tuple", data := .seq #[x, y] }) z ti tu .ellipsis := Heap.get?_push_of_some _ zz5
    apply wpAny_bind
    refine wpAny_setField_rec zz6 (by simp) fun g7 z7 b7 => ?_
    replace z7 : IsZip g7 z ti tu (rawInt g5.objs.size) := z7
    refine wpAny_setField_rec z7 (by simp) fun g8 z8 b8 => ?_
    replace z8 : IsZip g8 z ti tu (rawInt g5.objs.size) := z8
    have up : ∀ c o, c ≠ z → g5.get? c = some o → g8.get? c = some o := fun c o c1 g => b8.extBut _ _ c1 (b7.extBut _ _ c1 (Heap.get?_push_of_some _ g))
    have pr : IsPair g8 g5.objs.size x y := b8.extBut _ _ (Nat.ne_of_gt zl) (b7.extBut _ _ (Nat.ne_of_gt zl) (Heap.get?_push_size _ rfl))
    have sz8 : g8.objs.size = g5.objs.size + 1 := by rw [b8.1, b7.1, Heap.size_push]
    rw [sz] at z8 pr sz8
    refine wpAny_pure ⟨_, rfl, wpAny_pure ?_⟩
    rw [sz]
    exact yes x y g8 ex ey z8 (up _ _ ap.TOz oo5) (ip5.at fun o g => up _ o ap.i1z g) (iq5.at fun o g => up _ o ap.i2z g) pr sz8 fun c o c1 c2 c3 c4 g => up c o c1 (fr c o c1 c2 c3 c4 g)
end
/-- the heaps behind each piece of zip(t, l) -/
abbrev mzA (g : Heap) (a : Addr) : Heap := g.push { cls := .type "tuple_iterator", data := .fields #[.ref a, .int 0 0] }
abbrev mzB (g : Heap) (a b : Addr) : Heap := (mzA g a).push { cls := .type "list_iterator", data := .fields #[.ref b, .int 0 0] }
abbrev mzC (g : Heap) (a b : Addr) : Heap := (mzB g a b).push { cls := .type "tuple", data := .seq #[.ref g.objs.size, .ref (mzA g a).objs.size] }
abbrev mzD (g : Heap) (a b : Addr) : Heap := (mzC g a b).push { cls := .type "tuple", data := .seq #[Value.none, Value.none] }
abbrev mzE (g : Heap) (a b : Addr) : Heap := (mzD g a b).push { cls := .type "zip", data := .fields #[Value.none, .bool false, .bool false, .ref (mzB g a b).objs.size, .ref (mzC g a b).objs.size] }
theorem mz_new (a b : Addr) (xs ys : Array Value) :
    Meets (Builtin.«zip.__new__» ⟨[.type "zip", .ref a, .ref b], []⟩) (fun _ R s => s.heap.IsTuple a xs ∧ s.heap.IsList b ys ∧ R (.ok (.ret (.ref (mzD s.heap a b).objs.size))) { s with heap := (mzE s.heap a b) }) :=
  .of_wp fun P w A R s hyp => by
    obtain ⟨hp, g, d, tk, os⟩ := s
    obtain ⟨ta, tb, hyp⟩ := hyp
    have hsub := sub_zip
    have one : Heap.IsTuple (Shared.heap ⟨hp, g, d, tk, os⟩) a xs := ta
    have two : Heap.IsList (Shared.heap ⟨hp.push { cls := .type "tuple_iterator", data := .fields #[.ref a, .int 0 0] }, g, d, tk, os⟩) b ys := Heap.IsList.push tb _
    wp_walk using wpAny_pyIter_tuple one, wpAny_pyIter_list two
    exact ⟨_, rfl, hyp⟩
section
variable {prog : Program} {w : World} {A : Around} {E : Value → Shared → Prop} {s : Shared}
theorem call_mz {a b : Addr} {xs ys : Array Value} {Q : Value → Shared → Prop} (ta : s.heap.IsTuple a xs) (tb : s.heap.IsList b ys)
    (k : ∀ h', IsZip h' (s.heap.objs.size + 4) (s.heap.objs.size + 2) (s.heap.objs.size + 3) .none → IsPair h' (s.heap.objs.size + 2) (.ref s.heap.objs.size) (.ref (s.heap.objs.size + 1)) → IsPair h' (s.heap.objs.size + 3) .none .none →
      h'.IsTupleIter s.heap.objs.size a 0 → h'.IsListIter (s.heap.objs.size + 1) b 0 → (∀ c o, s.heap.get? c = some o → h'.get? c = some o) → Q (.ref (s.heap.objs.size + 4)) { s with heap := h' }) :
    wpAny (model prog w) A (call (.type "zip") [.ref a, .ref b]) Q E s := by
  refine callType_new F.called_zip (by decide) (F.typeCall_zip_2 _ _) (F.newCall_zip_2 _ _) (fun o => F.args_object_init_3 o _ _) F.entry_zip_new (mz_new a b xs ys) ⟨ta, tb, ?_⟩
  have n1 : (mzA s.heap a).objs.size = s.heap.objs.size + 1 := Heap.size_push ..
  have n2 : (mzB s.heap a b).objs.size = s.heap.objs.size + 2 := (Heap.size_push ..).trans (by rw [n1])
  have n3 : (mzC s.heap a b).objs.size = s.heap.objs.size + 3 := (Heap.size_push ..).trans (by rw [n2])
  have n4 : (mzD s.heap a b).objs.size = s.heap.objs.size + 4 := (Heap.size_push ..).trans (by rw [n3])
  have u1 : ∀ c o, s.heap.get? c = some o → (mzA s.heap a).get? c = some o := fun c o g => Heap.get?_push_of_some _ g
  have u2 : ∀ c o, (mzA s.heap a).get? c = some o → (mzB s.heap a b).get? c = some o := fun c o g => Heap.get?_push_of_some _ g
  have u3 : ∀ c o, (mzB s.heap a b).get? c = some o → (mzC s.heap a b).get? c = some o := fun c o g => Heap.get?_push_of_some _ g
  have u4 : ∀ c o, (mzC s.heap a b).get? c = some o → (mzD s.heap a b).get? c = some o := fun c o g => Heap.get?_push_of_some _ g
  have u5 : ∀ c o, (mzD s.heap a b).get? c = some o → (mzE s.heap a b).get? c = some o := fun c o g => Heap.get?_push_of_some _ g
  have p1 : (mzE s.heap a b).get? s.heap.objs.size = some _ := u5 _ _ (u4 _ _ (u3 _ _ (u2 _ _ (Heap.get?_push_size _ rfl))))
  have p2 : (mzE s.heap a b).get? (mzA s.heap a).objs.size = some _ := u5 _ _ (u4 _ _ (u3 _ _ (Heap.get?_push_size _ rfl)))
  have p3 : (mzE s.heap a b).get? (mzB s.heap a b).objs.size = some _ := u5 _ _ (u4 _ _ (Heap.get?_push_size _ rfl))
  have p4 : (mzE s.heap a b).get? (mzC s.heap a b).objs.size = some _ := u5 _ _ (Heap.get?_push_size _ rfl)
  have p5 : (mzE s.heap a b).get? (mzD s.heap a b).objs.size = some _ := Heap.get?_push_size _ rfl
  show _ ∧ _
  rw [n2, n3, n4] at p5
  rw [n1, n2] at p3
  rw [n3] at p4
  rw [n1] at p2
  rw [n4]
  exact ⟨⟨_, p5, rfl⟩, k _ p5 p3 p4 ⟨_, p1, rfl, rfl⟩ ⟨_, p2, rfl, rfl⟩ fun c o g => u5 _ _ (u4 _ _ (u3 _ _ (u2 _ _ (u1 _ _ g))))⟩
end
/-- the tuple at a and the list at b as they stand at each turn, in new pairs -/
def ItM (K : PySem.W.Frag) (a b : Addr) : It where
  go := fun i H => ∃ (xs ys : List V) (x y : V), SqT K H a xs ∧ SqL K H b ys ∧ xs.length = ys.length ∧ xs[i]? = some x ∧ ys[i]? = some y
  yld := fun i H v H' => ∃ t x y, v = .ref t ∧ H t = none ∧ H' = upd H t (.tup [x, y]) ∧ (∀ xs, SqT K H a xs → xs[i]? = some x) ∧ ∀ ys, SqL K H b ys → ys[i]? = some y
  stop := fun i H => ∃ xs ys : List V, SqT K H a xs ∧ SqL K H b ys ∧ xs.length = ys.length ∧ xs.length ≤ i
theorem turn_mz {P : Program} {w : World} {K : PySem.W.Frag} {elts : List Expr} {kk : Nat} {tpos : Pos} {a b z ti tu p q : Addr} (ap : ZipApart z ti tu p q a b) :
    Turn P w K (.Tuple elts kk tpos) (ItM K a b) [z, ti, tu, p, q] z (fun i g => IsZip g z ti tu .none ∧ IsPair g ti (.ref p) (.ref q) ∧ (∃ c e, IsPair g tu c e) ∧ g.IsTupleIter p a i ∧ g.IsListIter q b i) where
  mem := List.mem_cons_self
  obj := fun i g ⟨o1, o2, ⟨c, e, o3⟩, ⟨v4, o4, _, d4⟩, ⟨v5, o5, _, d5⟩⟩ x hx => by
    have : x = z ∨ x = ti ∨ x = tu ∨ x = p ∨ x = q := by simpa using hx
    rcases this with r | r | r | r | r <;> rw [r]
    · exact ⟨_, o1, fun v e => nomatch e⟩
    · exact ⟨_, o2, fun v e => nomatch e⟩
    · exact ⟨_, o3, fun v e => nomatch e⟩
    · exact ⟨_, o4, fun v e => by rw [d4] at e; cases e⟩
    · exact ⟨_, o5, fun v e => by rw [d5] at e; cases e⟩
  keep := fun i g g' ⟨o1, o2, ⟨c, e, o3⟩, o4, o5⟩ kp => ⟨kp _ (by simp) _ o1, kp _ (by simp) _ o2, ⟨c, e, kp _ (by simp) _ o3⟩, o4.at fun o => kp _ (by simp) o, o5.at fun o => kp _ (by simp) o⟩
  item := by
    intro X eP ew eK hc i pins s σ H E I hf ⟨o1, o2, ⟨c, e, o3⟩, o4, o5⟩ ⟨xs, ys, x, y, qa, qb, hl, hx, hy⟩
    subst eP ew eK
    obtain ⟨ia, va, pa, _⟩ := I.tuple qa
    obtain ⟨ib, vb, pb, _⟩ := I.list qb
    obtain ⟨u, hu, ru⟩ := va.get hx
    obtain ⟨u2, hu2, ru2⟩ := vb.get hy
    have zl : z < s.heap.objs.size := Heap.lt_size o1
    have l1 := va.length
    have l2 := vb.length
    refine mz_next (I.ok.hd hc) ap o1 o2 o3 o4 o5 pa pb.isList (by simp; omega) (fun x1 y1 h' e1 e2 z1 t1 i1 i2 pr sz fr => ?_) (fun e1 => by simp at e1; have := (List.getElem?_eq_some_iff.mp hu).1; omega)
    have ex : u = x1 := by
      have : ia.toArray[i]? = some u := by simpa using hu
      rw [this] at e1; exact Option.some.inj e1
    have ey : u2 = y1 := by
      have : ib.toArray[i]? = some u2 := by simpa using hu2
      rw [this] at e2; exact Option.some.inj e2
    subst ex ey
    refine ⟨_, rfl, wpAny_letOwnedTupleGo_zip (s := { s with heap := h' }) z1 fun h2 z2 sb => ?_⟩
    have tp : h2.get? s.heap.objs.size = some { cls := .type "tuple", data := .seq #[u, u2] } := (sb.2 _ (Nat.ne_of_gt zl)).trans pr
    have ok : ObjOk X.prog X.w (upd H s.heap.objs.size (.tup [x, y])) h2 s.heap.objs.size (.tup [x, y]) := ⟨(show 2 ≤ sizeLine by decide), [u, u2], .cons ru (.cons ru2 .nil), ⟨_, tp, rfl, _, rfl⟩⟩
    have I1 : Inv X pins σ (upd H s.heap.objs.size (.tup [x, y])) { s with heap := h2 } :=
      I.turnedNew (t' := s.toks) (ch := [z, ti, tu, p, q]) (fun c o hb g => (sb.2 c fun r => hb (by simp [r])).trans (fr c o (fun r => hb (by simp [r])) (fun r => hb (by simp [r])) (fun r => hb (by simp [r])) (fun r => hb (by simp [r])) g)) hf (Nat.le_refl _) ok
    refine ⟨.ref s.heap.objs.size, _, I1, rfl, ⟨_, x, y, rfl, I.hok.fresh (Nat.le_refl _), rfl, fun l h => by rw [I.tuple_inj h qa]; exact hx, fun l h => by rw [I.list_inj h qb]; exact hy⟩, ⟨z2, ?_, ⟨u, u2, ?_⟩, ?_, ?_⟩, fun c hm => ?_⟩
    · exact (sb.2 _ ap.TIz).trans (fr _ _ ap.TIz ap.TITO ap.TIi1 ap.TIi2 o2)
    · exact (sb.2 _ ap.TOz).trans t1
    · exact i1.at fun o g => (sb.2 _ ap.i1z).trans g
    · exact i2.at fun o g => (sb.2 _ ap.i2z).trans g
    · have lt : c < s.heap.objs.size := by
        have : c = z ∨ c = ti ∨ c = tu ∨ c = p ∨ c = q := by simpa using hm
        rcases this with r | r | r | r | r <;> rw [r]
        · exact zl
        · exact Heap.lt_size o2
        · exact Heap.lt_size o3
        · obtain ⟨_, g, _⟩ := o4; exact Heap.lt_size g
        · obtain ⟨_, g, _⟩ := o5; exact Heap.lt_size g
      rw [upd_ne (Nat.ne_of_lt lt)]
      exact (hf c hm).1
  done := by
    intro X eP ew eK hc i pins s σ H E I hf ⟨o1, o2, ⟨c, e, o3⟩, o4, o5⟩ ⟨xs, ys, qa, qb, hl, hi⟩
    subst eP ew eK
    obtain ⟨ia, va, pa, _⟩ := I.tuple qa
    obtain ⟨ib, vb, pb, _⟩ := I.list qb
    have l1 := va.length
    have l2 := vb.length
    refine mz_next (I.ok.hd hc) ap o1 o2 o3 o4 o5 pa pb.isList (by simp; omega) (fun x1 y1 h' e1 => by have := (Array.getElem?_eq_some_iff.mp e1).1; simp at this; omega) fun _ h' fr => ⟨rfl, I.turnedL (t' := s.toks) (ch := [z, ti, tu, p, q]) (fun c o hb g => fr c o (fun r => hb (by simp [r])) (fun r => hb (by simp [r])) (fun r => hb (by simp [r])) (fun r => hb (by simp [r])) g) hf⟩
  self := fun _ _ _ _ _ st k => wpAny_pyIter_zip st.1 k
def iZipM (K : PySem.W.Frag) (ta : TA) : TI := fun σ H R => ta σ H fun vs H1 => ∃ a b xs ys, vs = [.ref a, .ref b] ∧ SqT K H1 a xs ∧ SqL K H1 b ys ∧ R (ItM K a b) H1
section
variable {X : Cx} {e e2 : Expr} {ta : TA} {p pos tpos : Pos} {elts : List Expr} {kk : Nat}
theorem pi_zipM (hg : Gl X "zip") (hm : X.mg "zip" = none) (ha : PA X [e, e2] ta) (hs : starEach [e, e2] X.env = (false, eval e X.env) :: starEach [e2] X.env := by rfl) (hpl : (backTo pos (starEach [e2] X.env)).any (·.1) = false := by rfl) :
    PI X (.Tuple elts kk tpos) (.Call (.Name "zip" p) [e, e2] [] pos) (iZipM X.K ta) := by
  refine ⟨fun pins s σ H R I h => Call_ (ld_blt I hg hm PyProof.Rows.boot_zip (PyProof.Rows.callWith_type1 (thn (ha.run pos pins s σ H _ I h) fun us s1 ⟨vs, H1, I1, r1, q1⟩ => ?_) hs hpl))⟩
  obtain ⟨a, b, xs, ys, rfl, qa, qb, q⟩ := q1
  cases r1 with
  | cons ra rr =>
    cases rr with
    | cons rb rr =>
      cases rr
      cases ra
      cases rb
      have young : ∀ c, c ∈ [s1.heap.objs.size + 4, s1.heap.objs.size + 2, s1.heap.objs.size + 3, s1.heap.objs.size, s1.heap.objs.size + 1] → FpOk X pins H1 c := fun c hm => by
        have : c = s1.heap.objs.size + 4 ∨ c = s1.heap.objs.size + 2 ∨ c = s1.heap.objs.size + 3 ∨ c = s1.heap.objs.size ∨ c = s1.heap.objs.size + 1 := by simpa using hm
        have le : s1.heap.objs.size ≤ c := by
          rcases this with r | r | r | r | r <;> rw [r] <;> first | exact Nat.le_refl _ | exact Nat.le_add_right _ _
        exact I1.fpOk le (I1.hok.fresh le)
      obtain ⟨ia, va, pa, _⟩ := I1.tuple qa
      obtain ⟨ib, vb, pb, _⟩ := I1.list qb
      obtain ⟨oa, ga, _⟩ := id pa
      refine call_mz (show s1.heap.IsTuple a ia.toArray from pa) pb.isList fun h' z1 z2 z3 z4 z5 kp => wpAny_pyIter_zip z1 ?_
      exact ⟨s1.heap.objs.size + 4, _, _, _, H1, rfl, I1.kept (t' := s1.toks) kp, turn_mz (PySem.W.ktu_apart s1.heap.objs.size a b (Heap.lt_size ga) pb.lt), ⟨z1, z2, ⟨_, _, z3⟩, z4, z5⟩, young, q⟩
end
def jZipM (ta : DTA) : DTI := fun γ M R => ta γ M fun ds M1 => match ds with
  | [a, b] => (match seqOf a, seqOf b with
    | some (true, l), some (false, m) => l.length = m.length ∧ R (zipD l m) M1
    | _, _ => False)
  | _ => False
theorem walk_zipM {K : PySem.W.Frag} {a b : Addr} {xs ys : List V} (hl : xs.length = ys.length) : Walk (ItM K a b) xs.length (fun H => SqT K H a xs ∧ SqL K H b ys) (YPair (fun i => xs[i]?) (fun i => ys[i]?)) := by
  refine ⟨fun i _ hi q => ?_, fun _ q => ⟨xs, ys, q.1, q.2, hl, Nat.le_refl _⟩, fun i H v H' _ q y => ?_⟩
  · exact ⟨xs, ys, xs[i], ys[i], q.1, q.2, hl, by simp [hi], by simp [← hl, hi]⟩
  · obtain ⟨T, x, z, h1, h2, h3, h4, h5⟩ := y
    exact ⟨T, x, z, h1, h2, h3, h4 xs q.1, h5 ys q.2⟩
section
variable {X : Cx} {F0 : FZ} {e e2 : Expr} {ta : TA} {ta' : DTA} {p pos tpos : Pos} {elts : List Expr} {kk : Nat}
theorem di_zipM (hm : X.mg "zip" = none) (ha : DA X F0 [e, e2] ta ta') (hg : Gl X "zip" := by rfl)
    (hs : starEach [e, e2] X.env = (false, eval e X.env) :: starEach [e2] X.env := by rfl) (hpl : (backTo pos (starEach [e2] X.env)).any (·.1) = false := by rfl) :
    DI X F0 (.Tuple elts kk tpos) (.Call (.Name "zip" p) [e, e2] [] pos) (iZipM X.K ta) (jZipM ta') := ⟨pi_zipM hg hm ha.pa hs hpl, fun F γ M σ H R' R e0 s g q k => by
  refine ha.le F γ M σ H _ _ e0 s g q fun F1 ds vs M1 H1 e1 s1 r1 q1 => ?_
  split at q1
  · rename_i a b
    split at q1
    · rename_i l m h1 h2
      obtain ⟨hlm, q1⟩ := q1
      cases r1 with
      | cons r1 r2 =>
        cases r2 with
        | cons r2 r3 =>
          cases r3
          obtain ⟨p1, xs, rfl, a1, a2⟩ := seqOf_t r1 h1
          obtain ⟨p2, ys, rfl, b1, b2⟩ := seqOf_l r2 h2
          have hl := a2.length
          have hm := b2.length
          refine ⟨p1, p2, xs, ys, rfl, a1 _ s1.fz, s1.fz.seq b1, k F1 _ _ M1 H1 e1 s1 ?_ q1⟩
          refine jr_of (G := fun H => SqT X.K H p1 xs ∧ SqL X.K H p2 ys) (by rw [show (zipD l m).length = xs.length by rw [zipD_len]; omega]; exact walk_zipM (by omega)) (fun F1 M1 H1 e s => ⟨a1 _ (e.f.1.trans s.fz), s.fz.seq (e.f.1.seq b1)⟩) (fun i H hi q => ⟨xs, ys, q.1, q.2, by omega, by rw [zipD_len] at hi; omega⟩) fun i d F2 M2 H2 x H3 e s hd y => zip_new s (RpL.monoS e.f a2) (RpL.monoS e.f b2) hd y
    · exact q1.elim
  · exact q1.elim⟩
end
end DL

set_option maxRecDepth 100000
set_option maxHeartbeats 4000000
namespace DL
open PySem PySem.Spec PyProof.Rows L2
/-! ### sorted(t), t a tuple of ints -/
section
variable {prog : Program} {w : World} {A : Around} {E : Value → Shared → Prop} {s : Shared}
end
section
variable {X : Cx} {K : PySem.W.Frag} {F0 : FZ} {e : Expr} {pos : Pos}
end
end DL

set_option maxRecDepth 100000
set_option maxHeartbeats 4000000
namespace DL
open PySem PySem.Spec PyProof.Rows L2
/-! ### enumerate(t), t a tuple, its object known or not -/
section
variable {X : Cx} {K : PySem.W.Frag} {F0 : FZ} {e : Expr} {p pos : Pos}
end
end DL

set_option maxRecDepth 100000
set_option maxHeartbeats 4000000
namespace DL
open PySem PySem.Spec PyProof.Rows L2
/-! ### min(xs) of a list of data -/
section
variable {X : Cx}
end
section
variable {X : Cx} {K : PySem.W.Frag} {F0 : FZ} {e : Expr} {t : TA} {t' : DTA} {pos : Pos}
end
end DL

set_option maxRecDepth 100000
set_option maxHeartbeats 4000000
namespace DL
/-! ### the rounds of a function -/
section
variable {α : Type}
/-- a round of f: behind each element stands its image, behind the last one the first -/
structure Cyc (f : α → α) (r : List α) : Prop where
  ne : r ≠ []
  nd : r.Nodup
  st : ∀ (i : Nat) (x : α), r[i]? = some x → r[(i + 1) % r.length]? = some (f x)
/-- a walk from x to y, that has seen r -/
structure Wlk (f : α → α) (x : α) (r : List α) (y : α) : Prop where
  nd : r.Nodup
  hd : (r ++ [y])[0]? = some x
  st : ∀ (i : Nat) (a : α), r[i]? = some a → (r ++ [y])[i + 1]? = some (f a)
variable {f : α → α}
theorem Cyc.pos {r : List α} (h : Cyc f r) : 0 < r.length := List.length_pos_iff.mpr h.ne
theorem Wlk.nil (x : α) : Wlk f x [] x := ⟨List.nodup_nil, rfl, fun i a h => by simp at h⟩
theorem Wlk.step {x y : α} {r : List α} (h : Wlk f x r y) (hy : y ∉ r) : Wlk f x (r ++ [y]) (f y) := by
  refine ⟨List.nodup_append.mpr ⟨h.nd, by simp, fun a ha b hb => ?_⟩, ?_, fun i a hi => ?_⟩
  · rw [List.mem_singleton.mp hb]
    exact fun e => hy (e ▸ ha)
  · rw [List.getElem?_append_left (by simp)]; exact h.hd
  · by_cases e : i < r.length
    · rw [List.getElem?_append_left e] at hi
      rw [List.getElem?_append_left (by simp; omega)]
      exact h.st i a hi
    · have hl := (List.getElem?_eq_some_iff.mp hi).1
      have : i = r.length := by simp at hl; omega
      subst this
      simp at hi
      subst hi
      simp
theorem Wlk.last {x y : α} {r : List α} (h : Wlk f x r y) (hr : r ≠ []) : ∃ a, a ∈ r ∧ r[r.length - 1]? = some a ∧ y = f a := by
  have hp := List.length_pos_iff.mpr hr
  have h1 : r[r.length - 1]? = some r[r.length - 1] := List.getElem?_eq_getElem (by omega)
  have h2 := h.st _ _ h1
  rw [show r.length - 1 + 1 = r.length by omega, List.getElem?_append_right (Nat.le_refl _), Nat.sub_self] at h2
  exact ⟨_, List.mem_of_getElem? h1, h1, Option.some.inj h2⟩
theorem Wlk.head {x y : α} {r : List α} (h : Wlk f x r y) (hr : r ≠ []) : r[0]? = some x := by
  have hp := List.length_pos_iff.mpr hr
  have := h.hd
  rwa [List.getElem?_append_left hp] at this
theorem Wlk.back {S : α → Prop} (inj : ∀ a b, S a → S b → f a = f b → a = b) {x y : α} {r : List α} (h : Wlk f x r y) (hS : ∀ a ∈ r, S a) (hy : y ∈ r) : y = x := by
  have hr : r ≠ [] := List.ne_nil_of_mem hy
  obtain ⟨a, am, al, ya⟩ := h.last hr
  obtain ⟨k, hk⟩ := List.mem_iff_getElem?.mp hy
  cases k with
  | zero =>
    rw [h.head hr] at hk
    exact (Option.some.inj hk).symm
  | succ k =>
    have kl := (List.getElem?_eq_some_iff.mp hk).1
    have h1 : r[k]? = some r[k] := List.getElem?_eq_getElem (by omega)
    have h2 := h.st k _ h1
    rw [List.getElem?_append_left kl, hk] at h2
    have h3 : r[k] = a := inj _ _ (hS _ (List.mem_of_getElem? h1)) (hS _ am) (by rw [← ya]; exact (Option.some.inj h2).symm)
    rw [h3, ← al] at h1
    have := (List.getElem?_inj (by omega) h.nd).mp h1
    omega
theorem Cyc.next {r : List α} (h : Cyc f r) {y : α} (hy : y ∈ r) : f y ∈ r := by
  obtain ⟨k, hk⟩ := List.mem_iff_getElem?.mp hy
  exact List.mem_of_getElem? (h.st k y hk)
theorem Cyc.go {r : List α} (h : Cyc f r) {P : α → Prop} {y : α} (hy : y ∈ r) (p0 : P y) (ps : ∀ a, a ∈ r → P a → P (f a)) : ∀ z ∈ r, P z := by
  have hp := h.pos
  obtain ⟨k, hk⟩ := List.mem_iff_getElem?.mp hy
  have kl := (List.getElem?_eq_some_iff.mp hk).1
  have key : ∀ (j : Nat) (a : α), r[(k + j) % r.length]? = some a → P a := fun j => by
    induction j with
    | zero =>
      intro a ha
      rw [Nat.add_zero, Nat.mod_eq_of_lt kl, hk] at ha
      exact Option.some.inj ha ▸ p0
    | succ j ih =>
      intro a ha
      have ml : (k + j) % r.length < r.length := Nat.mod_lt _ hp
      have h1 : r[(k + j) % r.length]? = some r[(k + j) % r.length] := List.getElem?_eq_getElem ml
      have h2 := h.st _ _ h1
      rw [Nat.mod_add_mod, show k + j + 1 = k + (j + 1) by omega, ha] at h2
      rw [Option.some.inj h2]
      exact ps _ (List.mem_of_getElem? h1) (ih _ h1)
  intro z hz
  obtain ⟨m, hm⟩ := List.mem_iff_getElem?.mp hz
  have ml := (List.getElem?_eq_some_iff.mp hm).1
  refine key (m + (r.length - k)) z ?_
  rw [show k + (m + (r.length - k)) = m + r.length by omega, Nat.add_mod_right, Nat.mod_eq_of_lt ml]
  exact hm
theorem Cyc.sub {r u : List α} (h : Cyc f r) (g : Cyc f u) {y : α} (hy : y ∈ r) (gy : y ∈ u) : ∀ z ∈ r, z ∈ u := h.go hy gy fun a _ ha => g.next ha
theorem Cyc.eq {r u : List α} (h : Cyc f r) (g : Cyc f u) (e : r[0]? = u[0]?) : r = u := by
  have hp := h.pos
  have gp := g.pos
  have key : ∀ i : Nat, i < r.length → i < u.length → r[i]? = u[i]? := fun i => by
    induction i with
    | zero => exact fun _ _ => e
    | succ i ih =>
      intro h1 h2
      have z := ih (by omega) (by omega)
      have a1 : r[i]? = some r[i] := List.getElem?_eq_getElem (by omega)
      have b1 := h.st _ _ a1
      have b2 := g.st _ _ (z ▸ a1)
      rw [Nat.mod_eq_of_lt h1] at b1
      rw [Nat.mod_eq_of_lt h2] at b2
      rw [b1, b2]
  have lem : ∀ {r u : List α}, Cyc f r → Cyc f u → r[0]? = u[0]? → (∀ i : Nat, i < r.length → i < u.length → r[i]? = u[i]?) → ¬ r.length < u.length := fun {r u} h g e key lt => by
    have hp := h.pos
    have a1 : r[r.length - 1]? = some r[r.length - 1] := List.getElem?_eq_getElem (by omega)
    have b1 := h.st _ _ a1
    have b2 := g.st _ _ ((key (r.length - 1) (by omega) (by omega)) ▸ a1)
    rw [show r.length - 1 + 1 = r.length by omega] at b1 b2
    rw [Nat.mod_self] at b1
    rw [Nat.mod_eq_of_lt lt] at b2
    have := (List.getElem?_inj (by omega) g.nd).mp ((e ▸ b1).trans b2.symm)
    omega
  have l1 := lem h g e key
  have l2 := lem g h e.symm fun i a b => (key i b a).symm
  refine List.ext_getElem? fun i => ?_
  by_cases hi : i < r.length
  · exact key i hi (by omega)
  · rw [List.getElem?_eq_none (by omega), List.getElem?_eq_none (by omega)]
/-- rounds that together are S, each element once -/
structure Rnd (f : α → α) (S : α → Prop) (rows : List (List α)) : Prop where
  cyc : ∀ r ∈ rows, Cyc f r
  nd : rows.flatten.Nodup
  all : ∀ x, x ∈ rows.flatten ↔ S x
theorem flat_nd {rows : List (List α)} (h : ∀ r ∈ rows, r ≠ []) (nd : rows.flatten.Nodup) : rows.Nodup := by
  induction rows with
  | nil => exact List.nodup_nil
  | cons r rows ih =>
    rw [List.flatten_cons, List.nodup_append] at nd
    refine List.nodup_cons.mpr ⟨fun hm => ?_, ih (fun r hr => h r (List.mem_cons_of_mem _ hr)) nd.2.1⟩
    obtain ⟨x, hx⟩ := List.exists_mem_of_ne_nil r (h r List.mem_cons_self)
    exact nd.2.2 x hx x (List.mem_flatten.mpr ⟨r, hm, hx⟩) rfl
theorem Rnd.rows_nd {S : α → Prop} {rows : List (List α)} (h : Rnd f S rows) : rows.Nodup := flat_nd (fun r hr => (h.cyc r hr).ne) h.nd
theorem Rnd.one {S : α → Prop} {rows : List (List α)} (h : Rnd f S rows) {r u : List α} (hr : r ∈ rows) (hu : u ∈ rows) {x : α} (xr : x ∈ r) (xu : x ∈ u) : r = u := by
  have key : ∀ {rows : List (List α)}, rows.flatten.Nodup → r ∈ rows → u ∈ rows → r = u := fun {rows} nd => by
    induction rows with
    | nil => intro h; cases h
    | cons a rows ih =>
      intro h1 h2
      rw [List.flatten_cons, List.nodup_append] at nd
      rcases List.mem_cons.mp h1 with e1 | h1
      · rcases List.mem_cons.mp h2 with e2 | h2
        · rw [e1, e2]
        · exact absurd rfl (nd.2.2 x (e1 ▸ xr) x (List.mem_flatten.mpr ⟨u, h2, xu⟩))
      · rcases List.mem_cons.mp h2 with e2 | h2
        · exact absurd rfl (nd.2.2 x (e2 ▸ xu) x (List.mem_flatten.mpr ⟨r, h1, xr⟩))
        · exact ih nd.2.1 h1 h2
  exact key h.nd hr hu
/-- begun with the least -/
def Beg (le : α → α → Prop) (r : List α) : Prop := ∀ x, r[0]? = some x → ∀ y ∈ r, le x y
theorem Rnd.perm {S : α → Prop} {le : α → α → Prop} (anti : ∀ a b, le a b → le b a → a = b) {A B : List (List α)} (ha : Rnd f S A) (hb : Rnd f S B) (la : ∀ r ∈ A, Beg le r) (lb : ∀ r ∈ B, Beg le r) : A.Perm B := by
  have sub : ∀ {A B : List (List α)}, Rnd f S A → Rnd f S B → (∀ r ∈ A, Beg le r) → (∀ r ∈ B, Beg le r) → ∀ r ∈ A, r ∈ B := fun {A B} ha hb la lb r hr => by
    have cr := ha.cyc r hr
    have rp := cr.pos
    have h0 : r[0]? = some r[0] := List.getElem?_eq_getElem rp
    have hm := List.mem_of_getElem? h0
    obtain ⟨u, hu, xu⟩ := List.mem_flatten.mp ((hb.all _).mpr ((ha.all _).mp (List.mem_flatten.mpr ⟨r, hr, hm⟩)))
    have cu := hb.cyc u hu
    have up := cu.pos
    have g0 : u[0]? = some u[0] := List.getElem?_eq_getElem up
    have gm := List.mem_of_getElem? g0
    have e : r[0] = u[0] := anti _ _ (la r hr _ h0 _ (cu.sub cr xu hm _ gm)) (lb u hu _ g0 _ xu)
    rw [cr.eq cu (by rw [h0, g0, e])]
    exact hu
  exact (List.perm_ext_iff_of_nodup ha.rows_nd hb.rows_nd).mpr fun r => ⟨sub ha hb la lb r, sub hb ha lb la r⟩
/-! ### the rounds come in pairs -/
/-- a mirror of f -/
structure Mir (f : α → α) (S : α → Prop) (m : α → α) : Prop where
  to : ∀ x, S x → S (m x)
  inv : ∀ x, S x → m (m x) = x
  fm : ∀ x, S x → f (m (f x)) = m x
  fx : ∀ x, S x → m x ≠ x
  nf : ∀ x, S x → m x ≠ f x
theorem Cyc.mirror {S : α → Prop} {m : α → α} (M : Mir f S m) {r : List α} (h : Cyc f r) (hS : ∀ x ∈ r, S x) : Cyc f (r.map m).reverse := by
  have hp := h.pos
  refine ⟨by simp [h.ne], ?_, fun i y hi => ?_⟩
  · refine List.pairwise_reverse.mpr (List.Pairwise.imp (fun h => Ne.symm h) ?_)
    refine List.pairwise_map.mpr (List.Pairwise.imp_of_mem ?_ h.nd)
    intro a b ha hb ne e
    exact ne (by rw [← M.inv a (hS a ha), e, M.inv b (hS b hb)])
  · have il := (List.getElem?_eq_some_iff.mp hi).1
    rw [List.length_reverse, List.length_map] at il ⊢
    rw [List.getElem?_reverse (by rw [List.length_map]; exact il), List.length_map, List.getElem?_map, Option.map_eq_some_iff] at hi
    obtain ⟨a, ha, rfl⟩ := hi
    rw [List.getElem?_reverse (by rw [List.length_map]; exact Nat.mod_lt _ hp), List.length_map, List.getElem?_map]
    have hc : r[r.length - 1 - (i + 1) % r.length]? = some r[r.length - 1 - (i + 1) % r.length] := List.getElem?_eq_getElem (by omega)
    rw [hc]
    have h2 := h.st _ _ hc
    have e : (r.length - 1 - (i + 1) % r.length + 1) % r.length = r.length - 1 - i := by
      by_cases z : i + 1 < r.length
      · rw [Nat.mod_eq_of_lt z, Nat.mod_eq_of_lt (by omega)]; omega
      · rw [show i + 1 = r.length by omega, Nat.mod_self, show r.length - 1 - 0 + 1 = r.length by omega, Nat.mod_self]; omega
    rw [e, ha] at h2
    have h3 := Option.some.inj h2
    have := M.fm _ (hS _ (List.mem_of_getElem? hc))
    rw [← h3] at this
    rw [Option.map_some, this]
theorem Mir.inj {S : α → Prop} {m : α → α} (M : Mir f S m) : ∀ a b, S a → S b → f a = f b → a = b := fun a b ha hb e => by
  have h1 := M.fm a ha
  have h2 := M.fm b hb
  rw [e, h2] at h1
  rw [← M.inv a ha, ← h1, M.inv b hb]
end
end DL

set_option maxRecDepth 100000
set_option maxHeartbeats 4000000
namespace DL
open PySem PySem.Spec PyProof.Rows L2
/-! ### sorted(xs) of data alike, the list of its own -/
section
variable {X : Cx} {K : PySem.W.Frag} {F0 : FZ} {e : Expr} {t : TA} {t' : DTA} {pos : Pos}
end
end DL

set_option maxRecDepth 100000
set_option maxHeartbeats 4000000
namespace DL
open PySem PySem.Spec PyProof.Rows L2 SrtO
/-! ### rows of triples in order -/
abbrev Stp := Int × Int × Int
end DL

set_option maxRecDepth 100000
set_option maxHeartbeats 4000000
namespace DL
open PySem PySem.Spec PyProof.Rows L2
/-! ### min(t), t a tuple of ints, its object known or not -/
section
variable {X : Cx} {K : PySem.W.Frag} {F0 : FZ}
end
end DL

set_option maxRecDepth 100000
set_option maxHeartbeats 4000000
namespace DL
open PySem PySem.Spec PyProof.Rows L2
/-! ### {t: v for ..} with tuple keys, as a value -/
section
variable {X : Cx} {K : PySem.W.Frag} {F0 : FZ} {kx vx tg iter : Expr} {ifs : List Expr} {scope : Scope} {own : List (Str × Nat)} {pos : Pos} {wi : TI} {wi' : DTI} {g' : DTG} {tt' : DTT} {tk' te' : DTE}
end
end DL

set_option maxRecDepth 100000
set_option maxHeartbeats 4000000
namespace DL
open PySem PySem.Spec PyProof.Rows L2
/-! ### text.removeprefix(text) -/
section
variable {X : Cx} {F0 : FZ} {o e : Expr} {to te : TE} {to' te' : DTE} {apos pos : Pos}
end
end DL

set_option maxRecDepth 100000
set_option maxHeartbeats 4000000
namespace DL
open PySem PySem.Spec PyProof.Rows L2
/-! ### o[i] = e in an except suite -/
section
variable {X : Cx} {F0 : FZ} {o i e : Expr} {to ti te : TE} {to' ti' te' : DTE} {pos pos' : Pos}
end
end DL

set_option maxRecDepth 100000
set_option maxHeartbeats 4000000
namespace DL
open PySem PySem.Spec PyProof.Rows L2
/-! ### isinstance(x, T) of an instance too, T a built-in type -/
section
variable {X : Cx} {K : PySem.W.Frag} {F0 : FZ}
end
end DL

set_option maxRecDepth 100000
set_option maxHeartbeats 4000000
namespace DL
open PySem PySem.Spec PyProof.Rows L2
/-! ### d.get(key, e) of a changeable dict -/
section
variable {X : Cx} {K : PySem.W.Frag} {F0 : FZ} {o e f : Expr} {td ty tx : TE} {td' ty' tx' : DTE} {apos cpos : Pos}
end
end DL

set_option maxRecDepth 100000
set_option maxHeartbeats 2000000
namespace DL
open PySem PySem.Spec PyProof.Rows L2

def top (i : Nat) : Stmt := PySem.Challenge.pw_storelands_k57_whole_bars_spoiled.main.body.getD i (.Pass ⟨0, 0, 0, 0⟩)
abbrev s__law_draw : Stmt := top 24
abbrev s__law_named : Stmt := top 29
abbrev s__law_pair : Stmt := top 26
abbrev s__law_pairs : Stmt := top 28
abbrev s__law_shuffled : Stmt := top 27
abbrev s__law_barred : Stmt := top 30
abbrev s__law_dice : Stmt := top 23
abbrev s__law_flag : Stmt := top 25
abbrev s__law_is_content : Stmt := top 31
abbrev s__law_unlike : Stmt := top 32
abbrev s__law_is_way : Stmt := top 33
abbrev s__law_is_bar : Stmt := top 34
abbrev s__law_odd : Stmt := top 37
abbrev s__law_set : Stmt := top 36
abbrev s__law_corners_changed : Stmt := top 39
abbrev s__law_way_changed : Stmt := top 38
abbrev s__law_ways_changed : Stmt := top 40
abbrev s__law_spoiled : Stmt := top 41
abbrev s__law_struck : Stmt := top 42
abbrev s__law_turned : Stmt := top 35
abbrev s_is_integer : Stmt := top 1
abbrev s_is_within : Stmt := top 2
abbrev s_is_index : Stmt := top 3
abbrev s_are_unlike : Stmt := top 18
abbrev s_tied_of : Stmt := top 15
abbrev s_is_way : Stmt := top 20
abbrev s_pairs_of : Stmt := top 19
abbrev s_is_bar : Stmt := top 21
abbrev s_is_rising_pair : Stmt := top 4
abbrev s_are_rising_pairs : Stmt := top 5
abbrev s_beside_lists : Stmt := top 6
abbrev s_reached : Stmt := top 7
abbrev s_Book___init__ : Stmt := inClass (top 14) 0
abbrev s_law : Stmt := top 43
structure Bn (mg : Str → Option Value) : Prop where
  abs : mg "abs" = none
  all : mg "all" = none
  any : mg "any" = none
  bool : mg "bool" = none
  int : mg "int" = none
  isinstance : mg "isinstance" = none
  len : mg "len" = none
  list : mg "list" = none
  max : mg "max" = none
  min : mg "min" = none
  range : mg "range" = none
  set : mg "set" = none
  sorted : mg "sorted" = none
  str : mg "str" = none
  tuple : mg "tuple" = none
  zip : mg "zip" = none
structure Gs (mg : Str → Option Value) : Prop where
  MOST_CONTENTS : ∃ t, mg "MOST_CONTENTS" = some (.int (8) t)
  MOST_TIES : ∃ t, mg "MOST_TIES" = some (.int (28) t)

theorem map_bl (b : Bool) : ∀ l : List D, l.map (fun _ => D.bl b) = (List.replicate l.length b).map .bl
  | [] => rfl
  | x :: l => by rw [List.map_cons, map_bl b l]; rfl
def prOk (n : Int) (p : Int × Int) : Prop := 0 ≤ p.1 ∧ p.1 < p.2 ∧ p.2 < n
def prLt (p q : Int × Int) : Prop := p.1 < q.1 ∨ (p.1 = q.1 ∧ p.2 < q.2)
/-- pushes, ties: right pairs, strictly ascending -/
structure PrsOk (n : Int) (ps : List (Int × Int)) : Prop where
  ok : ∀ p ∈ ps, prOk n p
  lt : ps.Pairwise prLt
theorem len_ok {n : Nat} (h : n ≤ 10000000) : n ≤ sizeLine := by rw [sizeLine_eq]; omega
theorem len_lt {n : Nat} (h : n ≤ 10000000) : n < sizeLine := by rw [sizeLine_eq]; omega
theorem atI_at {l : List D} {i : Int} {k : Nat} {d : D} (hi : i = (k : Int)) (h : l[k]? = some d) : atI l i = some d := by
  subst hi; exact atI_nat h
theorem get_pr {ps : List (Int × Int)} {k : Nat} {d : D} (h : (ps.map prD)[k]? = some d) : ∃ p, ps[k]? = some p ∧ d = prD p := by
  rw [List.getElem?_map] at h
  obtain ⟨p, hp, e⟩ := Option.map_eq_some_iff.mp h
  exact ⟨p, hp, e.symm⟩
theorem get_int {ps : List Int} {k : Nat} {d : D} (h : (ps.map D.int)[k]? = some d) : ∃ p, ps[k]? = some p ∧ d = .int p := by
  rw [List.getElem?_map] at h
  obtain ⟨p, hp, e⟩ := Option.map_eq_some_iff.mp h
  exact ⟨p, hp, e.symm⟩
theorem pw_next {α : Type} {r : α → α → Prop} {l : List α} (h : l.Pairwise r) {k : Nat} {p q : α} (hp : l[k]? = some p) (hq : l[k + 1]? = some q) : r p q := by
  obtain ⟨a, ha⟩ := List.getElem?_eq_some_iff.mp hp
  obtain ⟨b, hb⟩ := List.getElem?_eq_some_iff.mp hq
  rw [← ha, ← hb]
  exact List.pairwise_iff_getElem.mp h k (k + 1) a b (by omega)
/-! ### who is beside whom -/
def nbr (ps : List (Int × Int)) (i : Int) : List Int := ps.flatMap fun p => (if p.1 = i then [p.2] else []) ++ (if p.2 = i then [p.1] else [])
def rowsOf (n : Int) (ps : List (Int × Int)) : List (List Int) := (List.range n.toNat).map fun (i : Nat) => srt (nbr ps (i : Int))
def rowsD (n : Int) (ps : List (Int × Int)) : List D := (rowsOf n ps).map fun r => .tup (r.map .int)
theorem nbr_mem {ps : List (Int × Int)} {i j : Int} : j ∈ nbr ps i ↔ (i, j) ∈ ps ∨ (j, i) ∈ ps := by
  unfold nbr
  rw [List.mem_flatMap]
  constructor
  · rintro ⟨⟨a, b⟩, h, q⟩
    rcases List.mem_append.mp q with q | q
    · by_cases e : a = i
      · simp only [e, if_true, List.mem_singleton] at q
        subst q; subst e; exact .inl h
      · simp [e] at q
    · by_cases e : b = i
      · simp only [e, if_true, List.mem_singleton] at q
        subst q; subst e; exact .inr h
      · simp [e] at q
  · rintro (h | h)
    · exact ⟨_, h, by simp⟩
    · exact ⟨_, h, by simp⟩
theorem nbr_symm {ps : List (Int × Int)} {i j : Int} : j ∈ nbr ps i ↔ i ∈ nbr ps j := by rw [nbr_mem, nbr_mem]; exact Or.comm
theorem nbr_snoc {ps : List (Int × Int)} {a b i : Int} : nbr (ps ++ [(a, b)]) i = nbr ps i ++ ((if a = i then [b] else []) ++ (if b = i then [a] else [])) := by
  unfold nbr
  rw [List.flatMap_append]
  simp
theorem rowsOf_get {n : Int} {ps : List (Int × Int)} {i : Int} (h0 : 0 ≤ i) (h1 : i < n) : (rowsOf n ps)[i.toNat]? = some (srt (nbr ps i)) := by
  unfold rowsOf
  rw [List.getElem?_map, List.getElem?_range (by omega)]
  simp only [Option.map_some]
  rw [Int.toNat_of_nonneg h0]
theorem rowsD_get {n : Int} {ps : List (Int × Int)} {i : Int} (h0 : 0 ≤ i) (h1 : i < n) : atI (rowsD n ps) i = some (.tup ((srt (nbr ps i)).map .int)) := by
  refine atI_at (k := i.toNat) (by omega) ?_
  unfold rowsD
  rw [List.getElem?_map, rowsOf_get h0 h1]
  rfl
theorem nbr_len (ps : List (Int × Int)) (i : Int) : (nbr ps i).length ≤ 2 * ps.length := by
  induction ps with
  | nil => simp [nbr]
  | cons p ps ih =>
    have e : nbr (p :: ps) i = ((if p.1 = i then [p.2] else []) ++ (if p.2 = i then [p.1] else [])) ++ nbr ps i := by unfold nbr; rw [List.flatMap_cons]
    rw [e, List.length_append, List.length_append, List.length_cons]
    by_cases h1 : p.1 = i <;> by_cases h2 : p.2 = i <;> simp [h1, h2] <;> omega
theorem dForI_of {g : DTG} {tb : DTS} {D0 : DEnds} {γ : G} {items : List D} {M1 : Mp} (I : Nat → G → Mp → Prop) (h0 : I 0 γ M1) (step : ∀ i d γ M, items[i]? = some d → I i γ M → g d γ M fun γ1 M1 => tb { D0 with nx := I (i + 1), ct := I (i + 1), bk := D0.nx } γ1 M1)
    (done : ∀ γ M, I items.length γ M → D0.nx γ M) : dForI g tb D0 γ items M1 := ⟨I, h0, step, done⟩
theorem dLcI_idx {g : DTG} {te : DTE} {vs : List Nat} {γ : G} {items : List D} {M : Mp} {Q : DK} (f : Nat → D) (h : ∀ (i : Nat) (d : D), items[i]? = some d → ∀ Q2 : DK, Q2 (f i) M → g d (dwipe γ vs) M fun γ2 M2 => te γ2 M2 Q2) (q : Q (.lst ((List.range items.length).map f)) M) : dLcI g dYes te vs γ items M Q := by
  refine ⟨fun i acc M' => M' = M ∧ acc = (List.range i).map f, ⟨rfl, rfl⟩, ?_, ?_⟩
  · rintro i d acc M' hd ⟨rfl, rfl⟩
    refine h i d hd _ ⟨rfl, ?_⟩
    rw [List.range_succ, List.map_append]
    rfl
  · rintro acc M' ⟨rfl, rfl⟩
    exact q
theorem rows_upd {n : Nat} {f g : Nat → List D} {k : Nat} (hg : ∀ j, j ≠ k → g j = f j) : ((List.range n).map f).set k (g k) = (List.range n).map g := by
  apply List.ext_getElem?
  intro j
  rw [List.getElem?_set]
  by_cases e : k = j
  · subst e
    rw [List.length_map, List.length_range]
    by_cases hk : k < n
    · simp [hk]
    · simp [hk]
  · rw [if_neg e, List.getElem?_map, List.getElem?_map]
    by_cases hk : j < n
    · rw [List.getElem?_range hk]
      simp [hg j fun z => e z.symm]
    · rw [List.getElem?_eq_none (by simpa using hk)]; rfl
/-- one entry more in the rows -/
theorem RowsAt.push {M : Mp} {as : List Addr} {n : Nat} {f g : Nat → List D} {k : Nat} {d : D} (h : RowsAt M as ((List.range n).map f)) (hk : k < n) (hg : ∀ j, g j = if j = k then f j ++ [d] else f j) :
    ∃ a, as[k]? = some a ∧ M a = some (.lst (f k)) ∧ RowsAt (mset M a (.lst (f k ++ [d]))) as ((List.range n).map g) := by
  obtain ⟨a, h1, h2⟩ := h.get (k := k) (r := f k) (by rw [List.getElem?_map, List.getElem?_range hk]; rfl)
  refine ⟨a, h1, h2, ?_⟩
  have e := h.set h1 (f k ++ [d])
  have e2 : f k ++ [d] = g k := by rw [hg, if_pos rfl]
  rw [e2, rows_upd fun j hj => by rw [hg, if_neg hj]] at e
  rw [e2]
  exact e
theorem ref_at {as : List Addr} {k : Nat} {a : Addr} {i : Int} (hi : i = (k : Int)) (h : as[k]? = some a) : atI (as.map D.ref) i = some (.ref a) := atI_at hi (by rw [List.getElem?_map, h]; rfl)
theorem take_succ_of {α : Type} {l : List α} {i : Nat} {p : α} (h : l[i]? = some p) : l.take (i + 1) = l.take i ++ [p] := by
  rw [List.take_add_one, h]; rfl
/-! ### the dice -/
def diceL (r : Int) (ns : List Int) (a m c : Int) : List (Key × D) := [(.inr "rest", .int r), (.inr "cells", .lst (ns.map .int)), (.inr "at", .int a), (.inr "mixed", .int m), (.inr "count", .int c)]
section
variable {r : Int} {ns : List Int} {a m c x : Int}
variable {M : Mp} {p : Addr}
theorem ix_dK {kvs : List (Key × D)} {k : Str} (h : M p = some (.dK kvs)) : dIxV M (.ref p) (.str k) = dval kvs (.inr k) := by
  simp only [dIxV, h, dLook, keyOf, Option.map_some, Option.bind_some, id]
end
structure DiceAt (M : Mp) (p : Addr) : Prop where
  ex : ∃ (r : Int) (ns : List Int) (a m c : Int), M p = some (.dK (diceL r ns a m c)) ∧ 0 ≤ r ∧ 0 ≤ a
theorem dSeq_gen {t u : DTS} {D0 : DEnds} {γ : G} {M : Mp} (P : G → Mp → Prop) (h2 : ∀ γ' M', P γ' M' → u D0 γ' M') (h1 : ∀ nx : G → Mp → Prop, (∀ γ' M', P γ' M' → nx γ' M') → t { D0 with nx := nx } γ M) : dSeq t u D0 γ M := h1 (u D0) h2
theorem cmulR {i j : Int} (h : j.natAbs ≤ 1000000000000) : CMul i j := .inr (by omega)
theorem cmulL {i j : Int} (h : i.natAbs ≤ 1000000000000) : CMul i j := .inl (by omega)
/-- all but a few are as they were -/
def Agree (M M' : Mp) (S : List Addr) : Prop := ∀ q, q ∉ S → M' q = M q
theorem Agree.refl (M : Mp) (S : List Addr) : Agree M M S := fun _ _ => rfl
theorem Agree.trans {M M1 M2 : Mp} {S : List Addr} (a : Agree M M1 S) (b : Agree M1 M2 S) : Agree M M2 S := fun q h => (b q h).trans (a q h)
theorem Agree.mset {M : Mp} {S : List Addr} {p : Addr} {o : MO} (h : p ∈ S) : Agree M (mset M p o) S := fun q hq => mset_ne fun e => hq (e ▸ h)
theorem Agree.at {M M' : Mp} {S : List Addr} (h : Agree M M' S) {q : Addr} (hq : q ∉ S) : M' q = M q := h q hq
theorem DiceAt.keep {M M' : Mp} {S : List Addr} {p : Addr} (h : DiceAt M p) (a : Agree M M' S) (hp : p ∉ S) : DiceAt M' p := ⟨by rw [a p hp]; exact h.ex⟩
/-- what was there is there -/
def Ext (M M' : Mp) (S : List Addr) : Prop := ∀ q o, q ∉ S → M q = some o → M' q = some o
theorem Ext.refl (M : Mp) (S : List Addr) : Ext M M S := fun _ _ _ h => h
theorem Ext.trans {M M1 M2 : Mp} {S : List Addr} (a : Ext M M1 S) (b : Ext M1 M2 S) : Ext M M2 S := fun q o h e => b q o h (a q o h e)
theorem Agree.ext {M M' : Mp} {S : List Addr} (a : Agree M M' S) : Ext M M' S := fun q o h e => (a q h).trans e
theorem Ext.mset {M M' : Mp} {S : List Addr} {l : Addr} {o : MO} (a : Ext M M' S) (h : M l = none) : Ext M (mset M' l o) S := fun q u hq e => by
  rw [mset_ne fun z => ?_]
  · exact a q u hq e
  · rw [z, h] at e; cases e
theorem Ext.mdel {M M' : Mp} {S : List Addr} {l : Addr} (a : Ext M M' S) (h : M l = none) : Ext M (mdel M' l) S := fun q u hq e => by
  rw [mdel_ne fun z => ?_]
  · exact a q u hq e
  · rw [z, h] at e; cases e
theorem Ext.fresh {M M' : Mp} {S : List Addr} {l : Addr} (a : Ext M M' S) (hs : l ∉ S) (h : M' l = none) : M l = none := by
  cases e : M l with
  | none => rfl
  | some o => rw [a l o hs e] at h; cases h
theorem DiceAt.ne {M : Mp} {p l : Addr} {x : List D} (h : DiceAt M p) (hl : M l = some (.lst x)) : l ≠ p := fun e => by
  obtain ⟨r, ns, a, m, c, hp, _⟩ := h.ex
  rw [e, hp] at hl; cases hl
theorem DiceAt.some {M : Mp} {p l : Addr} (h : DiceAt M p) (hl : M l = none) : l ≠ p := fun e => by
  obtain ⟨r, ns, a, m, c, hp, _⟩ := h.ex
  rw [e, hp] at hl; cases hl
theorem DiceAt.mset {M : Mp} {p l : Addr} {o : MO} (h : DiceAt M p) (hl : l ≠ p) : DiceAt (mset M l o) p := ⟨by rw [mset_ne (Ne.symm hl)]; exact h.ex⟩
theorem DiceAt.mdel {M : Mp} {p l : Addr} (h : DiceAt M p) (hl : l ≠ p) : DiceAt (mdel M l) p := ⟨by rw [mdel_ne (Ne.symm hl)]; exact h.ex⟩
/-- a list of right pairs under way -/
structure WSt (M : Mp) (p : Addr) (n : Int) (b : Nat) (M' : Mp) (l : Addr) (ps : List (Int × Int)) : Prop where
  dice : DiceAt M' p
  ext : Ext M M' [p]
  fr : M l = none
  lst : M' l = some (.lst (ps.map prD))
  ok : ∀ q ∈ ps, prOk n q
  len : ps.length ≤ b
theorem WSt.new {M : Mp} {p : Addr} {n : Int} {b : Nat} {M' : Mp} {l' : Addr} {ps' : List (Int × Int)} (hd : DiceAt M' p) (he : Ext M M' [p]) (hl : M' l' = none) (ok : ∀ q ∈ ps', prOk n q) (len : ps'.length ≤ b) : WSt M p n b (mset M' l' (.lst (ps'.map prD))) l' ps' :=
  have ne : l' ≠ p := hd.some hl
  have fr : M l' = none := he.fresh (by simpa using ne) hl
  ⟨hd.mset ne, he.mset fr, fr, mset_same, ok, len⟩
theorem dSeq_then {t u : DTS} {D0 : DEnds} {γ : G} {M : Mp} (P : G → Mp → Prop) (h1 : ∀ nx : G → Mp → Prop, (∀ γ' M', P γ' M' → nx γ' M') → t { D0 with nx := nx } γ M) (h2 : ∀ γ' M', P γ' M' → u D0 γ' M') : dSeq t u D0 γ M := h1 (u D0) h2
/-! ### dicts of pairs -/
def kvP (p : Int × Int) : List Key × D := ([.inl p.1, .inl p.2], .bl true)
theorem keyP_inj {p q : Int × Int} : ([.inl p.1, .inl p.2] : List Key) = [.inl q.1, .inl q.2] ↔ p = q := by
  constructor
  · intro h
    injection h with h1 h2
    injection h2 with h2 _
    injection h1 with h1
    injection h2 with h2
    exact Prod.ext h1 h2
  · rintro rfl; rfl
theorem dval_kvP {ks : List (Int × Int)} {p : Int × Int} : dval (ks.map kvP) [.inl p.1, .inl p.2] = if p ∈ ks then some (.bl true) else none := by
  induction ks with
  | nil => rfl
  | cons q ks ih =>
    rw [List.map_cons]
    show dval (([.inl q.1, .inl q.2], D.bl true) :: ks.map kvP) _ = _
    rw [dval_cons, ih]
    by_cases e : q = p
    · subst e; simp
    · rw [if_neg (fun z => e (keyP_inj.mp z))]
      have e2 : ¬ p = q := fun z => e z.symm
      simp [e2]
theorem dput_kvP {ks : List (Int × Int)} {p : Int × Int} : dput (ks.map kvP) [.inl p.1, .inl p.2] (.bl true) = (if p ∈ ks then ks else ks ++ [p]).map kvP := by
  unfold dput
  rw [dval_kvP]
  by_cases h : p ∈ ks
  · simp only [if_pos h, Option.isSome_some, if_true]
    rw [List.map_map]
    apply List.map_congr_left
    intro q hq
    show (if (kvP q).1 = _ then ((kvP q).1, D.bl true) else kvP q) = kvP q
    split <;> rfl
  · simp only [if_neg h, Option.isSome_none, Bool.false_eq_true, if_false]
    rw [List.map_append]; rfl
theorem items_kvP (ks : List (Int × Int)) : (ks.map kvP).map (fun kv => D.tup (kv.1.map keyD)) = ks.map prD := by rw [List.map_map]; rfl
theorem srtd_lt {qs : List (Int × Int)} (h : SrtO.Srtd SrtO.lexB qs) (nd : qs.Nodup) : qs.Pairwise prLt := by
  have h' : qs.Pairwise fun a b => SrtO.lexB b a = false := h
  refine (h'.and nd).imp ?_
  rintro ⟨a, b⟩ ⟨c, d⟩ ⟨h1, h2⟩
  rw [SrtO.lexB_no] at h1
  unfold prLt
  simp only at h1 ⊢
  by_cases e : a = c
  · subst e
    by_cases e2 : b = d
    · subst e2; exact absurd rfl h2
    · omega
  · omega
/-! ### webs -/
structure Cl_TW (K : PySem.W.Frag) (mg : Str → Option Value) (C : Addr) : Prop where
  cl : Cls K C
  n_kept_size : NoAttr K C "kept_size"
  n_kept_pushes : NoAttr K C "kept_pushes"
  n_kept_facts : NoAttr K C "kept_facts"
def webF (n : Int) (ps : List (Int × Int)) (d : Addr) : List (Str × D) := [("kept_size", .int n), ("kept_pushes", .tup (ps.map prD)), ("kept_facts", .ref d)]
structure WebOk (n : Int) (ps : List (Int × Int)) : Prop where
  lo : 1 ≤ n
  hi : n ≤ 10000
  pr : PrsOk n ps
  len : ps.length ≤ 100000
structure WebAt (C : Addr) (M : Mp) (p : Addr) (n : Int) (ps : List (Int × Int)) (d : Addr) : Prop where
  ob : M p = some (.ins C (webF n ps d))
  fc : ∃ kvs, M d = some (.dK kvs) ∧ (kvs = [] ∨ kvs = [(.inr "beside", .lst (rowsD n ps))])
  ok : WebOk n ps
theorem WebAt.ne {C : Addr} {M : Mp} {p : Addr} {n : Int} {ps : List (Int × Int)} {d : Addr} (h : WebAt C M p n ps d) : p ≠ d := fun e => by
  obtain ⟨kvs, h1, _⟩ := h.fc
  have := h.ob
  rw [e, h1] at this
  cases this
theorem WebAt.keep {C : Addr} {M M' : Mp} {S : List Addr} {p : Addr} {n : Int} {ps : List (Int × Int)} {d : Addr} (h : WebAt C M p n ps d) (a : Agree M M' S) (hp : p ∉ S) (hd : d ∉ S) : WebAt C M' p n ps d :=
  ⟨by rw [a p hp]; exact h.ob, by rw [a d hd]; exact h.fc, h.ok⟩
theorem mdel_mset {M : Mp} {l : Addr} {o : MO} (h : M l = none) : mdel (mset M l o) l = M := by
  funext q
  by_cases e : q = l
  · rw [e, mdel_same, h]
  · rw [mdel_ne e, mset_ne e]
/-! ### reaching -/
theorem snoc_cases {α : Type} (l : List α) : l = [] ∨ ∃ m a, l = m ++ [a] := by
  rcases List.eq_nil_or_concat l with h | ⟨m, a, h⟩
  · exact .inl h
  · exact .inr ⟨m, a, by rw [h, List.concat_eq_append]⟩
def Wk (ps : List (Int × Int)) (S : List Int) (s : Int) : Nat → Int → Prop
  | 0, x => x = s
  | t + 1, y => ∃ x, Wk ps S s t x ∧ y ∈ nbr ps x ∧ y ∈ S
def Rch (ps : List (Int × Int)) (S : List Int) (s x : Int) : Prop := ∃ t, Wk ps S s t x
def Dst (ps : List (Int × Int)) (S : List Int) (s : Int) (t : Nat) (x : Int) : Prop := Wk ps S s t x ∧ ∀ j, j < t → ¬ Wk ps S s j x
section
variable {ps : List (Int × Int)} {S : List Int} {s x y : Int} {t : Nat}
theorem Rch.refl : Rch ps S s s := ⟨0, rfl⟩
theorem Rch.step (h : Rch ps S s x) (hy : y ∈ nbr ps x) (hS : y ∈ S) : Rch ps S s y := let ⟨t, h⟩ := h; ⟨t + 1, x, h, hy, hS⟩
theorem Wk.mem : ∀ {t : Nat} {x : Int}, s ∈ S → Wk ps S s t x → x ∈ S
  | 0, _, h, e => by rw [show _ = s from e]; exact h
  | _ + 1, _, _, ⟨_, _, _, h⟩ => h
theorem Rch.mem (hs : s ∈ S) (h : Rch ps S s x) : x ∈ S := let ⟨_, h⟩ := h; Wk.mem hs h
theorem Wk.trans {a b c : Int} : ∀ {t j : Nat} {c : Int}, Wk ps S a t b → Wk ps S b j c → Rch ps S a c
  | _, 0, _, h, e => by rw [show _ = b from e]; exact ⟨_, h⟩
  | _, _ + 1, _, h, ⟨_, h1, h2, h3⟩ => (Wk.trans (c := c) h h1).step h2 h3
theorem Rch.trans {a b c : Int} (h : Rch ps S a b) (g : Rch ps S b c) : Rch ps S a c := let ⟨_, h⟩ := h; let ⟨_, g⟩ := g; Wk.trans (c := c) h g
theorem Wk.symm : ∀ {t : Nat} {x : Int}, s ∈ S → Wk ps S s t x → Rch ps S x s
  | 0, _, _, e => by rw [show _ = s from e]; exact .refl
  | _ + 1, _, hs, ⟨_, h1, h2, h3⟩ => ((Rch.refl).step (nbr_symm.mp h2) (Wk.mem hs h1)).trans (Wk.symm hs h1)
theorem Rch.symm (hs : s ∈ S) (h : Rch ps S s x) : Rch ps S x s := let ⟨_, h⟩ := h; Wk.symm hs h
theorem Rch.congr {S' : List Int} (h : ∀ x, x ∈ S → x ∈ S') : Rch ps S s x → Rch ps S' s x := by
  rintro ⟨t, ht⟩
  induction t generalizing x with
  | zero => exact ⟨0, ht⟩
  | succ t ih =>
    obtain ⟨z, h1, h2, h3⟩ := ht
    exact (ih h1).step h2 (h _ h3)
theorem Dst.uniq {t j : Nat} (h : Dst ps S s t x) (g : Dst ps S s j x) : t = j := by
  rcases Nat.lt_trichotomy t j with l | l | l
  · exact absurd h.1 (g.2 t l)
  · exact l
  · exact absurd g.1 (h.2 j l)
theorem Wk.dst : ∀ {t : Nat}, Wk ps S s t x → ∃ j, j ≤ t ∧ Dst ps S s j x := by
  intro t
  induction t using Nat.strongRecOn with
  | _ t ih =>
    intro h
    by_cases e : ∃ j, j < t ∧ Wk ps S s j x
    · obtain ⟨j, hj, w⟩ := e
      obtain ⟨i, hi, d⟩ := ih j hj w
      exact ⟨i, by omega, d⟩
    · exact ⟨t, Nat.le_refl _, h, fun j hj w => e ⟨j, hj, w⟩⟩
theorem Dst.back (h : Dst ps S s (t + 1) y) : ∃ x, Dst ps S s t x ∧ y ∈ nbr ps x ∧ y ∈ S := by
  obtain ⟨⟨x, h1, h2, h3⟩, m⟩ := h
  exact ⟨x, ⟨h1, fun j hj w => m (j + 1) (by omega) ⟨x, w, h2, h3⟩⟩, h2, h3⟩
theorem nodup_len : ∀ {l m : List Int}, l.Nodup → (∀ x, x ∈ l → x ∈ m) → l.length ≤ m.length
  | [], _, _, _ => Nat.zero_le _
  | a :: l, m, nd, h => by
    rw [List.nodup_cons] at nd
    have ha : a ∈ m := h a List.mem_cons_self
    have := nodup_len (l := l) (m := m.erase a) nd.2 fun x hx => (List.mem_erase_of_ne fun e => nd.1 (by rw [← e]; exact hx)).mpr (h x (List.mem_cons_of_mem _ hx))
    have e := List.length_erase_of_mem ha
    have p := List.length_pos_of_mem ha
    rw [List.length_cons]; omega
/-- as many unlike standings as the distance and one -/
theorem Dst.chain (hs : s ∈ S) : ∀ {t : Nat} {x : Int}, Dst ps S s t x → ∃ l : List Int, l.length = t + 1 ∧ l.Nodup ∧ (∀ y, y ∈ l → y ∈ S) ∧ ∀ y, y ∈ l → ∃ j, j ≤ t ∧ Dst ps S s j y
  | 0, x, h => ⟨[x], rfl, by simp, fun y hy => by rw [List.mem_singleton.mp hy]; exact Wk.mem hs h.1, fun y hy => by rw [List.mem_singleton.mp hy]; exact ⟨0, Nat.le_refl _, h⟩⟩
  | t + 1, x, h => by
    obtain ⟨z, hz, _, _⟩ := h.back
    obtain ⟨l, h1, h2, h3, h4⟩ := Dst.chain hs hz
    refine ⟨x :: l, by rw [List.length_cons, h1], List.nodup_cons.mpr ⟨fun hx => ?_, h2⟩, fun y hy => ?_, fun y hy => ?_⟩
    · obtain ⟨j, hj, d⟩ := h4 x hx
      have := d.uniq h
      omega
    · rcases List.mem_cons.mp hy with rfl | hy
      · exact Wk.mem hs h.1
      · exact h3 y hy
    · rcases List.mem_cons.mp hy with rfl | hy
      · exact ⟨t + 1, Nat.le_refl _, h⟩
      · obtain ⟨j, hj, d⟩ := h4 y hy
        exact ⟨j, by omega, d⟩
theorem Dst.lt (hs : s ∈ S) (h : Dst ps S s t x) : t < S.length := by
  obtain ⟨l, h1, h2, h3, _⟩ := h.chain hs
  have := nodup_len h2 h3
  omega
def HangsP (ps : List (Int × Int)) (S : List Int) : Prop := ∀ x ∈ S, ∀ y ∈ S, Rch ps S x y
theorem hangs_from (hs : s ∈ S) : HangsP ps S ↔ ∀ x ∈ S, Rch ps S s x := ⟨fun h x hx => h s hs x hx, fun h x hx y hy => ((h x hx).symm hs).trans (h y hy)⟩
theorem HangsP.congr {S' : List Int} (h : ∀ x, x ∈ S ↔ x ∈ S') : HangsP ps S ↔ HangsP ps S' :=
  ⟨fun g x hx y hy => (g x ((h x).mpr hx) y ((h y).mpr hy)).congr fun z => (h z).mp, fun g x hx y hy => (g x ((h x).mp hx) y ((h y).mp hy)).congr fun z => (h z).mpr⟩
theorem HangsP.one : HangsP ps [x] := fun a ha b hb => by
  rw [List.mem_singleton.mp ha, List.mem_singleton.mp hb]; exact .refl
theorem HangsP.more {a : Int} (h : HangsP ps S) (ha : a ∈ S) (hx : x ∈ nbr ps a) : HangsP ps (S ++ [x]) := by
  refine (hangs_from (s := a) (List.mem_append_left _ ha)).mpr fun y hy => ?_
  rcases List.mem_append.mp hy with hy | hy
  · exact (h a ha y hy).congr fun z hz => List.mem_append_left _ hz
  · rw [List.mem_singleton.mp hy]
    exact Rch.refl.step hx (by simp)
end
/-! ### dicts of ints -/
def kvT (x : Int) : Key × D := (.inl x, .bl true)
theorem dval_ints {κ : Int → Key × D} (hk : ∀ x, (κ x).1 = .inl x) {ks : List Int} {x : Int} : (dval (ks.map κ) (.inl x)).isSome = decide (x ∈ ks) := by
  induction ks with
  | nil => rfl
  | cons q ks ih =>
    rw [List.map_cons, show κ q = ((.inl q : Key), (κ q).2) from Prod.ext (hk q) rfl, dval_cons]
    by_cases e : q = x
    · subst e; simp
    · rw [if_neg fun z => e (Sum.inl.inj z), ih]
      have e2 : ¬ x = q := fun z => e z.symm
      simp [e2]
theorem dput_new {κ : Type} [DecidableEq κ] {l : List (κ × D)} {k : κ} {d : D} (h : dval l k = none) : dput l k d = l ++ [(k, d)] := by
  unfold dput
  rw [h]; rfl
theorem none_of {o : Option D} (h : o.isSome = false) : o = none := by cases o <;> first | rfl | cases h
theorem dput_kvT {ks : List Int} {x : Int} (h : x ∉ ks) : dput (ks.map kvT) (.inl x) (.bl true) = (ks ++ [x]).map kvT := by
  rw [dput_new (none_of (by rw [dval_ints (fun _ => rfl), decide_eq_false h])), List.map_append]; rfl
/-- the lot as a dict -/
structure InsAt (M : Mp) (d : Addr) (ns : List Int) : Prop where
  ex : ∃ kvs, M d = some (.dK kvs) ∧ kvs.length = ns.length ∧ ∀ x : Int, (dval kvs (.inl x)).isSome = decide (x ∈ ns)
theorem InsAt.of {M : Mp} {d : Addr} {ns : List Int} (h : M d = some (.dK (ns.map kvT))) : InsAt M d ns := ⟨_, h, by simp, fun x => dval_ints fun _ => rfl⟩
theorem InsAt.keep {M M' : Mp} {d : Addr} {ns : List Int} (h : InsAt M d ns) (e : M' d = M d) : InsAt M' d ns := ⟨by rw [e]; exact h.ex⟩
theorem InsAt.has {M : Mp} {d : Addr} {ns : List Int} (h : InsAt M d ns) (x : Int) : inV' M (.int x) (.ref d) = some (decide (x ∈ ns)) := by
  obtain ⟨kvs, h1, _, h3⟩ := h.ex
  simp only [inV', h1, dLook, keyOf, Option.map_some, h3]
theorem has_kvT {M : Mp} {d : Addr} {ks : List Int} (h : M d = some (.dK (ks.map kvT))) (x : Int) : inV' M (.int x) (.ref d) = some (decide (x ∈ ks)) := (InsAt.of h).has x
theorem fold_kvT : ∀ (ns acc : List Int), (acc ++ ns).Nodup → (ns.map D.int).foldl (fun a d => dput a ((match d with | .int i => .inl i | _ => .inl 0) : Key) (.bl true)) (acc.map kvT) = (acc ++ ns).map kvT
  | [], acc, _ => by simp
  | x :: ns, acc, h => by
    rw [List.map_cons, List.foldl_cons]
    have hx : x ∉ acc := fun z => by
      rw [List.nodup_append] at h
      exact h.2.2 x z x List.mem_cons_self rfl
    have h2 : ((acc ++ [x]) ++ ns).Nodup := by rw [List.append_assoc]; exact h
    show List.foldl _ (dput (acc.map kvT) (.inl x) (.bl true)) _ = _
    rw [dput_kvT hx, fold_kvT ns (acc ++ [x]) h2, List.append_assoc]
    rfl

/-- a right lot -/
structure LotOk (n : Int) (ns : List Int) : Prop where
  ne : ns ≠ []
  nd : ns.Nodup
  rg : ∀ x ∈ ns, 0 ≤ x ∧ x < n
theorem LotOk.len {n : Int} {ns : List Int} (h : LotOk n ns) : (ns.length : Int) ≤ n := by
  have := nodup_len (l := ns) (m := (List.range n.toNat).map fun (i : Nat) => (i : Int)) h.nd fun x hx => by
    have := h.rg x hx
    exact List.mem_map.mpr ⟨x.toNat, List.mem_range.mpr (by omega), by omega⟩
  rw [List.length_map, List.length_range] at this
  obtain ⟨x, hx⟩ := List.exists_mem_of_ne_nil _ h.ne
  have := h.rg x hx
  omega
theorem ixN_of {n : Nat} {i : Int} {j : Nat} (h : i = (j : Int)) (hj : j < n) : ixN n i = some j := by
  subst h
  unfold ixN
  rw [if_pos (by omega), if_pos (by omega)]
  rfl
theorem eraseIdx_perm {α : Type} : ∀ {l : List α} {j : Nat} {x : α}, l[j]? = some x → (l.eraseIdx j ++ [x]).Perm l
  | y :: l, 0, x, h => by
    simp at h; subst h
    show (l ++ [y]).Perm (y :: l)
    exact List.perm_append_comm
  | y :: l, j + 1, x, h => by
    show (y :: (l.eraseIdx j ++ [x])).Perm (y :: l)
    exact List.Perm.cons _ (eraseIdx_perm (by simpa using h))
  | [], j, x, h => by simp at h

/-- the flood behind t turns -/
structure FlSt (ps : List (Int × Int)) (ns : List Int) (s : Int) (t : Nat) (kt : List (Int × Nat)) (fr : List Int) : Prop where
  nd : (kt.map (·.1)).Nodup
  mem : ∀ x j, (x, j) ∈ kt ↔ j ≤ t ∧ Dst ps ns s j x
  fnd : fr.Nodup
  fmem : ∀ x, x ∈ fr ↔ Dst ps ns s t x
/-- .. within a turn -/
structure FlIn (ps : List (Int × Int)) (ns : List Int) (s : Int) (t : Nat) (kt : List (Int × Nat)) (la : List Int) : Prop where
  nd : (kt.map (·.1) ++ la).Nodup
  lmem : ∀ y, y ∈ la → Dst ps ns s (t + 1) y
section
variable {ps : List (Int × Int)} {ns : List Int} {s x y : Int} {t : Nat} {kt : List (Int × Nat)} {fr la : List Int}
theorem FlSt.new (h : FlSt ps ns s t kt fr) (hx : Dst ps ns s t x) (hy : y ∈ nbr ps x) (hn : y ∈ ns) (hk : y ∉ kt.map (·.1)) : Dst ps ns s (t + 1) y :=
  ⟨⟨x, hx.1, hy, hn⟩, fun j hj w => by
    obtain ⟨i, hi, d⟩ := w.dst
    exact hk (List.mem_map.mpr ⟨(y, i), (h.mem y i).mpr ⟨by omega, d⟩, rfl⟩)⟩
theorem FlIn.len (hs : s ∈ ns) (hst : FlSt ps ns s t kt fr) (h : FlIn ps ns s t kt la) : kt.length + la.length ≤ ns.length := by
  have := nodup_len (l := kt.map (·.1) ++ la) (m := ns) h.nd fun z hz => by
    rcases List.mem_append.mp hz with hz | hz
    · obtain ⟨⟨a, j⟩, ha, rfl⟩ := List.mem_map.mp hz
      exact Wk.mem hs ((hst.mem a j).mp ha).2.1
    · exact Wk.mem hs (h.lmem z hz).1
  rw [List.length_append, List.length_map] at this
  exact this
theorem FlSt.next (hst : FlSt ps ns s t kt fr) (h : FlIn ps ns s t kt la) (hc : ∀ x, x ∈ fr → ∀ y, y ∈ nbr ps x → y ∈ ns → y ∈ kt.map (·.1) ++ la) : FlSt ps ns s (t + 1) (kt ++ la.map fun y => (y, t + 1)) la := by
  have em : (kt ++ la.map fun y => (y, t + 1)).map (·.1) = kt.map (·.1) ++ la := by
    rw [List.map_append, List.map_map]
    congr 1
    exact List.map_id _
  have full : ∀ y, Dst ps ns s (t + 1) y → y ∈ la := fun y hy => by
    obtain ⟨x, hx, h1, h2⟩ := hy.back
    rcases List.mem_append.mp (hc x ((hst.fmem x).mpr hx) y h1 h2) with z | z
    · obtain ⟨⟨a, j⟩, ha, rfl⟩ := List.mem_map.mp z
      have := ((hst.mem a j).mp ha)
      have e := this.2.uniq hy
      omega
    · exact z
  refine ⟨by rw [em]; exact h.nd, fun z j => ?_, (List.nodup_append.mp h.nd).2.1, fun z => ⟨h.lmem z, full z⟩⟩
  rw [List.mem_append, hst.mem, List.mem_map]
  constructor
  · rintro (⟨h1, h2⟩ | ⟨y, hy, e⟩)
    · exact ⟨by omega, h2⟩
    · cases e; exact ⟨Nat.le_refl _, h.lmem _ hy⟩
  · rintro ⟨h1, h2⟩
    by_cases e : j = t + 1
    · subst e; exact .inr ⟨z, full z h2, rfl⟩
    · exact .inl ⟨by omega, h2⟩
end

/-! ### breadth first: behind k turns -/
structure Bfs (ps : List (Int × Int)) (ns : List Int) (s : Int) (kt : List (Int × Nat)) (k : Nat) : Prop where
  nd : (kt.map (·.1)).Nodup
  dst : ∀ x j, (x, j) ∈ kt → Dst ps ns s j x
  srt : kt.Pairwise fun a b => a.2 ≤ b.2
  s0 : s ∈ kt.map (·.1)
  kl : k ≤ kt.length
  cl : ∀ x j, (x, j) ∈ kt.take k → ∀ y, y ∈ nbr ps x → y ∈ ns → y ∈ kt.map (·.1)
  win : ∀ x j, kt[k]? = some (x, j) → (∀ y i, (y, i) ∈ kt → i ≤ j + 1) ∧ ∀ i y, i ≤ j → Dst ps ns s i y → y ∈ kt.map (·.1)
section
variable {ps : List (Int × Int)} {ns : List Int} {s x y : Int} {j k : Nat} {kt : List (Int × Nat)} {la : List Int}
theorem Bfs.zero : Bfs ps ns s [(s, 0)] 0 := by
  refine ⟨by simp, fun x j h => ?_, by simp, by simp, Nat.zero_le _, fun x j h => by simp at h, fun x j h => ?_⟩
  · rw [List.mem_singleton] at h
    cases h
    exact ⟨rfl, fun j hj => absurd hj (Nat.not_lt_zero j)⟩
  · simp at h
    obtain ⟨rfl, rfl⟩ := h
    refine ⟨fun y i h => ?_, fun i y hi h => ?_⟩
    · rw [List.mem_singleton] at h; cases h; omega
    · have : i = 0 := by omega
      subst this
      rw [show y = s from h.1]; simp
theorem Bfs.new (h : Bfs ps ns s kt k) (hk : kt[k]? = some (x, j)) (hy : y ∈ nbr ps x) (hn : y ∈ ns) (hm : y ∉ kt.map (·.1)) : Dst ps ns s (j + 1) y :=
  ⟨⟨x, (h.dst x j (List.mem_of_getElem? hk)).1, hy, hn⟩, fun i hi w => by
    obtain ⟨i', hi', d⟩ := w.dst
    exact hm ((h.win x j hk).2 i' y (by omega) d)⟩
theorem Bfs.len (hs : s ∈ ns) (hb : Bfs ps ns s kt k) (h : FlIn ps ns s j kt la) : kt.length + la.length ≤ ns.length := by
  have := nodup_len (l := kt.map (·.1) ++ la) (m := ns) h.nd fun z hz => by
    rcases List.mem_append.mp hz with hz | hz
    · obtain ⟨⟨a, i⟩, ha, rfl⟩ := List.mem_map.mp hz
      exact Wk.mem hs (hb.dst a i ha).1
    · exact Wk.mem hs (h.lmem z hz).1
  rw [List.length_append, List.length_map] at this
  exact this
theorem keys_app (la : List Int) : (kt ++ la.map fun y => (y, j)).map (·.1) = kt.map (·.1) ++ la := by
  rw [List.map_append, List.map_map]
  congr 1
  exact List.map_id _
theorem Bfs.next (h : Bfs ps ns s kt k) (hk : kt[k]? = some (x, j)) (hf : FlIn ps ns s j kt la) (hc : ∀ y, y ∈ nbr ps x → y ∈ ns → y ∈ kt.map (·.1) ++ la) : Bfs ps ns s (kt ++ la.map fun y => (y, j + 1)) (k + 1) := by
  have hkl : k < kt.length := (List.getElem?_eq_some_iff.mp hk).1
  have xm : (x, j) ∈ kt := List.mem_of_getElem? hk
  have tk : (kt ++ la.map fun y => (y, j + 1)).take (k + 1) = kt.take k ++ [(x, j)] := by
    rw [List.take_append_of_le_length (by omega), take_succ_of hk]
  have sr : (kt ++ la.map fun y => (y, j + 1)).Pairwise fun a b => a.2 ≤ b.2 := by
    rw [List.pairwise_append]
    refine ⟨h.srt, ?_, fun a ha b hb => ?_⟩
    · rw [List.pairwise_map]
      exact List.pairwise_of_forall fun _ _ => Nat.le_refl _
    · obtain ⟨y, _, rfl⟩ := List.mem_map.mp hb
      exact (h.win x j hk).1 a.1 a.2 ha
  refine ⟨by rw [keys_app]; exact hf.nd, fun z i hz => ?_, sr, by rw [keys_app]; exact List.mem_append_left _ h.s0, by rw [List.length_append]; omega, fun z i hz y hy hn => ?_, fun z i hz => ?_⟩
  · rcases List.mem_append.mp hz with hz | hz
    · exact h.dst z i hz
    · obtain ⟨y, hy, e⟩ := List.mem_map.mp hz
      cases e
      exact hf.lmem _ hy
  · rw [keys_app]
    rw [tk] at hz
    rcases List.mem_append.mp hz with hz | hz
    · exact List.mem_append_left _ (h.cl z i hz y hy hn)
    · rw [List.mem_singleton] at hz
      cases hz
      exact hc y hy hn
  · have hk2 : (kt ++ la.map fun y => (y, j + 1))[k]? = some (x, j) := by rw [List.getElem?_append_left hkl]; exact hk
    have lo : j ≤ i := pw_next sr hk2 hz
    have all : ∀ y i, (y, i) ∈ kt ++ la.map (fun y => (y, j + 1)) → i ≤ j + 1 := fun y i hm => by
      rcases List.mem_append.mp hm with hm | hm
      · exact (h.win x j hk).1 y i hm
      · obtain ⟨_, _, e⟩ := List.mem_map.mp hm
        cases e
        exact Nat.le_refl _
    have hi := all z i (List.mem_of_getElem? hz)
    refine ⟨fun y i' hm => Nat.le_trans (all y i' hm) (by omega), fun i' y hi' hd => ?_⟩
    rw [keys_app]
    by_cases e : i' ≤ j
    · exact List.mem_append_left _ ((h.win x j hk).2 i' y e hd)
    · have e2 : i' = j + 1 := by omega
      subst e2
      obtain ⟨u, hu, h1, h2⟩ := hd.back
      obtain ⟨⟨u', j'⟩, hm, rfl⟩ := List.mem_map.mp ((h.win x j hk).2 j u (Nat.le_refl _) hu)
      have e3 : j' = j := (h.dst _ _ hm).uniq hu
      subst e3
      obtain ⟨m, hm2⟩ := List.mem_iff_getElem?.mp hm
      have ml := (List.getElem?_eq_some_iff.mp hm2).1
      by_cases hmk : m < k
      · exact List.mem_append_left _ (h.cl u' j' (List.mem_iff_getElem?.mpr ⟨m, by rw [List.getElem?_take, if_pos hmk]; exact hm2⟩) y h1 h2)
      · by_cases hmk2 : m = k
        · subst hmk2
          rw [hm2] at hk
          cases hk
          exact hc y h1 h2
        · exfalso
          have hm3 : (kt ++ la.map fun y => (y, j' + 1))[m]? = some (u', j') := by rw [List.getElem?_append_left ml]; exact hm2
          obtain ⟨a1, b1⟩ := List.getElem?_eq_some_iff.mp hz
          obtain ⟨a2, b2⟩ := List.getElem?_eq_some_iff.mp hm3
          by_cases hm4 : m = k + 1
          · subst hm4
            rw [b1] at b2
            cases b2
            omega
          · have := List.pairwise_iff_getElem.mp sr (k + 1) m a1 a2 (by omega)
            rw [b1, b2] at this
            simp only at this
            omega
theorem Bfs.full (h : Bfs ps ns s kt kt.length) : ∀ x j, (x, j) ∈ kt ↔ Dst ps ns s j x := fun x j => ⟨h.dst x j, fun hd => by
  have key : ∀ j x, Dst ps ns s j x → x ∈ kt.map (·.1) → (x, j) ∈ kt := fun j x hd hm => by
    obtain ⟨⟨a, i⟩, ha, rfl⟩ := List.mem_map.mp hm
    rw [hd.uniq (h.dst a i ha)]
    exact ha
  refine key j x hd ?_
  induction j generalizing x with
  | zero => rw [show x = s from hd.1]; exact h.s0
  | succ j ih =>
    obtain ⟨z, hz, h1, h2⟩ := hd.back
    exact h.cl z j (by rw [List.take_length]; exact key j z hz (ih z hz)) x h1 h2⟩
theorem ixL_at {M : Mp} {l : List D} {i : Int} {k : Nat} {d : D} (hi : i = (k : Int)) (h : l[k]? = some d) : dIxV M (.lst l) (.int i) = some d := atI_at hi h
theorem ixT_at {M : Mp} {l : List D} {i : Int} {k : Nat} {d : D} (hi : i = (k : Int)) (h : l[k]? = some d) : dIxV M (.tup l) (.int i) = some d := atI_at hi h
/-- the way: each time the least that is one push nearer -/
def IsWay (ps : List (Int × Int)) (ns : List Int) (g : Int) : Nat → Int → List Int → Prop
  | 0, x, l => l = [x]
  | t + 1, x, l => ∃ y r, l = x :: r ∧ IsWay ps ns g t y r ∧ y ∈ nbr ps x ∧ Dst ps ns g t y ∧ ∀ z, z ∈ nbr ps x → Dst ps ns g t z → y ≤ z
theorem IsWay.uniq {g : Int} : ∀ {t : Nat} {x : Int} {l m : List Int}, IsWay ps ns g t x l → IsWay ps ns g t x m → l = m
  | 0, _, _, _, h1, h2 => h1.trans h2.symm
  | t + 1, _, _, _, ⟨y, r, e, h, a, b, c⟩, ⟨y', r', e', h', a', b', c'⟩ => by
    have q : y = y' := Int.le_antisymm (c y' a' b') (c' y a b)
    subst q
    rw [e, e', IsWay.uniq h h']
theorem wk_congr {ms : List Int} (h : ∀ z, z ∈ ns ↔ z ∈ ms) : ∀ {t : Nat} {x : Int}, Wk ps ns s t x ↔ Wk ps ms s t x
  | 0, _ => Iff.rfl
  | t + 1, x => ⟨fun ⟨z, a, b, c⟩ => ⟨z, (wk_congr h).mp a, b, (h x).mp c⟩, fun ⟨z, a, b, c⟩ => ⟨z, (wk_congr h).mpr a, b, (h x).mpr c⟩⟩
theorem dst_congr {ms : List Int} (h : ∀ z, z ∈ ns ↔ z ∈ ms) {t : Nat} {x : Int} : Dst ps ns s t x ↔ Dst ps ms s t x := by
  unfold Dst
  rw [wk_congr h]
  exact and_congr Iff.rfl ⟨fun g j hj w => g j hj ((wk_congr h).mpr w), fun g j hj w => g j hj ((wk_congr h).mp w)⟩
theorem IsWay.congr {ms : List Int} {g : Int} (h : ∀ z, z ∈ ns ↔ z ∈ ms) : ∀ {t : Nat} {x : Int} {l : List Int}, IsWay ps ns g t x l → IsWay ps ms g t x l
  | 0, _, _, h1 => h1
  | t + 1, _, _, ⟨y, r, e, h1, a, b, c⟩ => ⟨y, r, e, IsWay.congr h h1, a, (dst_congr h).mp b, fun z h2 h3 => c z h2 ((dst_congr h).mpr h3)⟩
theorem IsWay.len {g : Int} : ∀ {t : Nat} {x : Int} {l : List Int}, IsWay ps ns g t x l → l.length = t + 1
  | 0, _, _, h => by rw [show _ = _ from h]; rfl
  | t + 1, _, _, ⟨y, r, e, h, _⟩ => by rw [e, List.length_cons, h.len]
theorem IsWay.head {g : Int} : ∀ {t : Nat} {x : Int} {l : List Int}, IsWay ps ns g t x l → l[0]? = some x
  | 0, _, _, h => by rw [show _ = _ from h]; rfl
  | t + 1, _, _, ⟨y, r, e, h, _⟩ => by rw [e]; rfl
end

/-- all but a few as they were -/
theorem Ext.cutL {M M' : Mp} {S : List Addr} (a : Ext M M' S) : ∃ M2, MLe M2 M' ∧ Agree M M2 S ∧ ∀ q, q ∈ S → M2 q = M' q := by
  refine ⟨fun q => if q ∈ S then M' q else M q, fun q o h => ?_, fun q h => if_neg h, fun q h => if_pos h⟩
  by_cases e : q ∈ S
  · simp only [if_pos e] at h; exact h
  · simp only [if_neg e] at h; exact a q o e h
/-! ### books -/
structure Cl_TB (K : PySem.W.Frag) (mg : Str → Option Value) (C : Addr) : Prop where
  cl : Cls K C
  n_kept_size : NoAttr K C "kept_size"
  n_kept_ties : NoAttr K C "kept_ties"
  n_kept_facts : NoAttr K C "kept_facts"
def bookF (n : Int) (ps : List (Int × Int)) (d : Addr) : List (Str × D) := [("kept_size", .int n), ("kept_ties", .tup (ps.map prD)), ("kept_facts", .ref d)]
def allOf (n : Int) : List Int := (List.range n.toNat).map fun (i : Nat) => (i : Int)
theorem allOf_mem {n x : Int} : x ∈ allOf n ↔ 0 ≤ x ∧ x < n := by
  unfold allOf
  rw [List.mem_map]
  constructor
  · rintro ⟨i, hi, rfl⟩
    have := List.mem_range.mp hi
    omega
  · rintro ⟨h0, h1⟩
    exact ⟨x.toNat, List.mem_range.mpr (by omega), by omega⟩
theorem allOf_nodup (n : Int) : (allOf n).Nodup := by
  unfold allOf
  refine List.pairwise_map.mpr ((List.nodup_range (n := n.toNat)).imp ?_)
  intro a b h e
  omega
theorem allOf_len (n : Int) : (allOf n).length = n.toNat := by unfold allOf; simp
theorem rgD_all {n : Int} : rgD 0 n.toNat = (allOf n).map .int := by
  unfold rgD allOf
  rw [List.map_map]
  apply List.map_congr_left
  intro i _
  show D.int (0 + (i : Int)) = D.int (i : Int)
  rw [Int.zero_add]
structure BookOk (n : Int) (ps : List (Int × Int)) : Prop where
  lo : 1 ≤ n
  hi : n ≤ 8
  pr : PrsOk n ps
  hang : HangsP ps (allOf n)
theorem bne : (¬ ("kept_size" : Str) = "kept_ties") ∧ (¬ ("kept_size" : Str) = "kept_facts") ∧ (¬ ("kept_ties" : Str) = "kept_facts") := by decide +kernel
theorem fb_facts (n : Int) (ps : List (Int × Int)) (d : Addr) : (bookF n ps d).lookup ("kept_facts" : Str) = some (.ref d) := rfl
structure BookAt (C : Addr) (M : Mp) (p : Addr) (n : Int) (ps : List (Int × Int)) (d : Addr) : Prop where
  ob : M p = some (.ins C (bookF n ps d))
  fc : M d = some (.dK [(.inr "tied", .lst (rowsD n ps))])
  ok : BookOk n ps
theorem BookAt.ne {C : Addr} {M : Mp} {p : Addr} {n : Int} {ps : List (Int × Int)} {d : Addr} (h : BookAt C M p n ps d) : p ≠ d := fun e => by
  have := h.ob
  rw [e, h.fc] at this
  cases this
theorem BookAt.keep {C : Addr} {M M' : Mp} {S : List Addr} {p : Addr} {n : Int} {ps : List (Int × Int)} {d : Addr} (h : BookAt C M p n ps d) (a : Agree M M' S) (hp : p ∉ S) (hd : d ∉ S) : BookAt C M' p n ps d :=
  ⟨by rw [a p hp]; exact h.ob, by rw [a d hd]; exact h.fc, h.ok⟩
theorem BookAt.ext {C : Addr} {M M' : Mp} {S : List Addr} {p : Addr} {n : Int} {ps : List (Int × Int)} {d : Addr} (h : BookAt C M p n ps d) (a : Ext M M' S) (hp : p ∉ S) (hd : d ∉ S) : BookAt C M' p n ps d :=
  ⟨a _ _ hp h.ob, a _ _ hd h.fc, h.ok⟩
/-- pairs of at most eight -/
def prs8 : List (Int × Int) := (List.range 8).flatMap fun (b : Nat) => (List.range b).map fun (a : Nat) => ((a : Int), (b : Int))
theorem nodup_lenG {α : Type} [BEq α] [LawfulBEq α] : ∀ {l m : List α}, l.Nodup → (∀ x, x ∈ l → x ∈ m) → l.length ≤ m.length
  | [], _, _, _ => Nat.zero_le _
  | a :: l, m, nd, h => by
    rw [List.nodup_cons] at nd
    have ha : a ∈ m := h a List.mem_cons_self
    have := nodup_lenG (l := l) (m := m.erase a) nd.2 fun x hx => (List.mem_erase_of_ne fun e => nd.1 (by rw [← e]; exact hx)).mpr (h x (List.mem_cons_of_mem _ hx))
    have e := List.length_erase_of_mem ha
    have p := List.length_pos_of_mem ha
    rw [List.length_cons]; omega
theorem PrsOk.nodup {n : Int} {ps : List (Int × Int)} (h : PrsOk n ps) : ps.Nodup := h.lt.imp fun {a b} h e => by
  subst e
  unfold prLt at h
  omega
theorem PrsOk.len28 {n : Int} {ps : List (Int × Int)} (h : PrsOk n ps) (hn : n ≤ 8) : ps.length ≤ 28 := by
  have := nodup_lenG (l := ps) (m := prs8) h.nodup fun p hp => by
    obtain ⟨a, b⟩ := p
    have := h.ok _ hp
    unfold prOk at this
    simp only at this
    unfold prs8
    rw [List.mem_flatMap]
    have ea : (a.toNat : Int) = a := Int.toNat_of_nonneg (by omega)
    have eb : (b.toNat : Int) = b := Int.toNat_of_nonneg (by omega)
    exact ⟨b.toNat, List.mem_range.mpr (by omega), List.mem_map.mpr ⟨a.toNat, List.mem_range.mpr (by omega), by rw [ea, eb]⟩⟩
  have e : prs8.length = 28 := by decide +kernel
  omega
theorem Rch.more {ps qs : List (Int × Int)} {S : List Int} {s x : Int} (h : ∀ x y, y ∈ nbr ps x → y ∈ nbr qs x) : Rch ps S s x → Rch qs S s x := by
  rintro ⟨t, ht⟩
  induction t generalizing x with
  | zero => exact ⟨0, ht⟩
  | succ t ih =>
    obtain ⟨z, h1, h2, h3⟩ := ht
    exact (ih h1).step (h _ _ h2) h3
/-- pairs of a book under way -/
structure BSt (M : Mp) (p : Addr) (n s : Int) (R : Int → Prop) (b : Nat) (M' : Mp) (l : Addr) (qs : List (Int × Int)) : Prop where
  dice : DiceAt M' p
  ext : Ext M M' [p]
  fr : M l = none
  lst : M' l = some (.lst (qs.map prD))
  ok : ∀ q ∈ qs, (0 ≤ q.1 ∧ q.1 < n) ∧ (0 ≤ q.2 ∧ q.2 < n) ∧ q.1 ≠ q.2
  len : qs.length ≤ b
  rch : ∀ x, R x → Rch qs (allOf n) s x
section
variable {M : Mp} {p : Addr} {n s : Int} {R R' : Int → Prop} {b b' : Nat} {M' M2 : Mp} {l l' : Addr} {qs ms : List (Int × Int)}
theorem BSt.ne (W : BSt M p n s R b M' l qs) : l ≠ p := W.dice.ne W.lst
theorem BSt.to (W : BSt M p n s R b M' l qs) (d : DiceAt M2 p) (a : Agree M' M2 [p]) : BSt M p n s R b M2 l qs :=
  ⟨d, W.ext.trans a.ext, W.fr, by rw [a l (by simpa using W.ne)]; exact W.lst, W.ok, W.len, W.rch⟩
/-- min and max of each, strictly ascending: a book's ties -/
theorem BSt.book {rs : List (Int × Int)} (n0 : 1 ≤ n) (n8 : n ≤ 8) (W : BSt M p n s (fun x => 0 ≤ x ∧ x < n) b M' l qs) (hs : 0 ≤ s ∧ s < n) (pw : rs.Pairwise prLt) (mem : ∀ r, r ∈ rs ↔ r ∈ qs.map fun q => (if q.2 < q.1 then q.2 else q.1, if q.1 < q.2 then q.2 else q.1)) : BookOk n rs := by
  have nb : ∀ x y, y ∈ nbr qs x → y ∈ nbr rs x := fun x y h => by
    rw [nbr_mem] at h ⊢
    have key : ∀ a b, (a, b) ∈ qs → (a, b) ∈ rs ∨ (b, a) ∈ rs := fun a b hab => by
      have z := (mem _).mpr (List.mem_map.mpr ⟨_, hab, rfl⟩)
      have o := W.ok _ hab
      simp only at z o
      by_cases e : a < b
      · rw [if_neg (by omega), if_pos e] at z; exact .inl z
      · rw [if_pos (by omega), if_neg e] at z; exact .inr z
    rcases h with h | h
    · exact key _ _ h
    · exact (key _ _ h).symm
  refine ⟨n0, n8, ⟨fun r hr => ?_, pw⟩, ?_⟩
  · obtain ⟨q, hq, rfl⟩ := List.mem_map.mp ((mem r).mp hr)
    have o := W.ok q hq
    unfold prOk
    simp only
    by_cases e : q.1 < q.2
    · rw [if_neg (by omega), if_pos e]; omega
    · rw [if_pos (by omega), if_neg e]; omega
  · refine (hangs_from (s := s) (allOf_mem.mpr hs)).mpr fun x hx => ?_
    exact (W.rch x (allOf_mem.mp hx)).more nb
end

/-! ### the dice as a list -/
def dilL (ns : List Int) (a r m c : Int) : List D := [.lst (ns.map .int), .int a, .int r, .int m, .int c]
structure DiL (M : Mp) (p : Addr) : Prop where
  ex : ∃ (ns : List Int) (a r m c : Int), M p = some (.lst (dilL ns a r m c)) ∧ 0 ≤ a ∧ 0 ≤ r
theorem DiL.keep {M M' : Mp} {S : List Addr} {p : Addr} (h : DiL M p) (a : Agree M M' S) (hp : p ∉ S) : DiL M' p := ⟨by rw [a p hp]; exact h.ex⟩
theorem DiL.ext {M M' : Mp} {S : List Addr} {p : Addr} (h : DiL M p) (a : Ext M M' S) (hp : p ∉ S) : DiL M' p := by
  obtain ⟨ns, a', r, m, c, h1, h2⟩ := h.ex
  exact ⟨ns, a', r, m, c, a _ _ hp h1, h2⟩
theorem DiL.some {M : Mp} {p l : Addr} (h : DiL M p) (hl : M l = none) : l ≠ p := fun e => by
  obtain ⟨ns, a, r, m, c, hp, _⟩ := h.ex
  rw [e, hp] at hl; cases hl
theorem DiL.mset {M : Mp} {p l : Addr} {o : MO} (h : DiL M p) (hl : l ≠ p) : DiL (DL.mset M l o) p := ⟨by rw [mset_ne (Ne.symm hl)]; exact h.ex⟩
theorem DiL.mdel {M : Mp} {p l : Addr} (h : DiL M p) (hl : l ≠ p) : DiL (DL.mdel M l) p := ⟨by rw [mdel_ne (Ne.symm hl)]; exact h.ex⟩
section
variable {M : Mp} {p : Addr} {ns : List Int} {a r m c x : Int} (h : M p = some (.lst (dilL ns a r m c)))
include h
theorem il0 : dIxV M (.ref p) (.int 0) = some (.lst (ns.map .int)) := by simp only [dIxV, h]; rfl
theorem il1 : dIxV M (.ref p) (.int 1) = some (.int a) := by simp only [dIxV, h]; rfl
theorem il2 : dIxV M (.ref p) (.int 2) = some (.int r) := by simp only [dIxV, h]; rfl
theorem il3 : dIxV M (.ref p) (.int 3) = some (.int m) := by simp only [dIxV, h]; rfl
theorem il4 : dIxV M (.ref p) (.int 4) = some (.int c) := by simp only [dIxV, h]; rfl
theorem sl1 : dStore M p (.int 1) (.int x) = some (mset M p (.lst (dilL ns x r m c))) := by simp only [dStore, h]; rfl
theorem sl2 : dStore M p (.int 2) (.int x) = some (mset M p (.lst (dilL ns a x m c))) := by simp only [dStore, h]; rfl
theorem sl3 : dStore M p (.int 3) (.int x) = some (mset M p (.lst (dilL ns a r x c))) := by simp only [dStore, h]; rfl
theorem sl4 : dStore M p (.int 4) (.int x) = some (mset M p (.lst (dilL ns a r m x))) := by simp only [dStore, h]; rfl
end

/-- a dict of right pairs under way -/
structure PSt (M : Mp) (p : Addr) (n : Int) (b : Nat) (M' : Mp) (d : Addr) (ks : List (Int × Int)) : Prop where
  dice : DiL M' p
  ext : Ext M M' [p]
  at_ : M' d = some (.dT (ks.map kvP))
  fr : M d = none
  ne : d ≠ p
  nd : ks.Nodup
  ok : ∀ q ∈ ks, prOk n q
  len : ks.length ≤ b
theorem PSt.to {M : Mp} {p : Addr} {n : Int} {b : Nat} {M' M2 : Mp} {d : Addr} {ks : List (Int × Int)} (W : PSt M p n b M' d ks) (h : DiL M2 p) (a : Agree M' M2 [p]) : PSt M p n b M2 d ks :=
  ⟨h, W.ext.trans a.ext, (a d (by simpa using W.ne)).trans W.at_, W.fr, W.ne, W.nd, W.ok, W.len⟩
theorem PSt.put {M : Mp} {p : Addr} {n : Int} {b : Nat} {M' : Mp} {d : Addr} {ks : List (Int × Int)} (W : PSt M p n b M' d ks) {x y : Int} (h : prOk n (x, y)) (hb : b ≤ 1000000) : ∃ M2 ks2, dStore M' d (.tup [.int x, .int y]) (.bl true) = some M2 ∧ PSt M p n (b + 1) M2 d ks2 := by
  have wl := W.len
  refine ⟨mset M' d (.dT ((if (x, y) ∈ ks then ks else ks ++ [(x, y)]).map kvP)), if (x, y) ∈ ks then ks else ks ++ [(x, y)], ?_, W.dice.mset W.ne, W.ext.mset W.fr, mset_same, W.fr, W.ne, ?_, fun q hq => ?_, ?_⟩
  · have e := dput_kvP (ks := ks) (p := (x, y))
    simp only [dStore, W.at_, keysOf, keyOf, Option.bind_some]
    rw [if_pos (by rw [List.length_map]; exact len_lt (by omega))]
    exact congrArg (fun z => some (mset M' d (.dT z))) e
  · by_cases hk : (x, y) ∈ ks
    · rw [if_pos hk]; exact W.nd
    · rw [if_neg hk, List.nodup_append]
      exact ⟨W.nd, by simp, fun a ha b hb => by
        rw [List.mem_singleton.mp hb]
        exact fun z => hk (z ▸ ha)⟩
  · by_cases hk : (x, y) ∈ ks
    · rw [if_pos hk] at hq; exact W.ok q hq
    · rw [if_neg hk] at hq
      rcases List.mem_append.mp hq with z | z
      · exact W.ok q z
      · rw [List.mem_singleton.mp z]; exact h
  · by_cases hk : (x, y) ∈ ks
    · rw [if_pos hk]; omega
    · rw [if_neg hk, List.length_append]; simp; omega

/-! ### any thing judged as a bar -/
theorem map_blsA {α : Type} (f : α → Bool) (l : List α) : l.map (fun x => D.bl (f x)) = (l.map f).map .bl := by rw [List.map_map]; rfl
theorem ntup_ty {M : Mp} {x : D} {T : String} (hx : tupOf x = none) (h : tyN M x = some T) : isiT T "tuple" = false := by
  have f1 : isiT "list" "tuple" = false := by decide +kernel
  have f2 : isiT "dict" "tuple" = false := by decide +kernel
  have f3 : isiT "NoneType" "tuple" = false := by decide +kernel
  have f4 : isiT "bool" "tuple" = false := by decide +kernel
  have f5 : isiT "int" "tuple" = false := by decide +kernel
  have f6 : isiT "str" "tuple" = false := by decide +kernel
  cases x with
  | kt l => cases hx
  | tup l => cases hx
  | ref p =>
    simp only [tyN] at h
    split at h <;> first | (cases h; first | exact f1 | exact f2) | cases h
  | _ => simp only [tyN] at h; cases h <;> first | exact f1 | exact f2 | exact f3 | exact f4 | exact f5 | exact f6
structure RowT (x : D) : Prop where
  ty : ∀ M : Mp, (tyN M x).isSome = true
  nk : ∀ l, x ≠ .kt l
  it : ∀ l, x = .tup l → l.length ≤ 60 ∧ ∀ y ∈ l, ∀ M : Mp, (tyN M y).isSome = true
structure RowsT (x : D) : Prop where
  ty : ∀ M : Mp, (tyN M x).isSome = true
  nk : ∀ l, x ≠ .kt l
  it : ∀ l, x = .tup l → l.length ≤ 100 ∧ ∀ y ∈ l, RowT y
theorem ntup {M : Mp} {x : D} {T : String} (nk : ∀ l, x ≠ .kt l) (h : ∀ l, x ≠ .tup l) (hT : tyN M x = some T) : isiT T "tuple" = false := by
  refine ntup_ty ?_ hT
  cases x with
  | tup l => exact absurd rfl (h l)
  | kt l => exact absurd rfl (nk l)
  | _ => rfl
theorem int_inj : ∀ {u v : List Int}, u.map D.int = v.map D.int → u = v
  | [], [], _ => rfl
  | [], _ :: _, h => by cases h
  | _ :: _, [], h => by cases h
  | x :: u, y :: v, h => by
    rw [List.map_cons, List.map_cons] at h
    injection h with h1 h2
    injection h1 with h1
    rw [h1, int_inj h2]
theorem any_intS (x : Int) : ∀ ns : List Int, ((ns.map D.int).any fun y => y.eq (D.int x)) = decide (x ∈ ns)
  | [] => rfl
  | y :: ns => by
    rw [List.map_cons, List.any_cons, any_intS x ns, D.eq_int]
    by_cases h : x = y
    · simp [h]
    · simp [h, Ne.symm h, fun z : y = x => h z.symm]
theorem in_tupI {M : Mp} {ns : List Int} {x : Int} : inV' M (.int x) (.tup (ns.map .int)) = some (decide (x ∈ ns)) := by
  simp only [inV', ok_int, D.ok, okL_int, and_self, if_true, any_intS]
def fiveP : List (Int × Int) := [(0, 1), (0, 2), (0, 3), (0, 4), (1, 2), (1, 3), (1, 4), (2, 3), (2, 4), (3, 4)]
def threeP : List (Int × Int) := [(0, 3), (0, 4), (0, 5), (1, 3), (1, 4), (1, 5), (2, 3), (2, 4), (2, 5)]
def prsW (f : Bool) : List (Int × Int) := if f = true then fiveP else threeP
def corW (f : Bool) : Nat := if f = true then 5 else 6
def wordW (f : Bool) : D := if f = true then .str "five" else .str "three"
def innW (us : List Int) : List Int := us.tail.dropLast
structure WayP (n : Int) (ps : List (Int × Int)) (us : List Int) (a b : Int) : Prop where
  nd : us.Nodup
  rg : ∀ u ∈ us, 0 ≤ u ∧ u < n
  l2 : 2 ≤ us.length
  hd : us[0]? = some a
  tl : us[us.length - 1]? = some b
  st : ∀ (i : Nat) x y, us[i]? = some x → us[i + 1]? = some y → y ∈ nbr ps x
structure BarP (n : Int) (ps : List (Int × Int)) (f : Bool) (cs : List Int) (ws : List (List Int)) : Prop where
  cl : cs.length = corW f
  rg : ∀ c ∈ cs, 0 ≤ c ∧ c < n
  wl : ws.length = (prsW f).length
  way : ∀ (k : Nat) p us, (prsW f)[k]? = some p → ws[k]? = some us → WayP n ps us (cs.getD p.1.toNat 0) (cs.getD p.2.toNat 0)
  inn : (cs ++ ws.flatMap innW).Nodup
def tupI (us : List Int) : D := .tup (us.map .int)
def UnlA (n : Int) (x : D) : Prop := ∃ us : List Int, x = tupI us ∧ us.Nodup ∧ ∀ u ∈ us, 0 ≤ u ∧ u < n
def WayA (n : Int) (ps : List (Int × Int)) (x : D) (a b : Int) : Prop := ∃ us, x = tupI us ∧ WayP n ps us a b
def barD (f : Bool) (cs : List Int) (ws : List (List Int)) : D := .tup [wordW f, tupI cs, .tup (ws.map tupI)]
def BarA (n : Int) (ps : List (Int × Int)) (x : D) : Prop := ∃ f cs ws, x = barD f cs ws ∧ BarP n ps f cs ws
theorem tupI_inj {u v : List Int} (h : tupI u = tupI v) : u = v := by
  unfold tupI at h
  injection h with h
  exact int_inj h
theorem tups_inj : ∀ {u v : List (List Int)}, u.map tupI = v.map tupI → u = v
  | [], [], _ => rfl
  | [], _ :: _, h => by cases h
  | _ :: _, [], h => by cases h
  | x :: u, y :: v, h => by
    rw [List.map_cons, List.map_cons] at h
    injection h with h1 h2
    rw [tupI_inj h1, tups_inj h2]
theorem within_int {x : D} {n : Int} (h : x.within 0 (n - 1) = true) : ∃ i : Int, x = .int i ∧ 0 ≤ i ∧ i < n := by
  cases x with
  | int i =>
    simp only [D.within, Bool.and_eq_true, decide_eq_true_eq] at h
    exact ⟨i, rfl, h.1, by omega⟩
  | _ => cases h
theorem int_within {i n : Int} (h0 : 0 ≤ i) (h1 : i < n) : (D.int i).within 0 (n - 1) = true := by
  simp only [D.within, Bool.and_eq_true, decide_eq_true_eq]; omega
theorem within_all {n : Int} : ∀ {l : List D}, (l.map fun e => e.within 0 (n - 1)).all id = true → ∃ us : List Int, l = us.map .int ∧ ∀ u ∈ us, 0 ≤ u ∧ u < n
  | [], _ => ⟨[], rfl, fun _ h => (nomatch h)⟩
  | x :: l, h => by
    rw [List.map_cons, List.all_cons, Bool.and_eq_true] at h
    obtain ⟨us, rfl, hu⟩ := within_all h.2
    obtain ⟨i, rfl, h0, h1⟩ := within_int h.1
    exact ⟨i :: us, rfl, fun v hv => by
      rcases List.mem_cons.mp hv with e | e
      · rw [e]; exact ⟨h0, h1⟩
      · exact hu v e⟩
theorem all_within {n : Int} {us : List Int} (h : ∀ u ∈ us, 0 ≤ u ∧ u < n) : ((us.map D.int).map fun e => e.within 0 (n - 1)).all id = true := by
  rw [List.map_map, List.all_map, List.all_eq_true]
  intro x hx
  exact int_within (h x hx).1 (h x hx).2
theorem nodup_take {l : List Int} {i : Nat} {x : Int} (h : l[i]? = some x) : (l.take (i + 1)).Nodup ↔ (l.take i).Nodup ∧ x ∉ l.take i := by
  rw [take_succ_of h, List.nodup_append]
  constructor
  · rintro ⟨h1, _, h2⟩
    exact ⟨h1, fun hm => h2 x hm x (by simp) rfl⟩
  · rintro ⟨h1, h2⟩
    exact ⟨h1, by simp, fun a ha b hb e => h2 (by rw [← List.mem_singleton.mp hb, ← e]; exact ha)⟩
def rowW (f : Bool) (a : Nat) : List (Int × Int) := if f = true then (List.range (5 - (a + 1))).map fun (j : Nat) => ((a : Int), (a : Int) + 1 + (j : Int)) else (List.range 3).map fun (j : Nat) => ((a : Int), 3 + (j : Int))
def prsI (f : Bool) (k : Nat) : List (Int × Int) := (List.range k).flatMap (rowW f)
theorem prsI_succ (f : Bool) (k : Nat) : prsI f (k + 1) = prsI f k ++ rowW f k := by
  unfold prsI
  rw [List.range_succ, List.flatMap_append, List.flatMap_cons, List.flatMap_nil, List.append_nil]
theorem prsI_len : ∀ (f : Bool) (k : Nat), (prsI f k).length ≤ 5 * k
  | f, 0 => by simp [prsI]
  | f, k + 1 => by
    rw [prsI_succ, List.length_append]
    have h1 := prsI_len f k
    have h2 : (rowW f k).length ≤ 5 := by cases f <;> simp [rowW] <;> omega
    omega
theorem prsI_five : prsI true 5 = prsW true := by decide
theorem prsI_three : prsI false 3 = prsW false := by decide
theorem cutD_takeB {α : Type} {xs : List α} {k : Nat} (h : k ≤ xs.length) : cutD xs none (some (k : Int)) = xs.take k := by
  unfold cutD
  have h1 : HT.sIx xs.length 0 none = 0 := rfl
  rw [h1, HT.sIx_nat, List.drop_zero]
  congr 1
  omega
theorem in_prs {M : Mp} {ps : List (Int × Int)} {p : Int × Int} : inV' M (prD p) (.tup (ps.map prD)) = some (decide (p ∈ ps)) := by
  have h1 : (prD p).ok 60 = true := okL_int [p.1, p.2] 59
  have h2 : D.ok (.tup (ps.map prD)) 60 = true := okL_pr ps 58
  simp only [inV', h1, h2, and_self, if_true]
  congr 1
  induction ps with
  | nil => rfl
  | cons q ps ih =>
    have h3 : D.ok (.tup (ps.map prD)) 60 = true := okL_pr ps 58
    rw [List.map_cons, List.any_cons, ih h3]
    have e1 : (prD q).eq (prD p) = decide (q = p) := by
      unfold prD
      rw [D.eq_tup]
      simp only [D.eqL_cons, D.eqL_nil, D.eq_int, Bool.and_true]
      obtain ⟨a, b⟩ := q
      obtain ⟨c, d⟩ := p
      by_cases h : a = c <;> by_cases g : b = d <;> simp [h, g]
    rw [e1]
    by_cases h : q = p
    · simp [h]
    · have h' : ¬ p = q := fun e => h e.symm
      simp [h, h']
theorem nbr_norm {n : Int} {ps : List (Int × Int)} (ok : PrsOk n ps) {a b : Int} : ((if b < a then b else a, if a < b then b else a) : Int × Int) ∈ ps ↔ b ∈ nbr ps a := by
  rw [nbr_mem]
  constructor
  · intro h
    by_cases z : b < a
    · rw [if_pos z, if_neg (by omega)] at h; exact .inr h
    · by_cases w : a < b
      · rw [if_neg z, if_pos w] at h; exact .inl h
      · rw [if_neg z, if_neg w] at h
        have := ok.ok _ h
        unfold prOk at this
        simp only at this
        omega
  · rintro (h | h)
    · have := ok.ok _ h
      unfold prOk at this
      simp only at this
      rw [if_neg (by omega), if_pos (by omega)]; exact h
    · have := ok.ok _ h
      unfold prOk at this
      simp only at this
      rw [if_pos (by omega), if_neg (by omega)]; exact h
theorem nstr_ty {M : Mp} {x : D} {T : String} (hx : ∀ s, x ≠ .str s) (h : tyN M x = some T) : isiT T "str" = false := by
  have f1 : isiT "list" "str" = false := by decide +kernel
  have f2 : isiT "dict" "str" = false := by decide +kernel
  have f3 : isiT "NoneType" "str" = false := by decide +kernel
  have f4 : isiT "bool" "str" = false := by decide +kernel
  have f5 : isiT "int" "str" = false := by decide +kernel
  have f6 : isiT "tuple" "str" = false := by decide +kernel
  cases x with
  | str s => exact absurd rfl (hx s)
  | ref p =>
    simp only [tyN] at h
    split at h <;> first | (cases h; first | exact f1 | exact f2) | cases h
  | _ => simp only [tyN] at h; cases h <;> first | exact f1 | exact f2 | exact f3 | exact f4 | exact f5 | exact f6
theorem word_inj {f g : Bool} (h : wordW f = wordW g) : f = g := by
  cases f <;> cases g
  · rfl
  · unfold wordW at h; rw [if_neg (by decide), if_pos rfl] at h; injection h with h; exact absurd h (by decide +kernel)
  · unfold wordW at h; rw [if_pos rfl, if_neg (by decide)] at h; injection h with h; exact absurd h (by decide +kernel)
  · rfl
theorem in_word {M : Mp} {s : Str} {f : Bool} (h : D.str s = wordW f) : inV' M (.str s) (.lst [.str (Str.ofString "five"), .str (Str.ofString "three")]) = some true := by
  have ok2 : D.ok (.lst [.str (Str.ofString "five"), .str (Str.ofString "three")]) 60 = true := by decide +kernel
  have ok1 : (D.str s).ok 60 = true := by rw [h]; cases f <;> decide +kernel
  have ok3 : (D.lst [.str (Str.ofString "five"), .str (Str.ofString "three")]).ok 60 = true := ok2
  simp only [inV', ok1, ok2, and_self, if_true, List.any_cons, List.any_nil, Bool.or_false]
  rw [h]
  cases f
  · have : (D.str (Str.ofString "three")).eq (wordW false) = true := by decide +kernel
    rw [this, Bool.or_true]
  · have : (D.str (Str.ofString "five")).eq (wordW true) = true := by decide +kernel
    rw [this, Bool.true_or]
theorem nin_word {M : Mp} {s : Str} (h : ¬ ∃ f, D.str s = wordW f) (ok : (D.str s).ok 60 = true) : inV' M (.str s) (.lst [.str (Str.ofString "five"), .str (Str.ofString "three")]) = some false := by
  have ok2 : D.ok (.lst [.str (Str.ofString "five"), .str (Str.ofString "three")]) 60 = true := by decide +kernel
  simp only [inV', ok, ok2, and_self, if_true, List.any_cons, List.any_nil, D.eq_str, Bool.or_false]
  rw [beq_eq_false_iff_ne.mpr (fun e => h ⟨true, by rw [← e]; rfl⟩), beq_eq_false_iff_ne.mpr (fun e => h ⟨false, by rw [← e]; rfl⟩)]
  rfl
theorem prs_ok (f : Bool) (k : Nat) (p : Int × Int) (h : (prsW f)[k]? = some p) : ∃ i j : Nat, p = ((i : Int), (j : Int)) ∧ i < corW f ∧ j < corW f := by
  have key : ∀ g : Bool, ∀ q ∈ prsW g, 0 ≤ q.1 ∧ 0 ≤ q.2 ∧ q.1.toNat < corW g ∧ q.2.toNat < corW g := by decide
  obtain ⟨h1, h2, h3, h4⟩ := key f p (List.mem_of_getElem? h)
  exact ⟨p.1.toNat, p.2.toNat, Prod.ext (by simp only; omega) (by simp only; omega), h3, h4⟩
theorem zip_at {wr : List D} {ps : List (Int × Int)} {k : Nat} {e : D} (h : (zipD wr (ps.map prD))[k]? = some e) : ∃ r p, wr[k]? = some r ∧ ps[k]? = some p ∧ e = .tup [r, prD p] := by
  unfold zipD at h
  rw [List.getElem?_map, Option.map_eq_some_iff] at h
  obtain ⟨q, hq, rfl⟩ := h
  obtain ⟨h1, h2⟩ := List.getElem?_zip_eq_some.mp hq
  obtain ⟨p, hp, e⟩ := get_pr h2
  exact ⟨q.1, p, h1, hp, by rw [← e]⟩
theorem tups_of {P : Nat → List Int → Prop} : ∀ {wr : List D}, (∀ k, k < wr.length → ∃ us, wr[k]? = some (tupI us) ∧ P k us) → ∃ ws : List (List Int), wr = ws.map tupI ∧ ∀ k us, ws[k]? = some us → P k us := by
  intro wr
  induction wr generalizing P with
  | nil => exact fun _ => ⟨[], rfl, fun k us h => by simp at h⟩
  | cons r wr ih =>
    intro h
    obtain ⟨us, h1, h2⟩ := h 0 (by simp)
    obtain ⟨ws, h3, h4⟩ := ih (P := fun k us => P (k + 1) us) fun k hk => h (k + 1) (by simp; omega)
    refine ⟨us :: ws, ?_, fun k vs hv => ?_⟩
    · simp at h1; rw [h1, h3]; rfl
    · cases k with
      | zero => simp at hv; rw [← hv]; exact h2
      | succ k => exact h4 k vs (by simpa using hv)
theorem inL_ref {M : Mp} {a : Addr} {r : List Int} (h : M a = some (.lst (r.map .int))) {x : Int} : inV' M (.int x) (.ref a) = some (decide (x ∈ r)) := by
  simp only [inV', h, ok_int, D.ok, okL_int, and_self, if_true, any_intS]
theorem mset_le {M : Mp} {p : Addr} {o : MO} (hp : M p = none) : MLe M (mset M p o) := fun q u e => by
  rw [mset_ne (fun z => by rw [z, hp] at e; cases e)]; exact e
theorem inn_len {ws : List (List Int)} (h : ∀ (k : Nat) (us : List Int), ws[k]? = some us → us.length ≤ 60) : ∀ k, k ≤ ws.length → ((ws.take k).flatMap innW).length ≤ 60 * k
  | 0, _ => by simp
  | k + 1, hk => by
    have hu : ws[k]? = some ws[k] := List.getElem?_eq_getElem _
    rw [take_succ_of hu, List.flatMap_append, List.length_append]
    have h1 := inn_len h k (by omega)
    have h2 := h k _ hu
    have h3 : ([ws[k]].flatMap innW).length ≤ ws[k].length := by simp [innW]; omega
    omega
theorem cut_inn {us : List Int} (h : 2 ≤ us.length) : cutD (us.map D.int) (some 1) (some (-1)) = (innW us).map .int := by
  unfold cutD innW
  have h1 : HT.sIx (us.map D.int).length 0 (some 1) = 1 := by
    have := HT.sIx_nat (us.map D.int).length 0 1
    rw [List.length_map] at this ⊢
    rw [show ((1 : Int)) = ((1 : Nat) : Int) from rfl, this]
    omega
  have h2 : HT.sIx (us.map D.int).length (us.map D.int).length (some (-1)) = us.length - 1 := by
    rw [List.length_map]
    unfold HT.sIx
    simp
    omega
  rw [h1, h2, ← List.map_drop, ← List.map_take]
  congr 1
  rw [List.drop_one, List.dropLast_eq_take, List.length_tail]
structure ThW (x : D) : Prop where
  ty : ∀ M : Mp, (tyN M x).isSome = true
  nk : ∀ l, x ≠ .kt l
  it : ∀ w c y, x = .tup [w, c, y] → (∀ M : Mp, (tyN M w).isSome = true) ∧ (∀ s, w = .str s → (D.str s).ok 60 = true) ∧ RowT c ∧ RowsT y

/-! ### a book around a bar -/
theorem inn_at {us : List Int} {u : Int} (h : u ∈ innW us) : ∃ i, 1 ≤ i ∧ i + 1 < us.length ∧ us[i]? = some u := by
  unfold innW at h
  obtain ⟨i, hi⟩ := List.getElem?_of_mem h
  have il := (List.getElem?_eq_some_iff.mp hi).1
  rw [List.length_dropLast, List.length_tail] at il
  rw [List.getElem?_dropLast, if_pos (by rw [List.length_tail]; omega), List.getElem?_tail] at hi
  exact ⟨i + 1, by omega, by omega, hi⟩
theorem at_inn {us : List Int} {u : Int} {i : Nat} (h1 : 1 ≤ i) (h2 : i + 1 < us.length) (h : us[i]? = some u) : u ∈ innW us := by
  unfold innW
  refine List.mem_of_getElem? (i := i - 1) ?_
  rw [List.getElem?_dropLast, if_pos (by rw [List.length_tail]; omega), List.getElem?_tail, show i - 1 + 1 = i by omega]
  exact h
theorem getD_at {us : List Int} {i : Nat} {x : Int} (h : us[i]? = some x) : us.getD i 0 = x := by rw [List.getD_eq_getElem?_getD, h]; rfl
theorem at_getD {us : List Int} {i : Nat} (h : i < us.length) : us[i]? = some (us.getD i 0) := by rw [List.getD_eq_getElem?_getD, List.getElem?_eq_getElem h]; rfl
theorem seg_rch {qs : List (Int × Int)} {S us : List Int} (rg : ∀ u ∈ us, u ∈ S) {a : Nat} : ∀ m : Nat, a + m < us.length → (∀ i x y, a ≤ i → i < a + m → us[i]? = some x → us[i + 1]? = some y → y ∈ nbr qs x) → Rch qs S (us.getD a 0) (us.getD (a + m) 0)
  | 0, _, _ => Rch.refl
  | m + 1, hl, h => by
    have r := seg_rch rg m (by omega) fun i x y h1 h2 h3 h4 => h i x y h1 (by omega) h3 h4
    have h1 := at_getD (us := us) (i := a + m) (by omega)
    have h2 := at_getD (us := us) (i := a + m + 1) (by omega)
    exact r.step (h (a + m) _ _ (by omega) (by omega) h1 h2) (rg _ (List.mem_of_getElem? h2))
def adjC (f : Bool) (k0 : Nat) (i j : Nat) : Bool := (List.range (prsW f).length).any fun k => decide (k ≠ k0) && (decide ((prsW f).getD k (0, 0) = ((i : Int), (j : Int))) || decide ((prsW f).getD k (0, 0) = ((j : Int), (i : Int))))
def conC (f : Bool) (k0 i : Nat) : Bool := decide (i = 0) || (adjC f k0 0 i || ((List.range (corW f)).any (fun a => adjC f k0 0 a && adjC f k0 a i) || (List.range (corW f)).any fun a => adjC f k0 0 a && (List.range (corW f)).any fun b => adjC f k0 a b && adjC f k0 b i))
theorem con_all : ∀ f : Bool, ∀ k0, k0 < 11 → ∀ i, i < corW f → conC f k0 i = true := by
  intro f
  cases f <;> decide +kernel
theorem bar_hangs {n : Int} {ps qs : List (Int × Int)} {f : Bool} {cs : List Int} {ws : List (List Int)} {hg : List (Int × Int)} {k0 j0 : Nat} (B : BarP n ps f cs ws) (hk0 : k0 < 11)
    (h1 : ∀ (k : Nat) us, ws[k]? = some us → ∀ (i : Nat) x y, us[i]? = some x → us[i + 1]? = some y → (k = k0 ∧ i = j0) ∨ y ∈ nbr qs x)
    (h2 : ∀ (h : Nat) p, hg[h]? = some p → p.2 ∈ nbr qs p.1 ∧ (0 ≤ p.2 ∧ p.2 < n) ∧ (p.1 ∈ cs ∨ p.1 ∈ ws.flatMap innW ∨ ∃ h' p', h' < h ∧ hg[h']? = some p' ∧ p'.2 = p.1))
    (cov : ∀ z, 0 ≤ z → z < n → z ∈ cs ∨ z ∈ ws.flatMap innW ∨ ∃ (h : Nat) (p : Int × Int), hg[h]? = some p ∧ p.2 = z) : HangsP qs (allOf n) := by
  have cin : ∀ c ∈ cs, c ∈ allOf n := fun c h => allOf_mem.mpr (B.rg c h)
  have cg : ∀ i, i < corW f → cs.getD i 0 ∈ cs := fun i h => List.mem_of_getElem? (at_getD (by rw [B.cl]; exact h))
  have wayOf : ∀ (k : Nat) us, ws[k]? = some us → ∃ p : Int × Int, (prsW f)[k]? = some p ∧ WayP n ps us (cs.getD p.1.toNat 0) (cs.getD p.2.toNat 0) := fun k us h => by
    have kl := (List.getElem?_eq_some_iff.mp h).1
    obtain ⟨p, hp⟩ : ∃ p, (prsW f)[k]? = some p := ⟨_, List.getElem?_eq_getElem (by have := B.wl; omega)⟩
    exact ⟨p, hp, B.way k p us hp h⟩
  have whole : ∀ (k : Nat) us, ws[k]? = some us → k ≠ k0 → ∀ a b, a ≤ b → b < us.length → Rch qs (allOf n) (us.getD a 0) (us.getD b 0) := fun k us h ne a b hab hb => by
    obtain ⟨p, hp, w⟩ := wayOf k us h
    have := seg_rch (qs := qs) (S := allOf n) (us := us) (fun u hu => allOf_mem.mpr (w.rg u hu)) (a := a) (b - a) (by omega) fun i x y _ _ hx hy => (h1 k us h i x y hx hy).resolve_left fun e => ne e.1
    rwa [show a + (b - a) = b by omega] at this
  have edge : ∀ (k : Nat) p, (prsW f)[k]? = some p → k ≠ k0 → Rch qs (allOf n) (cs.getD p.1.toNat 0) (cs.getD p.2.toNat 0) := fun k p hp ne => by
    have kl := (List.getElem?_eq_some_iff.mp hp).1
    obtain ⟨us, hu⟩ : ∃ us, ws[k]? = some us := ⟨_, List.getElem?_eq_getElem (by have := B.wl; omega)⟩
    have w := B.way k p us hp hu
    have := whole k us hu ne 0 (us.length - 1) (by omega) (by have := w.l2; omega)
    rw [getD_at w.hd, getD_at w.tl] at this
    exact this
  have adj : ∀ i j, i < corW f → adjC f k0 i j = true → Rch qs (allOf n) (cs.getD i 0) (cs.getD j 0) := fun i j hi h => by
    unfold adjC at h
    rw [List.any_eq_true] at h
    obtain ⟨k, hk, h⟩ := h
    have hk := List.mem_range.mp hk
    rw [Bool.and_eq_true, Bool.or_eq_true, decide_eq_true_eq, decide_eq_true_eq, decide_eq_true_eq] at h
    have hp : (prsW f)[k]? = some ((prsW f).getD k (0, 0)) := by rw [List.getD_eq_getElem?_getD, List.getElem?_eq_getElem hk]; rfl
    have e := edge k _ hp h.1
    rcases h.2 with g | g
    · rw [g] at e; simpa using e
    · rw [g] at e
      have e' : Rch qs (allOf n) (cs.getD j 0) (cs.getD i 0) := by simpa using e
      obtain ⟨a, b, pe, ha, hb⟩ := prs_ok f k _ hp
      rw [g] at pe
      have hj : j < corW f := by
        have := (Prod.mk.inj pe).1
        omega
      exact e'.symm (cin _ (cg j hj))
  have c0 : 0 < corW f := by cases f <;> decide
  have corner : ∀ c ∈ cs, Rch qs (allOf n) (cs.getD 0 0) c := fun c hc => by
    obtain ⟨i, hi⟩ := List.getElem?_of_mem hc
    have il := (List.getElem?_eq_some_iff.mp hi).1
    rw [B.cl] at il
    rw [← getD_at hi]
    have h := con_all f k0 hk0 i il
    unfold conC at h
    rw [Bool.or_eq_true, Bool.or_eq_true, Bool.or_eq_true, decide_eq_true_eq, List.any_eq_true, List.any_eq_true] at h
    rcases h with rfl | h | ⟨a, ha, h⟩ | ⟨a, ha, h⟩
    · exact Rch.refl
    · exact adj 0 i c0 h
    · rw [Bool.and_eq_true] at h
      exact (adj 0 a c0 h.1).trans (adj a i (List.mem_range.mp ha) h.2)
    · rw [Bool.and_eq_true, List.any_eq_true] at h
      obtain ⟨b, hb, g⟩ := h.2
      rw [Bool.and_eq_true] at g
      exact ((adj 0 a c0 h.1).trans (adj a b (List.mem_range.mp ha) g.1)).trans (adj b i (List.mem_range.mp hb) g.2)
  have inner : ∀ u ∈ ws.flatMap innW, Rch qs (allOf n) (cs.getD 0 0) u := fun u hu => by
    obtain ⟨us, hus, hu⟩ := List.mem_flatMap.mp hu
    obtain ⟨k, hk⟩ := List.getElem?_of_mem hus
    obtain ⟨i, i1, i2, hi⟩ := inn_at hu
    obtain ⟨p, hp, w⟩ := wayOf k us hk
    obtain ⟨a, b, rfl, ha, hb⟩ := prs_ok f k _ hp
    have e1 := getD_at w.hd
    have e2 := getD_at w.tl
    simp only [Int.toNat_natCast] at e1 e2
    have win : ∀ u ∈ us, u ∈ allOf n := fun u hu => allOf_mem.mpr (w.rg u hu)
    rw [← getD_at hi]
    by_cases ne : k = k0
    · by_cases hj : i ≤ j0
      · have r := seg_rch (qs := qs) (S := allOf n) win (a := 0) i (by omega) fun z x y _ hz hx hy => (h1 k us hk z x y hx hy).resolve_left fun e => by omega
        rw [Nat.zero_add, e1] at r
        exact (corner _ (cg a ha)).trans r
      · have r := seg_rch (qs := qs) (S := allOf n) win (a := i) (us.length - 1 - i) (by omega) fun z x y hz _ hx hy => (h1 k us hk z x y hx hy).resolve_left fun e => by omega
        rw [show i + (us.length - 1 - i) = us.length - 1 by omega, e2] at r
        exact (corner _ (cg b hb)).trans (r.symm (win _ (by rw [getD_at hi]; exact List.mem_of_getElem? hi)))
    · have r := whole k us hk ne 0 i (by omega) (by omega)
      rw [e1] at r
      exact (corner _ (cg a ha)).trans r
  have hung : ∀ (m : Nat) (h : Nat) p, h < m → hg[h]? = some p → Rch qs (allOf n) (cs.getD 0 0) p.2 := fun m => by
    induction m with
    | zero => intro h p hl; omega
    | succ m ih =>
      intro h p hl hp
      obtain ⟨g1, g2, g3⟩ := h2 h p hp
      have base : Rch qs (allOf n) (cs.getD 0 0) p.1 := by
        rcases g3 with g | g | ⟨h', p', hl', hp', e⟩
        · exact corner _ g
        · exact inner _ g
        · rw [← e]; exact ih h' p' (by omega) hp'
      exact base.step g1 (allOf_mem.mpr g2)
  have all : ∀ z ∈ allOf n, Rch qs (allOf n) (cs.getD 0 0) z := fun z hz => by
    have hz := allOf_mem.mp hz
    rcases cov z hz.1 hz.2 with g | g | ⟨h, p, hp, e⟩
    · exact corner _ g
    · exact inner _ g
    · rw [← e]; exact hung (h + 1) h p (by omega) hp
  exact fun x hx y hy => ((all x hx).symm (cin _ (cg 0 c0))).trans (all y hy)
def nrm (a b : Int) : Int × Int := (if b < a then b else a, if a < b then b else a)
theorem nrm_eq {a b c d : Int} (h : nrm a b = nrm c d) : (a = c ∧ b = d) ∨ (a = d ∧ b = c) := by
  unfold nrm at h
  obtain ⟨h1, h2⟩ := Prod.mk.inj h
  by_cases x : b < a <;> by_cases y : d < c
  · rw [if_pos x, if_pos y] at h1; rw [if_neg (by omega), if_neg (by omega)] at h2; omega
  · rw [if_pos x, if_neg y] at h1
    rw [if_neg (by omega)] at h2
    by_cases z : c < d
    · rw [if_pos z] at h2; omega
    · rw [if_neg z] at h2; omega
  · rw [if_neg x, if_pos y] at h1
    by_cases z : a < b
    · rw [if_pos z, if_neg (by omega)] at h2; omega
    · rw [if_neg z, if_neg (by omega)] at h2; omega
  · rw [if_neg x, if_neg y] at h1
    by_cases z : a < b <;> by_cases w : c < d
    · rw [if_pos z, if_pos w] at h2; omega
    · rw [if_pos z, if_neg w] at h2; omega
    · rw [if_neg z, if_pos w] at h2; omega
    · rw [if_neg z, if_neg w] at h2; omega
theorem nrm_comm (a b : Int) (h : a ≠ b) : nrm a b = nrm b a := by
  unfold nrm
  by_cases x : b < a
  · rw [if_pos x, if_neg (by omega), if_neg (by omega), if_pos x]
  · rw [if_neg x, if_pos (by omega), if_pos (by omega), if_neg x]
theorem nrm_ok {n a b : Int} (h : a ≠ b) (a0 : 0 ≤ a ∧ a < n) (b0 : 0 ≤ b ∧ b < n) : prOk n (nrm a b) := by
  unfold nrm prOk
  by_cases x : b < a
  · rw [if_pos x, if_neg (by omega)]; exact ⟨b0.1, x, a0.2⟩
  · rw [if_neg x, if_pos (by omega)]; exact ⟨a0.1, by omega, b0.2⟩
theorem struck_nbr {n : Int} {ps : List (Int × Int)} (ok : PrsOk n ps) {x y a b : Int} (h : y ∈ nbr ps x) (ne : nrm x y ≠ nrm a b) : y ∈ nbr (ps.filter fun p => decide (p ≠ nrm a b)) x := by
  have hm := (nbr_norm ok).mpr h
  have ok2 : PrsOk n (ps.filter fun p => decide (p ≠ nrm a b)) := ⟨fun p hp => ok.ok p (List.mem_filter.mp hp).1, ok.lt.filter _⟩
  exact (nbr_norm ok2).mp (List.mem_filter.mpr ⟨hm, decide_eq_true ne⟩)
theorem flat_dis {ws : List (List Int)} (nd : (ws.flatMap innW).Nodup) {a b : Nat} {v v' : List Int} (hab : a < b) (hv : ws[a]? = some v) (hv' : ws[b]? = some v') {u : Int} (h1 : u ∈ innW v) (h2 : u ∈ innW v') : False := by
  rw [← List.take_append_drop b ws, List.flatMap_append] at nd
  refine (List.nodup_append.mp nd).2.2 u (List.mem_flatMap.mpr ⟨v, ?_, h1⟩) u (List.mem_flatMap.mpr ⟨v', ?_, h2⟩) rfl
  · exact List.mem_of_getElem? (i := a) (by rw [List.getElem?_take, if_pos hab]; exact hv)
  · exact List.mem_of_getElem? (i := 0) (by rw [List.getElem?_drop, Nat.add_zero]; exact hv')
theorem prsW_nd : ∀ f : Bool, (prsW f).Nodup := by decide
theorem prsW_lt : ∀ f : Bool, ∀ q ∈ prsW f, q.1 < q.2 := by decide
/-- a step with a corner at both ends is a whole way -/
theorem both_cor {n : Int} {ps : List (Int × Int)} {us : List Int} {a b : Int} {cs : List Int} (w : WayP n ps us a b) (ic : ∀ u ∈ innW us, u ∉ cs) {i : Nat} {x y : Int} (hx : us[i]? = some x) (hy : us[i + 1]? = some y) (cx : x ∈ cs) (cy : y ∈ cs) : x = a ∧ y = b := by
  have il := (List.getElem?_eq_some_iff.mp hy).1
  have i0 : i = 0 := by
    rcases Nat.eq_zero_or_pos i with e | e
    · exact e
    · exact absurd cx (ic x (at_inn e il hx))
  subst i0
  have i1 : us.length = 2 := by
    rcases Nat.lt_or_ge 2 us.length with e | e
    · exact absurd cy (ic y (at_inn (i := 1) (Nat.le_refl 1) e hy))
    · omega
  have h1 := w.hd
  have h2 := w.tl
  rw [i1] at h2
  exact ⟨Option.some.inj (hx.symm.trans h1), Option.some.inj (hy.symm.trans h2)⟩
/-- no step of one way is a step of another -/
theorem ways_apart {n : Int} {ps : List (Int × Int)} {f : Bool} {cs : List Int} {ws : List (List Int)} (B : BarP n ps f cs ws) {k k0 : Nat} {us vs : List Int} (hk : ws[k]? = some vs) (hk0 : ws[k0]? = some us) (ek : k ≠ k0) {i j0 : Nat} {x y a b : Int}
    (hx : vs[i]? = some x) (hy : vs[i + 1]? = some y) (ha : us[j0]? = some a) (hb : us[j0 + 1]? = some b) : nrm x y ≠ nrm a b := by
  intro e
  have dis := List.nodup_append.mp B.inn
  have innDis : ∀ (k k' : Nat) us us', ws[k]? = some us → ws[k']? = some us' → k ≠ k' → ∀ u ∈ innW us, u ∉ innW us' := fun k k' us us' h h' ne u hu hu' => by
    rcases Nat.lt_or_gt_of_ne ne with l | l
    · exact flat_dis dis.2.1 l h h' hu hu'
    · exact flat_dis dis.2.1 l h' h hu' hu
  have innC : ∀ us ∈ ws, ∀ u ∈ innW us, u ∉ cs := fun us hus u hu hc => dis.2.2 u hc u (List.mem_flatMap.mpr ⟨us, hus, hu⟩) rfl
  have kl := (List.getElem?_eq_some_iff.mp hk).1
  have kl0 := (List.getElem?_eq_some_iff.mp hk0).1
  obtain ⟨p, hp⟩ : ∃ p, (prsW f)[k]? = some p := ⟨_, List.getElem?_eq_getElem (by have := B.wl; omega)⟩
  obtain ⟨p0, hp0⟩ : ∃ p, (prsW f)[k0]? = some p := ⟨_, List.getElem?_eq_getElem (by have := B.wl; omega)⟩
  have w := B.way k p vs hp hk
  have w0 := B.way k0 p0 us hp0 hk0
  have cgm : ∀ (k : Nat) p, (prsW f)[k]? = some p → cs.getD p.1.toNat 0 ∈ cs ∧ cs.getD p.2.toNat 0 ∈ cs := fun k p hp => by
    obtain ⟨a, b, rfl, ha, hb⟩ := prs_ok f k _ hp
    exact ⟨List.mem_of_getElem? (at_getD (by rw [B.cl]; simpa using ha)), List.mem_of_getElem? (at_getD (by rw [B.cl]; simpa using hb))⟩
  have part : ∀ (k : Nat) (v : List Int) (p : Int × Int), (prsW f)[k]? = some p → ws[k]? = some v → ∀ (i : Nat) z, v[i]? = some z → z ∈ cs ∨ z ∈ innW v := fun k v p hp hk i z hz => by
    have w := B.way k p v hp hk
    have il := (List.getElem?_eq_some_iff.mp hz).1
    by_cases e : i = 0
    · rw [e, w.hd] at hz; rw [← Option.some.inj hz]; exact .inl (cgm k p hp).1
    · by_cases e2 : i = v.length - 1
      · rw [e2, w.tl] at hz; rw [← Option.some.inj hz]; exact .inl (cgm k p hp).2
      · exact .inr (at_inn (by omega) (by omega) hz)
  have inC : ∀ z, (z ∈ cs ∨ z ∈ innW vs) → (z ∈ cs ∨ z ∈ innW us) → z ∈ cs := fun z h1 h2 => by
    rcases h1 with h1 | h1
    · exact h1
    · rcases h2 with h2 | h2
      · exact h2
      · exact absurd h2 (innDis k k0 vs us hk hk0 ek z h1)
  have px := part k vs p hp hk i x hx
  have py := part k vs p hp hk (i + 1) y hy
  have pa := part k0 us p0 hp0 hk0 j0 a ha
  have pb := part k0 us p0 hp0 hk0 (j0 + 1) b hb
  have csnd := dis.1
  have idx : ∀ (i j : Nat), i < corW f → j < corW f → cs.getD i 0 = cs.getD j 0 → i = j := fun i j hi hj h => by
    have h1 := at_getD (us := cs) (i := i) (by rw [B.cl]; exact hi)
    have h2 := at_getD (us := cs) (i := j) (by rw [B.cl]; exact hj)
    exact (List.getElem?_inj (by rw [B.cl]; exact hi) csnd).mp (by rw [h1, h2, h])
  obtain ⟨u1, u2, pe, hu1, hu2⟩ := prs_ok f k _ hp
  obtain ⟨v1, v2, pe0, hv1, hv2⟩ := prs_ok f k0 _ hp0
  have lt := prsW_lt f p (List.mem_of_getElem? hp)
  have lt0 := prsW_lt f p0 (List.mem_of_getElem? hp0)
  subst pe
  subst pe0
  simp only [Int.toNat_natCast] at w w0
  have same : (u1 : Int) = v1 → (u2 : Int) = v2 → False := fun h1 h2 => by
    refine ek ((List.getElem?_inj (List.getElem?_eq_some_iff.mp hp).1 (prsW_nd f)).mp (hp.trans ?_))
    rw [h1, h2]; exact hp0.symm
  rcases nrm_eq e with ⟨e1, e2⟩ | ⟨e1, e2⟩
  · subst e1; subst e2
    have cx := inC x px pa
    have cy := inC y py pb
    obtain ⟨f1, f2⟩ := both_cor w (innC vs (List.mem_of_getElem? hk)) hx hy cx cy
    obtain ⟨f3, f4⟩ := both_cor w0 (innC us (List.mem_of_getElem? hk0)) ha hb cx cy
    exact same (by rw [idx u1 v1 hu1 hv1 (f1.symm.trans f3)]) (by rw [idx u2 v2 hu2 hv2 (f2.symm.trans f4)])
  · subst e1; subst e2
    have cx := inC x px pb
    have cy := inC y py pa
    obtain ⟨f1, f2⟩ := both_cor w (innC vs (List.mem_of_getElem? hk)) hx hy cx cy
    obtain ⟨f3, f4⟩ := both_cor w0 (innC us (List.mem_of_getElem? hk0)) ha hb cy cx
    have g1 := idx u1 v2 hu1 hv2 (f1.symm.trans f4)
    have g2 := idx u2 v1 hu2 hv1 (f2.symm.trans f3)
    simp only at lt lt0
    omega
/-- what is told of the book around a bar, whatever the order in which the bar is told -/
def StrOk (n : Int) (ps : List (Int × Int)) (ws : List (List Int)) : Prop := ∀ us ∈ ws, ∀ (i : Nat) x y, us[i]? = some x → us[i + 1]? = some y → BookOk n (ps.filter fun p => decide (p ≠ nrm x y))
theorem bar_str {n : Int} {ps : List (Int × Int)} {f : Bool} {cs : List Int} {ws : List (List Int)} {hg : List (Int × Int)} (n1 : 1 ≤ n) (n8 : n ≤ 8) (ok : PrsOk n ps) (B : BarP n ps f cs ws)
    (h2 : ∀ (h : Nat) p, hg[h]? = some p → p.2 ∈ nbr ps p.1 ∧ (0 ≤ p.2 ∧ p.2 < n) ∧ (p.2 ∉ cs ∧ p.2 ∉ ws.flatMap innW) ∧ (p.1 ∈ cs ∨ p.1 ∈ ws.flatMap innW ∨ ∃ h' p', h' < h ∧ hg[h']? = some p' ∧ p'.2 = p.1))
    (cov : ∀ z, 0 ≤ z → z < n → z ∈ cs ∨ z ∈ ws.flatMap innW ∨ ∃ (h : Nat) (p : Int × Int), hg[h]? = some p ∧ p.2 = z) : BookOk n ps ∧ StrOk n ps ws := by
  have wl10 : (prsW f).length ≤ 10 := by cases f <;> decide
  refine ⟨⟨n1, n8, ok, bar_hangs (hg := hg) (k0 := 10) (j0 := 0) B (by decide) (fun k us hk i x y hx hy => ?_) (fun h p hp => ?_) cov⟩, fun us hus j0 a b ha hb => ?_⟩
  · have kl := (List.getElem?_eq_some_iff.mp hk).1
    obtain ⟨p, hp⟩ : ∃ p, (prsW f)[k]? = some p := ⟨_, List.getElem?_eq_getElem (by have := B.wl; omega)⟩
    exact .inr ((B.way k p us hp hk).st i x y hx hy)
  · obtain ⟨g1, g2, g3, g4⟩ := h2 h p hp
    exact ⟨g1, g2, g4⟩
  · obtain ⟨k0, hk0⟩ := List.getElem?_of_mem hus
    have kl0 := (List.getElem?_eq_some_iff.mp hk0).1
    obtain ⟨p0, hp0⟩ : ∃ p, (prsW f)[k0]? = some p := ⟨_, List.getElem?_eq_getElem (by have := B.wl; omega)⟩
    have w0 := B.way k0 p0 us hp0 hk0
    have mem0 : ∀ (us : List Int) (k : Nat), ws[k]? = some us → ∀ (p : Int × Int), (prsW f)[k]? = some p → ∀ (i : Nat) x, us[i]? = some x → (i = 0 ∧ x = cs.getD p.1.toNat 0) ∨ (i = us.length - 1 ∧ x = cs.getD p.2.toNat 0) ∨ x ∈ innW us := fun us k hk p hp i x hx => by
      have w := B.way k p us hp hk
      have il := (List.getElem?_eq_some_iff.mp hx).1
      by_cases e : i = 0
      · subst e; rw [w.hd] at hx; exact .inl ⟨rfl, (Option.some.inj hx).symm⟩
      · by_cases e2 : i = us.length - 1
        · subst e2; rw [w.tl] at hx; exact .inr (.inl ⟨rfl, (Option.some.inj hx).symm⟩)
        · exact .inr (.inr (at_inn (by omega) (by omega) hx))
    have cgm : ∀ (k : Nat) p, (prsW f)[k]? = some p → cs.getD p.1.toNat 0 ∈ cs ∧ cs.getD p.2.toNat 0 ∈ cs := fun k p hp => by
      obtain ⟨a, b, rfl, ha, hb⟩ := prs_ok f k _ hp
      exact ⟨List.mem_of_getElem? (at_getD (by rw [B.cl]; simpa using ha)), List.mem_of_getElem? (at_getD (by rw [B.cl]; simpa using hb))⟩
    have ok2 : PrsOk n (ps.filter fun p => decide (p ≠ nrm a b)) := ⟨fun p hp => ok.ok p (List.mem_filter.mp hp).1, ok.lt.filter _⟩
    refine ⟨n1, n8, ok2, bar_hangs (hg := hg) (k0 := k0) (j0 := j0) B (by have := B.wl; omega) (fun k vs hk i x y hx hy => ?_) (fun h p hp => ?_) cov⟩
    · have kl := (List.getElem?_eq_some_iff.mp hk).1
      obtain ⟨p, hp⟩ : ∃ p, (prsW f)[k]? = some p := ⟨_, List.getElem?_eq_getElem (by have := B.wl; omega)⟩
      have w := B.way k p vs hp hk
      have st := w.st i x y hx hy
      by_cases e : nrm x y = nrm a b
      · left
        by_cases ek : k = k0
        · subst ek
          have ev := Option.some.inj (hk.symm.trans hk0)
          subst ev
          refine ⟨rfl, ?_⟩
          have il := (List.getElem?_eq_some_iff.mp hx).1
          have jl := (List.getElem?_eq_some_iff.mp ha).1
          have il1 := (List.getElem?_eq_some_iff.mp hy).1
          have jl1 := (List.getElem?_eq_some_iff.mp hb).1
          rcases nrm_eq e with ⟨e1, e2⟩ | ⟨e1, e2⟩
          · exact (List.getElem?_inj il w.nd).mp (hx.trans (by rw [e1]; exact ha.symm))
          · have z1 := (List.getElem?_inj il w.nd).mp (hx.trans (by rw [e1]; exact hb.symm))
            have z2 := (List.getElem?_inj il1 w.nd).mp (hy.trans (by rw [e2]; exact ha.symm))
            omega
        · exact absurd e (ways_apart B hk hk0 ek hx hy ha hb)
      · exact .inr (struck_nbr ok st e)
    · obtain ⟨g1, g2, g3, g4⟩ := h2 h p hp
      refine ⟨struck_nbr ok g1 fun e => ?_, g2, g4⟩
      have far : ∀ z ∈ us, z ≠ p.2 := fun z hz e => by
        obtain ⟨i, hi⟩ := List.getElem?_of_mem hz
        rcases mem0 us k0 hk0 p0 hp0 i z hi with ⟨_, g⟩ | ⟨_, g⟩ | g
        · exact g3.1 (by rw [← e, g]; exact (cgm k0 p0 hp0).1)
        · exact g3.1 (by rw [← e, g]; exact (cgm k0 p0 hp0).2)
        · exact g3.2 (by rw [← e]; exact List.mem_flatMap.mpr ⟨us, hus, g⟩)
      rcases nrm_eq e with ⟨_, e2⟩ | ⟨_, e2⟩
      · exact far b (List.mem_of_getElem? hb) e2.symm
      · exact far a (List.mem_of_getElem? ha) e2.symm

/-! ### a bar while it is drawn -/
def wayU (p : Int × Int) (mid : List Int) : List Int := p.1 :: (mid ++ [p.2])
theorem innU (p : Int × Int) (mid : List Int) : innW (wayU p mid) = mid := by
  unfold innW wayU
  rw [List.tail_cons, List.dropLast_concat]
def waysU (f : Bool) (ms : List (List Int)) : List (List Int) := List.zipWith wayU (prsW f) ms
theorem waysU_at {f : Bool} {ms : List (List Int)} {k : Nat} {us : List Int} (h : (waysU f ms)[k]? = some us) : ∃ p mid, (prsW f)[k]? = some p ∧ ms[k]? = some mid ∧ us = wayU p mid := by
  unfold waysU at h
  rw [List.getElem?_zipWith] at h
  cases h1 : (prsW f)[k]? with
  | none => rw [h1] at h; simp at h
  | some p =>
    cases h2 : ms[k]? with
    | none => rw [h1, h2] at h; simp at h
    | some mid => rw [h1, h2] at h; exact ⟨p, mid, rfl, rfl, by simpa using h.symm⟩
theorem at_waysU {f : Bool} {ms : List (List Int)} {k : Nat} {p : Int × Int} {mid : List Int} (h1 : (prsW f)[k]? = some p) (h2 : ms[k]? = some mid) : (waysU f ms)[k]? = some (wayU p mid) := by
  unfold waysU
  rw [List.getElem?_zipWith, h1, h2]
theorem waysU_len {f : Bool} {ms : List (List Int)} (h : ms.length = (prsW f).length) : (waysU f ms).length = (prsW f).length := by
  unfold waysU
  rw [List.length_zipWith, h, Nat.min_self]
theorem waysU_inn : ∀ {qs : List (Int × Int)} {ms : List (List Int)}, ms.length = qs.length → (List.zipWith wayU qs ms).flatMap innW = ms.flatten
  | [], [], _ => rfl
  | [], _ :: _, h => by simp at h
  | _ :: _, [], h => by simp at h
  | q :: qs, m :: ms, h => by
    rw [List.zipWith_cons_cons, List.flatMap_cons, innU, waysU_inn (by simpa using h), List.flatten_cons]
structure BarU (f : Bool) (m : Int) (ms : List (List Int)) (hg : List (Int × Int)) : Prop where
  wl : ms.length = (prsW f).length
  nd : ms.flatten.Nodup
  rg : ∀ u ∈ ms.flatten, (corW f : Int) ≤ u ∧ u < m
  hu : ∀ (h : Nat) q, hg[h]? = some q → 0 ≤ q.1 ∧ q.1 < q.2 ∧ (corW f : Int) ≤ q.2 ∧ q.2 < m ∧ q.2 ∉ ms.flatten ∧ (q.1 < corW f ∨ q.1 ∈ ms.flatten ∨ ∃ h' q', h' < h ∧ hg[h']? = some q' ∧ q'.2 = q.1)
  cov : ∀ z, (corW f : Int) ≤ z → z < m → z ∈ ms.flatten ∨ ∃ (h : Nat) (q : Int × Int), hg[h]? = some q ∧ q.2 = z
  hl : (hg.length : Int) ≤ m - corW f
theorem flat_set : ∀ {ms : List (List Int)} {k : Nat} {mid : List Int} (x : Int) (i : Nat), ms[k]? = some mid → (ms.set k (mid.take i ++ x :: mid.drop i)).flatten.Perm (x :: ms.flatten)
  | [], _, _, _, _, h => by simp at h
  | m :: ms, 0, mid, x, i, h => by
    have e : m = mid := by simpa using h
    subst e
    rw [List.set_cons_zero, List.flatten_cons, List.flatten_cons]
    have h1 : (m.take i ++ x :: m.drop i).Perm (x :: m) := by
      have := List.perm_middle (a := x) (l₁ := m.take i) (l₂ := m.drop i)
      rwa [List.take_append_drop] at this
    exact h1.append_right _
  | m :: ms, k + 1, mid, x, i, h => by
    rw [List.set_cons_succ, List.flatten_cons, List.flatten_cons]
    exact ((flat_set (ms := ms) x i (by simpa using h)).append_left m).trans List.perm_middle
theorem BarU.new (f : Bool) : BarU f (corW f) (List.replicate (prsW f).length []) [] := by
  have e : (List.replicate (prsW f).length ([] : List Int)).flatten = [] := by simp
  refine ⟨by simp, by rw [e]; exact List.nodup_nil, fun u h => (by rw [e] at h; cases h), fun h q hq => (by simp at hq), fun z h1 h2 => by omega, by simp⟩
theorem BarU.ins {f : Bool} {m : Int} {ms : List (List Int)} {hg : List (Int × Int)} (B : BarU f m ms hg) (cm : (corW f : Int) ≤ m) {k : Nat} {mid : List Int} (hk : ms[k]? = some mid) (i : Nat) : BarU f (m + 1) (ms.set k (mid.take i ++ m :: mid.drop i)) hg := by
  have P := flat_set m i hk
  have nm : m ∉ ms.flatten := fun h => by have := B.rg m h; omega
  refine ⟨by rw [List.length_set]; exact B.wl, P.nodup_iff.mpr (List.nodup_cons.mpr ⟨nm, B.nd⟩), fun u h => ?_, fun h q hq => ?_, fun z h1 h2 => ?_, by have := B.hl; omega⟩
  · rcases List.mem_cons.mp (P.mem_iff.mp h) with e | e
    · omega
    · have := B.rg u e; omega
  · obtain ⟨g1, g2, g3, g4, g5, g6⟩ := B.hu h q hq
    refine ⟨g1, g2, g3, by omega, fun e => ?_, ?_⟩
    · rcases List.mem_cons.mp (P.mem_iff.mp e) with e | e
      · omega
      · exact g5 e
    · rcases g6 with g | g | g
      · exact .inl g
      · exact .inr (.inl (P.mem_iff.mpr (List.mem_cons_of_mem _ g)))
      · exact .inr (.inr g)
  · by_cases e : z = m
    · exact .inl (P.mem_iff.mpr (by rw [e]; exact List.mem_cons_self))
    · rcases B.cov z h1 (by omega) with g | g
      · exact .inl (P.mem_iff.mpr (List.mem_cons_of_mem _ g))
      · exact .inr g
theorem BarU.hang {f : Bool} {m : Int} {ms : List (List Int)} {hg : List (Int × Int)} (B : BarU f m ms hg) (cm : (corW f : Int) ≤ m) {x : Int} (x0 : 0 ≤ x) (x1 : x < m) : BarU f (m + 1) ms (hg ++ [(x, m)]) := by
  have nm : m ∉ ms.flatten := fun h => by have := B.rg m h; omega
  have left : ∀ (h : Nat) q, hg[h]? = some q → (hg ++ [(x, m)])[h]? = some q := fun h q hq => by
    rw [List.getElem?_append_left (List.getElem?_eq_some_iff.mp hq).1]; exact hq
  refine ⟨B.wl, B.nd, fun u h => by have := B.rg u h; omega, fun h q hq => ?_, fun z h1 h2 => ?_, by have := B.hl; rw [List.length_append, List.length_singleton]; omega⟩
  · rcases Nat.lt_or_ge h hg.length with l | l
    · rw [List.getElem?_append_left l] at hq
      obtain ⟨g1, g2, g3, g4, g5, g6⟩ := B.hu h q hq
      refine ⟨g1, g2, g3, by omega, g5, ?_⟩
      rcases g6 with g | g | ⟨h', q', a, b, c⟩
      · exact .inl g
      · exact .inr (.inl g)
      · exact .inr (.inr ⟨h', q', a, left _ _ b, c⟩)
    · have el : h = hg.length := by
        have := (List.getElem?_eq_some_iff.mp hq).1
        rw [List.length_append] at this
        simp at this
        omega
      rw [el, List.getElem?_append_right (Nat.le_refl _), Nat.sub_self] at hq
      have e : q = (x, m) := by simpa using hq.symm
      subst e
      refine ⟨x0, x1, cm, by simp only; omega, nm, ?_⟩
      simp only
      by_cases xc : x < corW f
      · exact .inl xc
      · rcases B.cov x (by omega) x1 with g | ⟨h', q', a, b⟩
        · exact .inr (.inl g)
        · exact .inr (.inr ⟨h', q', by rw [el]; exact (List.getElem?_eq_some_iff.mp a).1, left _ _ a, b⟩)
  · by_cases e : z = m
    · exact .inr ⟨hg.length, (x, m), by rw [List.getElem?_append_right (Nat.le_refl _), Nat.sub_self]; rfl, e.symm⟩
    · rcases B.cov z h1 (by omega) with g | ⟨h, q, a, b⟩
      · exact .inl g
      · exact .inr ⟨h, q, left _ _ a, b⟩
theorem nd_flat {ms : List (List Int)} (nd : ms.flatten.Nodup) {k : Nat} {mid : List Int} (h : ms[k]? = some mid) : mid.Nodup := by
  obtain ⟨hl, he⟩ := List.getElem?_eq_some_iff.mp h
  rw [← List.take_append_drop k ms, List.flatten_append, List.drop_eq_getElem_cons hl, List.flatten_cons, he] at nd
  exact (List.nodup_append.mp (List.nodup_append.mp nd).2.1).1
def renN (nm : List Int) (u : Int) : Int := nm.getD u.toNat 0
theorem renN_ok {n : Int} {nm : List Int} (P : nm.Perm (allOf n)) {u : Int} (u0 : 0 ≤ u) (u1 : u < n) : nm[u.toNat]? = some (renN nm u) ∧ 0 ≤ renN nm u ∧ renN nm u < n := by
  have l : nm.length = n.toNat := by rw [P.length_eq, allOf_len]
  have h := at_getD (us := nm) (i := u.toNat) (by omega)
  exact ⟨h, allOf_mem.mp (P.mem_iff.mp (List.mem_of_getElem? h))⟩
theorem renN_inj {n : Int} {nm : List Int} (P : nm.Perm (allOf n)) {u v : Int} (u0 : 0 ≤ u) (u1 : u < n) (v0 : 0 ≤ v) (v1 : v < n) (h : renN nm u = renN nm v) : u = v := by
  have nd : nm.Nodup := P.nodup_iff.mpr (allOf_nodup n)
  have a := (renN_ok P u0 u1).1
  have b := (renN_ok P v0 v1).1
  have e : nm[u.toNat]? = nm[v.toNat]? := by rw [a, b, h]
  have := (List.getElem?_inj (List.getElem?_eq_some_iff.mp a).1 nd).mp e
  omega
theorem renN_sur {n : Int} {nm : List Int} (P : nm.Perm (allOf n)) {z : Int} (z0 : 0 ≤ z) (z1 : z < n) : ∃ u, 0 ≤ u ∧ u < n ∧ renN nm u = z := by
  obtain ⟨i, hi⟩ := List.getElem?_of_mem (P.mem_iff.mpr (allOf_mem.mpr ⟨z0, z1⟩))
  have il := (List.getElem?_eq_some_iff.mp hi).1
  have l : nm.length = n.toNat := by rw [P.length_eq, allOf_len]
  exact ⟨(i : Int), by omega, by omega, by unfold renN; rw [Int.toNat_natCast]; exact getD_at hi⟩
theorem nd_mapL {l : List Int} {g : Int → Int} (h : ∀ a ∈ l, ∀ b ∈ l, g a = g b → a = b) (nd : l.Nodup) : (l.map g).Nodup := by
  refine List.pairwise_map.mpr (List.Pairwise.imp_of_mem ?_ nd)
  intro a b ha hb hab e
  exact hab (h a ha b hb e)
theorem inn_map (us : List Int) (g : Int → Int) : innW (us.map g) = (innW us).map g := by
  unfold innW
  rw [← List.map_tail, List.map_dropLast]
theorem take_ren {n : Int} {nm : List Int} (P : nm.Perm (allOf n)) {c : Nat} (h : (c : Int) ≤ n) : nm.take c = (allOf c).map (renN nm) := by
  have l : nm.length = n.toNat := by rw [P.length_eq, allOf_len]
  apply List.ext_getElem?
  intro i
  rw [List.getElem?_take]
  unfold allOf
  rw [List.map_map, List.getElem?_map]
  by_cases hi : i < c
  · rw [if_pos hi, List.getElem?_range (by omega)]
    have := (renN_ok P (u := (i : Int)) (by omega) (by omega)).1
    rw [Int.toNat_natCast] at this
    exact this
  · rw [if_neg hi, List.getElem?_eq_none (by rw [List.length_range]; omega)]
    rfl
theorem wayU_at {p : Int × Int} {mid : List Int} {i : Nat} {x : Int} (h : (wayU p mid)[i]? = some x) : x = p.1 ∨ x = p.2 ∨ x ∈ mid := by
  have := List.mem_of_getElem? h
  unfold wayU at this
  rcases List.mem_cons.mp this with e | e
  · exact .inl e
  · rcases List.mem_append.mp e with e | e
    · exact .inr (.inr e)
    · exact .inr (.inl (List.mem_singleton.mp e))
theorem bar_made {f : Bool} {n : Int} {ms : List (List Int)} {hg ps : List (Int × Int)} {nm : List Int} (B : BarU f n ms hg) (cn : (corW f : Int) ≤ n) (n8 : n ≤ 8) (P : nm.Perm (allOf n)) (ok : PrsOk n ps)
    (ti : ∀ us ∈ waysU f ms ++ hg.map (fun q => [q.1, q.2]), ∀ (i : Nat) x y, us[i]? = some x → us[i + 1]? = some y → nrm (renN nm x) (renN nm y) ∈ ps) :
    BarP n ps f (nm.take (corW f)) ((waysU f ms).map (·.map (renN nm))) ∧ BookOk n ps ∧ StrOk n ps ((waysU f ms).map (·.map (renN nm))) := by
  have l : nm.length = n.toNat := by rw [P.length_eq, allOf_len]
  have c5 : 5 ≤ corW f := by cases f <;> decide
  have midr : ∀ (k : Nat) mid, ms[k]? = some mid → ∀ u ∈ mid, (corW f : Int) ≤ u ∧ u < n := fun k mid hk u hu => B.rg u (List.mem_flatten.mpr ⟨mid, List.mem_of_getElem? hk, hu⟩)
  have midn : ∀ (k : Nat) mid, ms[k]? = some mid → mid.Nodup := fun k mid hk => (nd_flat B.nd hk)
  have wr : ∀ us ∈ waysU f ms, ∀ u ∈ us, 0 ≤ u ∧ u < n := fun us hus u hu => by
    obtain ⟨k, hk⟩ := List.getElem?_of_mem hus
    obtain ⟨p, mid, hp, hm, rfl⟩ := waysU_at hk
    obtain ⟨a, b, rfl, ha, hb⟩ := prs_ok f k _ hp
    obtain ⟨i, hi⟩ := List.getElem?_of_mem hu
    rcases wayU_at hi with e | e | e
    · simp only at e; omega
    · simp only at e; omega
    · have := midr k mid hm u e; omega
  have innE : ((waysU f ms).map (·.map (renN nm))).flatMap innW = ms.flatten.map (renN nm) := by
    have e1 : ((waysU f ms).map (·.map (renN nm))).flatMap innW = ((waysU f ms).flatMap innW).map (renN nm) := by
      rw [List.flatMap_map, List.map_flatMap]
      congr 1
      funext us
      exact inn_map us _
    rw [e1]
    exact congrArg _ (waysU_inn B.wl)
  have cE := take_ren P cn
  have inC : ∀ u, 0 ≤ u → u < n → (renN nm u ∈ nm.take (corW f) ↔ u < corW f) := fun u u0 u1 => by
    rw [cE, List.mem_map]
    constructor
    · rintro ⟨v, hv, e⟩
      have hv := allOf_mem.mp hv
      have := renN_inj P hv.1 (by omega) u0 u1 e
      omega
    · exact fun h => ⟨u, allOf_mem.mpr ⟨u0, h⟩, rfl⟩
  have inI : ∀ u, 0 ≤ u → u < n → (renN nm u ∈ ms.flatten.map (renN nm) ↔ u ∈ ms.flatten) := fun u u0 u1 => by
    rw [List.mem_map]
    constructor
    · rintro ⟨v, hv, e⟩
      have hr := B.rg v hv
      have := renN_inj P (by omega) hr.2 u0 u1 e
      rw [← this]; exact hv
    · exact fun h => ⟨u, h, rfl⟩
  have BP : BarP n ps f (nm.take (corW f)) ((waysU f ms).map (·.map (renN nm))) := by
    refine ⟨by rw [List.length_take]; omega, fun c hc => allOf_mem.mp (P.mem_iff.mp (List.mem_of_mem_take hc)), by rw [List.length_map]; exact waysU_len B.wl, fun k p us hp hus => ?_, ?_⟩
    · rw [List.getElem?_map, Option.map_eq_some_iff] at hus
      obtain ⟨vs, hvs, rfl⟩ := hus
      have hmem := List.mem_of_getElem? hvs
      obtain ⟨p', mid, hp', hm, rfl⟩ := waysU_at hvs
      have pe := Option.some.inj (hp'.symm.trans hp)
      subst pe
      have plt := prsW_lt f p' (List.mem_of_getElem? hp')
      obtain ⟨a, b, rfl, ha, hb⟩ := prs_ok f k _ hp
      simp only at plt
      have cornerE : ∀ z : Nat, z < corW f → (nm.take (corW f)).getD z 0 = renN nm (z : Int) := fun z hz => by
        rw [List.getD_eq_getElem?_getD, List.getElem?_take, if_pos hz]
        unfold renN
        rw [Int.toNat_natCast, List.getD_eq_getElem?_getD]
      have wl : (wayU ((a : Int), (b : Int)) mid).length = mid.length + 2 := by unfold wayU; simp
      refine ⟨?_, ?_, by rw [List.length_map, wl]; omega, ?_, ?_, ?_⟩
      · refine nd_mapL (fun u hu v hv e => ?_) ?_
        · have h1 := wr _ hmem u hu
          have h2 := wr _ hmem v hv
          exact renN_inj P h1.1 h1.2 h2.1 h2.2 e
        · unfold wayU
          rw [List.nodup_cons, List.nodup_append]
          refine ⟨fun h => ?_, midn k mid hm, by simp, fun u hu v hv e => ?_⟩
          · rcases List.mem_append.mp h with h | h
            · have := midr k mid hm _ h; simp only at this; omega
            · have := List.mem_singleton.mp h; simp only at this; omega
          · have h1 := midr k mid hm _ hu
            have h2 := List.mem_singleton.mp hv
            simp only at h2
            omega
      · intro u hu
        obtain ⟨v, hv, rfl⟩ := List.mem_map.mp hu
        have := wr _ hmem v hv
        exact (renN_ok P this.1 this.2).2
      · rw [Int.toNat_natCast, cornerE a ha]
        unfold wayU
        rfl
      · rw [Int.toNat_natCast, cornerE b hb, List.length_map, wl, List.getElem?_map]
        unfold wayU
        rw [show mid.length + 2 - 1 = mid.length + 1 by omega, List.getElem?_cons_succ, List.getElem?_append_right (Nat.le_refl _), Nat.sub_self]
        rfl
      · intro i x y hx hy
        rw [List.getElem?_map, Option.map_eq_some_iff] at hx hy
        obtain ⟨x, hx, rfl⟩ := hx
        obtain ⟨y, hy, rfl⟩ := hy
        exact (nbr_norm ok).mp (ti _ (List.mem_append_left _ hmem) i x y hx hy)
    · rw [innE, cE, ← List.map_append]
      refine nd_mapL (fun u hu v hv e => ?_) ?_
      · have rng : ∀ z ∈ allOf (corW f : Int) ++ ms.flatten, 0 ≤ z ∧ z < n := fun z hz => by
          rcases List.mem_append.mp hz with h | h
          · have := allOf_mem.mp h; omega
          · have := B.rg z h; omega
        have h1 := rng u hu
        have h2 := rng v hv
        exact renN_inj P h1.1 h1.2 h2.1 h2.2 e
      · rw [List.nodup_append]
        exact ⟨allOf_nodup _, B.nd, fun u hu v hv e => by have := allOf_mem.mp hu; have := B.rg v hv; omega⟩
  refine ⟨BP, ?_⟩
  refine bar_str (hg := hg.map fun q => (renN nm q.1, renN nm q.2)) (by omega) n8 ok BP (fun h p hp => ?_) (fun z z0 z1 => ?_)
  · rw [List.getElem?_map, Option.map_eq_some_iff] at hp
    obtain ⟨q, hq, rfl⟩ := hp
    obtain ⟨g1, g2, g3, g4, g5, g6⟩ := B.hu h q hq
    rw [innE]
    simp only
    rw [inC q.2 (by omega) g4, inI q.2 (by omega) g4, inC q.1 g1 (by omega), inI q.1 g1 (by omega)]
    refine ⟨(nbr_norm ok).mp (ti [q.1, q.2] (List.mem_append_right _ (List.mem_map.mpr ⟨q, List.mem_of_getElem? hq, rfl⟩)) 0 q.1 q.2 rfl rfl), (renN_ok P (by omega) g4).2, ⟨by omega, g5⟩, ?_⟩
    rcases g6 with g | g | ⟨h', q', a, b, c⟩
    · exact .inl g
    · exact .inr (.inl g)
    · exact .inr (.inr ⟨h', _, a, by rw [List.getElem?_map, b]; rfl, by simp only; rw [c]⟩)
  · obtain ⟨u, u0, u1, rfl⟩ := renN_sur P z0 z1
    rw [innE, inC u u0 u1, inI u u0 u1]
    by_cases uc : u < corW f
    · exact .inl uc
    · rcases B.cov u (by omega) u1 with g | ⟨h, q, a, b⟩
      · exact .inr (.inl g)
      · exact .inr (.inr ⟨h, _, by rw [List.getElem?_map, a]; rfl, by simp only; rw [b]⟩)

/-! ### the drawn bar in memory -/
def IsL (M : Mp) (e : D) (us : List Int) : Prop := (∃ a, e = .ref a ∧ M a = some (.lst (us.map .int))) ∨ e = .lst (us.map .int)
theorem IsL.len {M : Mp} {e : D} {us : List Int} (h : IsL M e us) : lenV M e = some us.length := by
  rcases h with ⟨a, rfl, ha⟩ | rfl
  · simp only [lenV, ha, List.length_map]
  · simp only [lenV, List.length_map]
theorem IsL.ix {M : Mp} {e : D} {us : List Int} (h : IsL M e us) {i : Int} {k : Nat} {x : Int} (hi : i = (k : Int)) (hk : us[k]? = some x) : dIxV M e (.int i) = some (.int x) := by
  have hk' : (us.map D.int)[k]? = some (.int x) := by rw [List.getElem?_map, hk]; rfl
  rcases h with ⟨a, rfl, ha⟩ | rfl
  · simp only [dIxV, ha]; exact atI_at hi hk'
  · exact ixL_at hi hk'
theorem IsL.keep {M M' : Mp} {e : D} {us : List Int} (h : IsL M e us) {S : List Addr} (E : Ext M M' S) (hs : ∀ a, e = .ref a → a ∉ S) : IsL M' e us := by
  rcases h with ⟨a, rfl, ha⟩ | rfl
  · exact .inl ⟨a, rfl, E a _ (hs a rfl) ha⟩
  · exact .inr rfl
def hgD (q : Int × Int) : D := .lst [.int q.1, .int q.2]
/-- the ways and what is hung, in memory -/
structure BuM (M : Mp) (p : Addr) (M' : Mp) (f : Bool) (as : List Addr) (h : Addr) (ms : List (List Int)) (hg : List (Int × Int)) : Prop where
  dice : DiL M' p
  ext : Ext M M' [p]
  al : as.length = (prsW f).length
  nd : as.Nodup
  wy : ∀ (k : Nat) a q mid, as[k]? = some a → (prsW f)[k]? = some q → ms[k]? = some mid → M' a = some (.lst ((wayU q mid).map .int))
  fr : ∀ a ∈ as, M a = none
  np : p ∉ as
  hh : M' h = some (.lst (hg.map hgD))
  hf : M h = none
  hn : h ≠ p
  hs : h ∉ as
theorem BuM.to {M : Mp} {p : Addr} {M' M2 : Mp} {f : Bool} {as : List Addr} {h : Addr} {ms : List (List Int)} {hg : List (Int × Int)} (W : BuM M p M' f as h ms hg) (d : DiL M2 p) (a : Agree M' M2 [p]) : BuM M p M2 f as h ms hg :=
  ⟨d, W.ext.trans a.ext, W.al, W.nd, fun k x q mid h1 h2 h3 => (a x (fun z => W.np (by rw [← List.mem_singleton.mp z]; exact List.mem_of_getElem? h1))).trans (W.wy k x q mid h1 h2 h3), W.fr, W.np, (a h (by simpa using W.hn)).trans W.hh, W.hf, W.hn, W.hs⟩
theorem BuM.ext2 {M : Mp} {p : Addr} {M' M2 : Mp} {f : Bool} {as : List Addr} {h : Addr} {ms : List (List Int)} {hg : List (Int × Int)} (W : BuM M p M' f as h ms hg) (d : DiL M2 p) (a : Ext M' M2 [p]) : BuM M p M2 f as h ms hg :=
  ⟨d, W.ext.trans a, W.al, W.nd, fun k x q mid h1 h2 h3 => a x _ (fun z => W.np (by rw [← List.mem_singleton.mp z]; exact List.mem_of_getElem? h1)) (W.wy k x q mid h1 h2 h3), W.fr, W.np, a h _ (by simpa using W.hn) W.hh, W.hf, W.hn, W.hs⟩
theorem BuM.ins {M : Mp} {p : Addr} {M' : Mp} {f : Bool} {as : List Addr} {h : Addr} {ms : List (List Int)} {hg : List (Int × Int)} (W : BuM M p M' f as h ms hg) {k : Nat} {a : Addr} {q : Int × Int} {mid mid' : List Int} (ha : as[k]? = some a) (hq : (prsW f)[k]? = some q) :
    BuM M p (DL.mset M' a (.lst ((wayU q mid').map .int))) f as h (ms.set k mid') hg := by
  have am := List.mem_of_getElem? ha
  refine ⟨W.dice.mset fun e => W.np (by rw [← e]; exact am), W.ext.mset (W.fr a am), W.al, W.nd, fun j b q' m' hb hq' hm => ?_, W.fr, W.np, (mset_ne fun e => W.hs (by rw [e]; exact am)).trans W.hh, W.hf, W.hn, W.hs⟩
  by_cases e : j = k
  · subst e
    have e1 := Option.some.inj (ha.symm.trans hb)
    have e2 := Option.some.inj (hq.symm.trans hq')
    subst e1; subst e2
    have l := (List.getElem?_eq_some_iff.mp hm).1
    rw [List.length_set] at l
    rw [List.getElem?_set_self l] at hm
    rw [← Option.some.inj hm]
    exact mset_same
  · rw [List.getElem?_set_ne (Ne.symm e)] at hm
    rw [mset_ne]
    · exact W.wy j b q' m' hb hq' hm
    · intro z
      exact e ((List.getElem?_inj (List.getElem?_eq_some_iff.mp hb).1 W.nd).mp (by rw [hb, ha, z]))
theorem BuM.hang {M : Mp} {p : Addr} {M' : Mp} {f : Bool} {as : List Addr} {h : Addr} {ms : List (List Int)} {hg : List (Int × Int)} (W : BuM M p M' f as h ms hg) (q : Int × Int) : BuM M p (DL.mset M' h (.lst (hg.map hgD ++ [hgD q]))) f as h ms (hg ++ [q]) :=
  ⟨W.dice.mset W.hn, W.ext.mset W.hf, W.al, W.nd, fun k x q mid h1 h2 h3 => (mset_ne fun e => W.hs (by rw [← e]; exact List.mem_of_getElem? h1)).trans (W.wy k x q mid h1 h2 h3), W.fr, W.np, by rw [mset_same, List.map_append]; rfl, W.hf, W.hn, W.hs⟩
/-- the rows to be walked -/
theorem BuM.row {M : Mp} {p : Addr} {M' : Mp} {f : Bool} {as : List Addr} {h : Addr} {ms : List (List Int)} {hg : List (Int × Int)} (W : BuM M p M' f as h ms hg) (wl : ms.length = (prsW f).length) {i : Nat} {e : D} (hi : (as.map D.ref ++ hg.map hgD)[i]? = some e) :
    ∃ us, (waysU f ms ++ hg.map fun q => [q.1, q.2])[i]? = some us ∧ IsL M' e us ∧ ∀ a, e = .ref a → a ∈ as := by
  have l1 := waysU_len wl
  have l2 := W.al
  rcases Nat.lt_or_ge i as.length with l | l
  · rw [List.getElem?_append_left (by rw [List.length_map]; exact l), List.getElem?_map, Option.map_eq_some_iff] at hi
    obtain ⟨a, ha, rfl⟩ := hi
    obtain ⟨q, hq⟩ : ∃ q, (prsW f)[i]? = some q := ⟨_, List.getElem?_eq_getElem (by omega)⟩
    obtain ⟨mid, hm⟩ : ∃ mid, ms[i]? = some mid := ⟨_, List.getElem?_eq_getElem (by omega)⟩
    refine ⟨wayU q mid, by rw [List.getElem?_append_left (by omega)]; exact at_waysU hq hm, .inl ⟨a, rfl, W.wy i a q mid ha hq hm⟩, fun b e => ?_⟩
    rw [← D.ref.inj e]
    exact List.mem_of_getElem? ha
  · rw [List.getElem?_append_right (by rw [List.length_map]; exact l), List.length_map, List.getElem?_map, Option.map_eq_some_iff] at hi
    obtain ⟨q, hq, rfl⟩ := hi
    exact ⟨[q.1, q.2], by rw [List.getElem?_append_right (by omega), l1, ← l2, List.getElem?_map, hq]; rfl, .inr rfl, fun b e => by cases e⟩

theorem perm_mapD {α : Type} {f : α → D} {ms : List D} : ∀ {l : List α}, ms.Perm (l.map f) → ∃ k : List α, ms = k.map f ∧ k.Perm l := by
  intro l h
  generalize e : l.map f = ns at h
  induction h generalizing l with
  | nil => exact ⟨[], rfl, by rw [List.map_eq_nil_iff.mp e]⟩
  | cons x _ ih =>
    cases l with
    | nil => simp at e
    | cons a l =>
      rw [List.map_cons] at e
      injection e with e1 e2
      obtain ⟨k, rfl, hk⟩ := ih e2
      exact ⟨a :: k, by rw [List.map_cons, e1], hk.cons a⟩
  | swap x y r =>
    match l, e with
    | a :: b :: l, e =>
      rw [List.map_cons, List.map_cons] at e
      injection e with e1 e2
      injection e2 with e2 e3
      exact ⟨b :: a :: l, by rw [List.map_cons, List.map_cons, e1, e2, e3], List.Perm.swap a b l⟩
  | trans _ _ ih1 ih2 =>
    obtain ⟨k2, rfl, h2⟩ := ih2 e
    obtain ⟨k1, rfl, h1⟩ := ih1 rfl
    exact ⟨k1, rfl, h1.trans h2⟩
theorem rgL_all {n : Int} : rgL 0 n = (allOf n).map .int := by
  unfold rgL allOf
  rw [show n - 0 = n by omega, List.map_map, List.map_map]
  exact List.map_congr_left fun i _ => by simp only [Function.comp, Int.zero_add]
theorem BarU.rows {f : Bool} {n : Int} {ms : List (List Int)} {hg : List (Int × Int)} (B : BarU f n ms hg) (cn : (corW f : Int) ≤ n) : ∀ us ∈ waysU f ms ++ hg.map (fun q => [q.1, q.2]), us.Nodup ∧ ∀ u ∈ us, 0 ≤ u ∧ u < n := by
  intro us hus
  rcases List.mem_append.mp hus with hus | hus
  · obtain ⟨k, hk⟩ := List.getElem?_of_mem hus
    obtain ⟨p, mid, hp, hm, rfl⟩ := waysU_at hk
    have lt := prsW_lt f p (List.mem_of_getElem? hp)
    obtain ⟨a, b, rfl, ha, hb⟩ := prs_ok f k _ hp
    have midr : ∀ u ∈ mid, (corW f : Int) ≤ u ∧ u < n := fun u hu => B.rg u (List.mem_flatten.mpr ⟨mid, List.mem_of_getElem? hm, hu⟩)
    simp only at lt
    constructor
    · unfold wayU
      rw [List.nodup_cons, List.nodup_append]
      refine ⟨fun h => ?_, nd_flat B.nd hm, by simp, fun u hu v hv e => ?_⟩
      · rcases List.mem_append.mp h with h | h
        · have := midr _ h; simp only at this; omega
        · have := List.mem_singleton.mp h; simp only at this; omega
      · have h1 := midr _ hu
        have h2 := List.mem_singleton.mp hv
        simp only at h2
        omega
    · intro u hu
      obtain ⟨i, hi⟩ := List.getElem?_of_mem hu
      rcases wayU_at hi with e | e | e
      · simp only at e; omega
      · simp only at e; omega
      · have := midr u e; omega
  · obtain ⟨q, hq, rfl⟩ := List.mem_map.mp hus
    obtain ⟨h, hh⟩ := List.getElem?_of_mem hq
    obtain ⟨g1, g2, g3, g4, _⟩ := B.hu h q hh
    constructor
    · rw [List.nodup_cons]
      exact ⟨fun h => by have := List.mem_singleton.mp h; omega, by simp⟩
    · intro u hu
      rcases List.mem_cons.mp hu with e | e
      · omega
      · have := List.mem_singleton.mp e; omega
theorem mset_mdel {M : Mp} {p : Addr} {o : MO} (h : M p = some o) : mset (mdel M p) p o = M := by
  funext q
  by_cases e : q = p
  · rw [e, mset_same, h]
  · rw [mset_ne e, mdel_ne e]
theorem wrap_ne {n x y : Int} (x0 : 0 ≤ x) (x1 : x < n) (y0 : 0 ≤ y) (y1 : y < n - 1) : x ≠ (x + 1 + y) % n ∧ (0 ≤ (x + 1 + y) % n ∧ (x + 1 + y) % n < n) := by
  rcases Int.lt_or_le (x + 1 + y) n with h | h
  · rw [Int.emod_eq_of_lt (by omega) h]; omega
  · rw [← Int.sub_emod_right, Int.emod_eq_of_lt (by omega) (by omega)]; omega
def pr64 : List (Int × Int) := (allOf 8).flatMap fun a => (allOf 8).map fun b => (a, b)
theorem few_prs {n : Int} {ks : List (Int × Int)} (n8 : n ≤ 8) (nd : ks.Nodup) (h : ∀ q ∈ ks, prOk n q) : ks.length ≤ 64 := by
  have e : pr64.length = 64 := by decide
  rw [← e]
  refine nodup_lenG nd fun q hq => ?_
  have := h q hq
  unfold prOk at this
  exact List.mem_flatMap.mpr ⟨q.1, allOf_mem.mpr (by omega), List.mem_map.mpr ⟨q.2, allOf_mem.mpr (by omega), rfl⟩⟩
theorem PSt.put8 {M : Mp} {p : Addr} {n : Int} {M' : Mp} {d : Addr} {ks : List (Int × Int)} (W : PSt M p n 64 M' d ks) (n8 : n ≤ 8) {q : Int × Int} (h : prOk n q) : ∃ M2 ks2, dStore M' d (prD q) (.bl true) = some M2 ∧ PSt M p n 64 M2 d ks2 ∧ (∀ q ∈ ks, q ∈ ks2) ∧ q ∈ ks2 := by
  have wl := W.len
  have nd2 : (if q ∈ ks then ks else ks ++ [q]).Nodup := by
    by_cases hk : q ∈ ks
    · rw [if_pos hk]; exact W.nd
    · rw [if_neg hk, List.nodup_append]
      exact ⟨W.nd, by simp, fun a ha b hb => by
        rw [List.mem_singleton.mp hb]
        exact fun z => hk (z ▸ ha)⟩
  have ok2 : ∀ r ∈ (if q ∈ ks then ks else ks ++ [q]), prOk n r := fun r hr => by
    by_cases hk : q ∈ ks
    · rw [if_pos hk] at hr; exact W.ok r hr
    · rw [if_neg hk] at hr
      rcases List.mem_append.mp hr with z | z
      · exact W.ok r z
      · rw [List.mem_singleton.mp z]; exact h
  refine ⟨mset M' d (.dT ((if q ∈ ks then ks else ks ++ [q]).map kvP)), if q ∈ ks then ks else ks ++ [q], ?_, ⟨W.dice.mset W.ne, W.ext.mset W.fr, mset_same, W.fr, W.ne, nd2, ok2, few_prs n8 nd2 ok2⟩, fun r hr => ?_, ?_⟩
  · have e := dput_kvP (ks := ks) (p := q)
    simp only [dStore, prD, W.at_, keysOf, keyOf, Option.bind_some]
    rw [if_pos (by rw [List.length_map]; exact len_lt (by omega))]
    exact congrArg (fun z => some (mset M' d (.dT z))) e
  · by_cases hk : q ∈ ks
    · rw [if_pos hk]; exact hr
    · rw [if_neg hk]; exact List.mem_append_left _ hr
  · by_cases hk : q ∈ ks
    · rw [if_pos hk]; exact hk
    · rw [if_neg hk]; exact List.mem_append_right _ List.mem_cons_self

/-! ### the same bar, told in another order of corners -/
theorem WayP.rev {n : Int} {ps : List (Int × Int)} {us : List Int} {a b : Int} (w : WayP n ps us a b) : WayP n ps us.reverse b a := by
  have l2 := w.l2
  refine ⟨(List.reverse_perm us).nodup_iff.mpr w.nd, fun u hu => w.rg u (List.mem_reverse.mp hu), by rw [List.length_reverse]; exact l2, ?_, ?_, fun i x y hx hy => ?_⟩
  · rw [List.getElem?_reverse (by omega), Nat.sub_zero]; exact w.tl
  · rw [List.length_reverse, List.getElem?_reverse (by omega), show us.length - 1 - (us.length - 1) = 0 by omega]; exact w.hd
  · have il := (List.getElem?_eq_some_iff.mp hy).1
    rw [List.length_reverse] at il
    rw [List.getElem?_reverse (by omega)] at hx hy
    have := w.st (us.length - 1 - (i + 1)) y x hy (by rw [show us.length - 1 - (i + 1) + 1 = us.length - 1 - i by omega]; exact hx)
    exact nbr_mem.mpr (Or.comm.mp (nbr_mem.mp this))
theorem inn_rev {us : List Int} {u : Int} (h : u ∈ innW us.reverse) : u ∈ innW us := by
  obtain ⟨i, h1, h2, hi⟩ := inn_at h
  rw [List.length_reverse] at h2
  rw [List.getElem?_reverse (by omega)] at hi
  exact at_inn (by omega) (by omega) hi
theorem inn_nd {us : List Int} (h : us.Nodup) : (innW us).Nodup := h.sublist ((List.dropLast_sublist _).trans (List.tail_sublist _))
theorem flat_ndW : ∀ {ws : List (List Int)}, (∀ us ∈ ws, (innW us).Nodup) → (∀ (a b : Nat) v v', a < b → ws[a]? = some v → ws[b]? = some v' → ∀ u ∈ innW v, u ∉ innW v') → (ws.flatMap innW).Nodup
  | [], _, _ => List.nodup_nil
  | w :: ws, h1, h2 => by
    rw [List.flatMap_cons, List.nodup_append]
    refine ⟨h1 w List.mem_cons_self, flat_ndW (fun us hus => h1 us (List.mem_cons_of_mem _ hus)) (fun a b v v' hab hv hv' => h2 (a + 1) (b + 1) v v' (by omega) hv hv'), fun u hu v hv e => ?_⟩
    obtain ⟨us, hus, hvu⟩ := List.mem_flatMap.mp hv
    obtain ⟨k, hk⟩ := List.getElem?_of_mem hus
    exact h2 0 (k + 1) w us (by omega) rfl hk u hu (by rw [e]; exact hvu)
def EdgeW (f : Bool) (cs : List Int) (ws : List (List Int)) (x y : Int) (v : List Int) : Prop := ∃ (k : Nat) (p : Int × Int) (us : List Int), (prsW f)[k]? = some p ∧ ws[k]? = some us ∧ ((x = cs.getD p.1.toNat 0 ∧ y = cs.getD p.2.toNat 0 ∧ v = us) ∨ (x = cs.getD p.2.toNat 0 ∧ y = cs.getD p.1.toNat 0 ∧ v = us.reverse))
theorem bar_turn {n : Int} {ps : List (Int × Int)} {f : Bool} {cs row : List Int} {ws ws' : List (List Int)} (B : BarP n ps f cs ws) (rp : row.Perm cs) (wl : ws'.length = (prsW f).length)
    (he : ∀ (k : Nat) p v, (prsW f)[k]? = some p → ws'[k]? = some v → EdgeW f cs ws (row.getD p.1.toNat 0) (row.getD p.2.toNat 0) v) : BarP n ps f row ws' ∧ (StrOk n ps ws → StrOk n ps ws') := by
  have dis := List.nodup_append.mp B.inn
  have rl : row.length = corW f := by rw [rp.length_eq]; exact B.cl
  have rnd : row.Nodup := rp.nodup_iff.mpr dis.1
  have ridx : ∀ (i j : Nat), i < corW f → j < corW f → row.getD i 0 = row.getD j 0 → i = j := fun i j hi hj h => by
    have h1 := at_getD (us := row) (i := i) (by rw [rl]; exact hi)
    have h2 := at_getD (us := row) (i := j) (by rw [rl]; exact hj)
    have h3 : row[i]? = row[j]? := by rw [h1, h2, h]
    exact (List.getElem?_inj (by rw [rl]; exact hi) rnd).mp h3
  have way : ∀ (k : Nat) p v, (prsW f)[k]? = some p → ws'[k]? = some v → WayP n ps v (row.getD p.1.toNat 0) (row.getD p.2.toNat 0) := fun k p v hp hv => by
    obtain ⟨k2, q, us, hq, hus, (⟨e1, e2, e3⟩ | ⟨e1, e2, e3⟩)⟩ := he k p v hp hv
    · rw [e1, e2, e3]; exact B.way k2 q us hq hus
    · rw [e1, e2, e3]; exact (B.way k2 q us hq hus).rev
  have inner : ∀ (k : Nat) p v, (prsW f)[k]? = some p → ws'[k]? = some v → ∃ (k2 : Nat) (q : Int × Int) (us : List Int), (prsW f)[k2]? = some q ∧ ws[k2]? = some us ∧ (∀ u ∈ innW v, u ∈ innW us) ∧ ((row.getD p.1.toNat 0 = cs.getD q.1.toNat 0 ∧ row.getD p.2.toNat 0 = cs.getD q.2.toNat 0) ∨ (row.getD p.1.toNat 0 = cs.getD q.2.toNat 0 ∧ row.getD p.2.toNat 0 = cs.getD q.1.toNat 0)) := fun k p v hp hv => by
    obtain ⟨k2, q, us, hq, hus, (⟨e1, e2, e3⟩ | ⟨e1, e2, e3⟩)⟩ := he k p v hp hv
    · exact ⟨k2, q, us, hq, hus, fun u hu => by rw [← e3]; exact hu, .inl ⟨e1, e2⟩⟩
    · exact ⟨k2, q, us, hq, hus, fun u hu => by rw [e3] at hu; exact inn_rev hu, .inr ⟨e1, e2⟩⟩
  have pAt : ∀ (k : Nat) v, ws'[k]? = some v → ∃ p, (prsW f)[k]? = some p := fun k v h => ⟨_, List.getElem?_eq_getElem (by have := (List.getElem?_eq_some_iff.mp h).1; omega)⟩
  refine ⟨⟨rl, fun c hc => B.rg c (rp.mem_iff.mp hc), wl, way, ?_⟩, fun S us hus i x y hx hy => ?_⟩
  · rw [List.nodup_append]
    refine ⟨rnd, flat_ndW (fun v hv => ?_) (fun a b v v' hab hv hv' u hu hu' => ?_), fun c hc u hu e => ?_⟩
    · obtain ⟨k, hk⟩ := List.getElem?_of_mem hv
      obtain ⟨p, hp⟩ := pAt k v hk
      exact inn_nd (way k p v hp hk).nd
    · obtain ⟨p, hp⟩ := pAt a v hv
      obtain ⟨p', hp'⟩ := pAt b v' hv'
      obtain ⟨k, q, us, hq, hus, i1, e1⟩ := inner a p v hp hv
      obtain ⟨k', q', us', hq', hus', i2, e2⟩ := inner b p' v' hp' hv'
      have kk : k = k' := by
        rcases Nat.lt_trichotomy k k' with l | l | l
        · exact (flat_dis dis.2.1 l hus hus' (i1 u hu) (i2 u hu')).elim
        · exact l
        · exact (flat_dis dis.2.1 l hus' hus (i2 u hu') (i1 u hu)).elim
      subst kk
      have qq := Option.some.inj (hq.symm.trans hq')
      subst qq
      have plt := prsW_lt f p (List.mem_of_getElem? hp)
      have plt' := prsW_lt f p' (List.mem_of_getElem? hp')
      have pne : p = p' → False := fun e => by
        subst e
        have h3 : (prsW f)[a]? = (prsW f)[b]? := by rw [hp, hp']
        have := (List.getElem?_inj (List.getElem?_eq_some_iff.mp hp).1 (prsW_nd f)).mp h3
        omega
      obtain ⟨x1, x2, rfl, hx1, hx2⟩ := prs_ok f a _ hp
      obtain ⟨y1, y2, rfl, hy1, hy2⟩ := prs_ok f b _ hp'
      simp only [Int.toNat_natCast] at e1 e2 plt plt'
      rcases e1 with ⟨f1, f2⟩ | ⟨f1, f2⟩ <;> rcases e2 with ⟨f3, f4⟩ | ⟨f3, f4⟩
      · exact pne (by rw [ridx x1 y1 hx1 hy1 (f1.trans f3.symm), ridx x2 y2 hx2 hy2 (f2.trans f4.symm)])
      · have g1 := ridx x1 y2 hx1 hy2 (f1.trans f4.symm)
        have g2 := ridx x2 y1 hx2 hy1 (f2.trans f3.symm)
        omega
      · have g1 := ridx x1 y2 hx1 hy2 (f1.trans f4.symm)
        have g2 := ridx x2 y1 hx2 hy1 (f2.trans f3.symm)
        omega
      · exact pne (by rw [ridx x1 y1 hx1 hy1 (f1.trans f3.symm), ridx x2 y2 hx2 hy2 (f2.trans f4.symm)])
    · obtain ⟨v, hv, huv⟩ := List.mem_flatMap.mp hu
      obtain ⟨k, hk⟩ := List.getElem?_of_mem hv
      obtain ⟨p, hp⟩ := pAt k v hk
      obtain ⟨k2, q, us, hq, hus, i1, _⟩ := inner k p v hp hk
      exact dis.2.2 c (rp.mem_iff.mp hc) u (List.mem_flatMap.mpr ⟨us, List.mem_of_getElem? hus, i1 u huv⟩) e
  · obtain ⟨k, hk⟩ := List.getElem?_of_mem hus
    obtain ⟨p, hp⟩ := pAt k us hk
    obtain ⟨k2, q, vs, hq, hvs, (⟨_, _, e3⟩ | ⟨_, _, e3⟩)⟩ := he k p us hp hk
    · rw [e3] at hx hy
      exact S vs (List.mem_of_getElem? hvs) i x y hx hy
    · rw [e3] at hx hy
      have w := B.way k2 q vs hq hvs
      have il := (List.getElem?_eq_some_iff.mp hy).1
      rw [List.length_reverse] at il
      rw [List.getElem?_reverse (by omega)] at hx hy
      have xy : x ≠ y := fun e => by
        have h3 : vs[vs.length - 1 - i]? = vs[vs.length - 1 - (i + 1)]? := by rw [hx, hy, e]
        have := (List.getElem?_inj (by omega) w.nd).mp h3
        omega
      rw [nrm_comm x y xy]
      exact S vs (List.mem_of_getElem? hvs) (vs.length - 1 - (i + 1)) y x hy (by rw [show vs.length - 1 - (i + 1) + 1 = vs.length - 1 - i by omega]; exact hx)
/-- an order of the corners -/
def RowOk (f : Bool) (cs row : List Int) : Prop := row.Perm cs ∧ (f = false → ((∀ a, a < 3 → row.getD a 0 ∈ cs.take 3) ∧ ∀ a, 3 ≤ a → a < 6 → row.getD a 0 ∈ cs.drop 3) ∨ ((∀ a, a < 3 → row.getD a 0 ∈ cs.drop 3) ∧ ∀ a, 3 ≤ a → a < 6 → row.getD a 0 ∈ cs.take 3))
def inP (l : List (Int × Int)) (i j : Nat) : Bool := l.any fun q => decide (q.1 = (i : Int)) && decide (q.2 = (j : Int))
theorem inP_mem {l : List (Int × Int)} {i j : Nat} (h : inP l i j = true) : ((i : Int), (j : Int)) ∈ l := by
  unfold inP at h
  rw [List.any_eq_true] at h
  obtain ⟨q, hq, h⟩ := h
  rw [Bool.and_eq_true, decide_eq_true_eq, decide_eq_true_eq] at h
  rw [← h.1, ← h.2]
  exact hq
theorem five_allB : ∀ i : Nat, i < 5 → ∀ j : Nat, j < 5 → (decide (i = j) || (inP fiveP i j || inP fiveP j i)) = true := by decide
theorem three_allB : ∀ i : Nat, i < 3 → ∀ j : Nat, j < 6 → (decide (j < 3) || inP threeP i j) = true := by decide
theorem five_all (i : Nat) (hi : i < 5) (j : Nat) (hj : j < 5) (ne : i ≠ j) : ((i : Int), (j : Int)) ∈ fiveP ∨ ((j : Int), (i : Int)) ∈ fiveP := by
  have h := five_allB i hi j hj
  rw [Bool.or_eq_true, Bool.or_eq_true, decide_eq_true_eq] at h
  rcases h with h | h | h
  · exact absurd h ne
  · exact .inl (inP_mem h)
  · exact .inr (inP_mem h)
theorem three_all (i : Nat) (hi : i < 3) (j : Nat) (hj : j < 6) (h3 : 3 ≤ j) : ((i : Int), (j : Int)) ∈ threeP := by
  have h := three_allB i hi j hj
  rw [Bool.or_eq_true, decide_eq_true_eq] at h
  rcases h with h | h
  · omega
  · exact inP_mem h
theorem three_sp : ∀ p ∈ threeP, p.1.toNat < 3 ∧ 3 ≤ p.2.toNat ∧ p.2.toNat < 6 := by decide
theorem edge_ex {f : Bool} {cs row : List Int} (cl : cs.length = corW f) (nd : cs.Nodup) (R : RowOk f cs row) {k : Nat} {p : Int × Int} (hp : (prsW f)[k]? = some p) : ∃ (k2 : Nat) (q : Int × Int), (prsW f)[k2]? = some q ∧ ((row.getD p.1.toNat 0 = cs.getD q.1.toNat 0 ∧ row.getD p.2.toNat 0 = cs.getD q.2.toNat 0) ∨ (row.getD p.1.toNat 0 = cs.getD q.2.toNat 0 ∧ row.getD p.2.toNat 0 = cs.getD q.1.toNat 0)) := by
  have rl : row.length = corW f := by rw [R.1.length_eq]; exact cl
  have rnd : row.Nodup := R.1.nodup_iff.mpr nd
  have pm := List.mem_of_getElem? hp
  have plt := prsW_lt f p pm
  have idx : ∀ (j : Nat) (x : Int), cs[j]? = some x → x = cs.getD j 0 := fun j x h => (getD_at h).symm
  cases f with
  | true =>
    obtain ⟨a, b, rfl, ha, hb⟩ := prs_ok true k _ hp
    simp only at plt
    simp only [Int.toNat_natCast]
    have ra := at_getD (us := row) (i := a) (by omega)
    have rb := at_getD (us := row) (i := b) (by omega)
    obtain ⟨i, hi⟩ := List.getElem?_of_mem (R.1.mem_iff.mp (List.mem_of_getElem? ra))
    obtain ⟨j, hj⟩ := List.getElem?_of_mem (R.1.mem_iff.mp (List.mem_of_getElem? rb))
    have il : i < 5 := by rw [← show corW true = 5 from rfl, ← cl]; exact (List.getElem?_eq_some_iff.mp hi).1
    have jl : j < 5 := by rw [← show corW true = 5 from rfl, ← cl]; exact (List.getElem?_eq_some_iff.mp hj).1
    have ij : i ≠ j := fun e => by
      subst e
      have e1 := Option.some.inj (hi.symm.trans hj)
      have h3 : row[a]? = row[b]? := by rw [ra, rb, e1]
      have := (List.getElem?_inj (by omega) rnd).mp h3
      omega
    rcases five_all i il j jl ij with h | h
    · obtain ⟨k2, hk2⟩ := List.getElem?_of_mem h
      exact ⟨k2, _, hk2, .inl ⟨idx i _ hi, idx j _ hj⟩⟩
    · obtain ⟨k2, hk2⟩ := List.getElem?_of_mem h
      exact ⟨k2, _, hk2, .inr ⟨idx i _ hi, idx j _ hj⟩⟩
  | false =>
    have sp := three_sp p pm
    have low : ∀ x, x ∈ cs.take 3 → ∃ i, i < 3 ∧ cs[i]? = some x := fun x hx => by
      obtain ⟨i, hi⟩ := List.getElem?_of_mem hx
      rw [List.getElem?_take] at hi
      by_cases l : i < 3
      · rw [if_pos l] at hi; exact ⟨i, l, hi⟩
      · rw [if_neg l] at hi; cases hi
    have high : ∀ x, x ∈ cs.drop 3 → ∃ i, 3 ≤ i ∧ i < 6 ∧ cs[i]? = some x := fun x hx => by
      obtain ⟨i, hi⟩ := List.getElem?_of_mem hx
      rw [List.getElem?_drop] at hi
      have := (List.getElem?_eq_some_iff.mp hi).1
      rw [cl] at this
      exact ⟨3 + i, by omega, this, hi⟩
    rcases R.2 rfl with ⟨h1, h2⟩ | ⟨h1, h2⟩
    · obtain ⟨i, il, hi⟩ := low _ (h1 p.1.toNat sp.1)
      obtain ⟨j, j3, jl, hj⟩ := high _ (h2 p.2.toNat sp.2.1 sp.2.2)
      obtain ⟨k2, hk2⟩ := List.getElem?_of_mem (three_all i il j jl j3)
      exact ⟨k2, _, hk2, .inl ⟨idx i _ hi, idx j _ hj⟩⟩
    · obtain ⟨i, i3, il, hi⟩ := high _ (h1 p.1.toNat sp.1)
      obtain ⟨j, jl, hj⟩ := low _ (h2 p.2.toNat sp.2.1 sp.2.2)
      obtain ⟨k2, hk2⟩ := List.getElem?_of_mem (three_all j jl i il i3)
      exact ⟨k2, _, hk2, .inr ⟨idx i _ hi, idx j _ hj⟩⟩

theorem cutD_dropB {α : Type} {xs : List α} {k : Nat} (h : k ≤ xs.length) : cutD xs (some (k : Int)) none = xs.drop k := by
  unfold cutD
  have h1 : HT.sIx xs.length xs.length none = xs.length := rfl
  rw [h1, HT.sIx_nat, Nat.min_eq_left h, List.take_of_length_le (by rw [List.length_drop]; omega)]
def kkP (x y : Int) : List Key := [.inl x, .inl y]
theorem kkP_inj {x y a b : Int} (h : kkP x y = kkP a b) : x = a ∧ y = b := by
  unfold kkP at h
  injection h with h1 h2
  injection h2 with h2 _
  injection h1 with h1
  injection h2 with h2
  exact ⟨h1, h2⟩
def TurnI (f : Bool) (cs : List Int) (ws : List (List Int)) (i : Nat) (kvs : List (List Key × D)) : Prop := kvs.length ≤ 2 * i ∧ ∀ (k : Nat) (p : Int × Int) (us : List Int), k < i → (prsW f)[k]? = some p → ws[k]? = some us → dval kvs (kkP (cs.getD p.1.toNat 0) (cs.getD p.2.toNat 0)) = some (tupI us) ∧ dval kvs (kkP (cs.getD p.2.toNat 0) (cs.getD p.1.toNat 0)) = some (tupI us.reverse)
theorem turn_put {f : Bool} {cs : List Int} {ws : List (List Int)} {i : Nat} {kvs : List (List Key × D)} (cl : cs.length = corW f) (nd : cs.Nodup) (T : TurnI f cs ws i kvs) {p : Int × Int} {us : List Int} (hp : (prsW f)[i]? = some p) (hu : ws[i]? = some us) :
    TurnI f cs ws (i + 1) (dput (dput kvs (kkP (cs.getD p.1.toNat 0) (cs.getD p.2.toNat 0)) (tupI us)) (kkP (cs.getD p.2.toNat 0) (cs.getD p.1.toNat 0)) (tupI us.reverse)) := by
  have cidx : ∀ (i j : Nat), i < corW f → j < corW f → cs.getD i 0 = cs.getD j 0 → i = j := fun i j hi hj h => by
    have h1 := at_getD (us := cs) (i := i) (by rw [cl]; exact hi)
    have h2 := at_getD (us := cs) (i := j) (by rw [cl]; exact hj)
    have h3 : cs[i]? = cs[j]? := by rw [h1, h2, h]
    exact (List.getElem?_inj (by rw [cl]; exact hi) nd).mp h3
  refine ⟨?_, fun k q vs hk hq hv => ?_⟩
  · have h1 := dput_len (k := kkP (cs.getD p.1.toNat 0) (cs.getD p.2.toNat 0)) (d := tupI us) (l := kvs)
    have h2 := dput_len (k := kkP (cs.getD p.2.toNat 0) (cs.getD p.1.toNat 0)) (d := tupI us.reverse) (l := dput kvs (kkP (cs.getD p.1.toNat 0) (cs.getD p.2.toNat 0)) (tupI us))
    have := T.1
    omega
  · have plt := prsW_lt f p (List.mem_of_getElem? hp)
    have qlt := prsW_lt f q (List.mem_of_getElem? hq)
    have kq : k ≠ i → p ≠ q := fun e e2 => by
      have h3 : (prsW f)[k]? = (prsW f)[i]? := by rw [hp, hq, e2]
      exact e ((List.getElem?_inj (List.getElem?_eq_some_iff.mp hq).1 (prsW_nd f)).mp h3)
    obtain ⟨a, b, rfl, ha, hb⟩ := prs_ok f i _ hp
    obtain ⟨c, d, rfl, hc, hd⟩ := prs_ok f k _ hq
    simp only [Int.toNat_natCast] at *
    simp only [dval_dput]
    by_cases e : k = i
    · subst e
      have pq := Option.some.inj (hp.symm.trans hq)
      have e1 : a = c := by have := (Prod.mk.inj pq).1; omega
      have e2 : b = d := by have := (Prod.mk.inj pq).2; omega
      subst e1; subst e2
      have ve := Option.some.inj (hu.symm.trans hv)
      subst ve
      rw [if_neg (fun z => by have := cidx b a hb ha (kkP_inj z).1; omega), if_pos rfl, if_pos rfl]
      exact ⟨rfl, rfl⟩
    · have ne : ¬ (a = c ∧ b = d) := fun z => kq e (by rw [z.1, z.2])
      obtain ⟨t1, t2⟩ := T.2 k _ vs (by omega) hq hv
      simp only [Int.toNat_natCast] at t1 t2
      rw [if_neg (fun z => by have z := kkP_inj z; have := cidx b c hb hc z.1; have := cidx a d ha hd z.2; omega), if_neg (fun z => by have z := kkP_inj z; exact ne ⟨cidx a c ha hc z.1, cidx b d hb hd z.2⟩), if_neg (fun z => by have z := kkP_inj z; exact ne ⟨cidx a c ha hc z.2, cidx b d hb hd z.1⟩), if_neg (fun z => by have z := kkP_inj z; have := cidx a d ha hd z.1; have := cidx b c hb hc z.2; omega)]
      exact ⟨t1, t2⟩
theorem two_sides {cs A C : List Int} (cl : cs.length = 6) (hA : A.Perm (cs.take 3)) (hC : C.Perm (cs.drop 3)) : RowOk false cs (A ++ C) ∧ RowOk false cs (C ++ A) := by
  have al : A.length = 3 := by rw [hA.length_eq, List.length_take]; omega
  have bl : C.length = 3 := by rw [hC.length_eq, List.length_drop]; omega
  have left : ∀ (X Y : List Int), X.length = 3 → ∀ a, a < 3 → (X ++ Y).getD a 0 ∈ X := fun X Y hl a ha => by
    rw [List.getD_eq_getElem?_getD, List.getElem?_append_left (by omega), ← List.getD_eq_getElem?_getD]
    exact List.mem_of_getElem? (at_getD (by omega))
  have right : ∀ (X Y : List Int), X.length = 3 → Y.length = 3 → ∀ a, 3 ≤ a → a < 6 → (X ++ Y).getD a 0 ∈ Y := fun X Y hl hl2 a ha ha2 => by
    rw [List.getD_eq_getElem?_getD, List.getElem?_append_right (by omega), ← List.getD_eq_getElem?_getD]
    exact List.mem_of_getElem? (at_getD (by omega))
  have pm : (A ++ C).Perm cs := by
    have := hA.append hC
    rwa [List.take_append_drop] at this
  exact ⟨⟨pm, fun _ => .inl ⟨fun a ha => hA.mem_iff.mp (left A C al a ha), fun a h3 h6 => hC.mem_iff.mp (right A C al bl a h3 h6)⟩⟩, ⟨List.perm_append_comm.trans pm, fun _ => .inr ⟨fun a ha => hC.mem_iff.mp (left C A bl a ha), fun a h3 h6 => hA.mem_iff.mp (right C A bl al a h3 h6)⟩⟩⟩

/-! ### a bar spoiled -/
def Ty (y : D) : Prop := ∀ M : Mp, (tyN M y).isSome = true
theorem tyI (i : Int) : Ty (.int i) := fun _ => rfl
theorem rowT_tup {l : List D} (h1 : l.length ≤ 60) (h2 : ∀ y ∈ l, Ty y) : RowT (.tup l) :=
  ⟨fun _ => rfl, fun _ e => (by cases e), fun k e => by injection e with e; subst e; exact ⟨h1, h2⟩⟩
theorem rowT_of {x : D} (h : Ty x) (h1 : ∀ l, x ≠ .kt l) (h2 : ∀ l, x ≠ .tup l) : RowT x := ⟨h, h1, fun l e => absurd e (h2 l)⟩
theorem rowT_ints {us : List Int} (h : us.length ≤ 60) : RowT (tupI us) := rowT_tup (by rw [List.length_map]; exact h) fun y hy => by
  obtain ⟨i, _, rfl⟩ := List.mem_map.mp hy
  exact tyI i
theorem rowsT_tup {l : List D} (h1 : l.length ≤ 100) (h2 : ∀ y ∈ l, RowT y) : RowsT (.tup l) :=
  ⟨fun _ => rfl, fun _ e => (by cases e), fun k e => by injection e with e; subst e; exact ⟨h1, h2⟩⟩
theorem rowsT_of {x : D} (h : Ty x) (h1 : ∀ l, x ≠ .kt l) (h2 : ∀ l, x ≠ .tup l) : RowsT x := ⟨h, h1, fun l e => absurd e (h2 l)⟩
theorem cutTI {α : Type} {xs : List α} {i : Int} (h0 : 0 ≤ i) (h : i ≤ xs.length) : cutD xs none (some i) = xs.take i.toNat := by
  have := cutD_takeB (xs := xs) (k := i.toNat) (by omega)
  rwa [Int.toNat_of_nonneg h0] at this
theorem cutDI {α : Type} {xs : List α} {i : Int} (h0 : 0 ≤ i) (h : i ≤ xs.length) : cutD xs (some i) none = xs.drop i.toNat := by
  have := cutD_dropB (xs := xs) (k := i.toNat) (by omega)
  rwa [Int.toNat_of_nonneg h0] at this
theorem eqI_t {i j : Int} (h : i = j) : (D.int i).eq (.int j) = true := by rw [D.eq_int, h]; exact beq_self_eq_true j
theorem eqI_f {i j : Int} (h : i ≠ j) : (D.int i).eq (.int j) = false := by rw [D.eq_int]; exact beq_eq_false_iff_ne.mpr h
theorem prD_eq (q p : Int × Int) : (prD q).eq (prD p) = decide (q = p) := by
  unfold prD
  rw [D.eq_tup]
  simp only [D.eqL_cons, D.eqL_nil, D.eq_int, Bool.and_true]
  obtain ⟨a, b⟩ := q
  obtain ⟨c, d⟩ := p
  by_cases h : a = c <;> by_cases g : b = d <;> simp [h, g]
theorem rowT_int (i : Int) : RowT (.int i) := rowT_of (tyI i) (fun l e => by cases e) fun l e => by cases e
theorem rowsT_ints {us : List Int} (h : us.length ≤ 60) : RowsT (tupI us) := rowsT_tup (by rw [List.length_map]; omega) fun y hy => by
  obtain ⟨i, _, rfl⟩ := List.mem_map.mp hy
  exact rowT_int i
theorem rows_ty {ws : List (List Int)} (h : ∀ us ∈ ws, 2 ≤ us.length ∧ us.length ≤ 8) : ∀ y ∈ ws.map tupI, RowT y := fun y hy => by
  obtain ⟨us, hu, rfl⟩ := List.mem_map.mp hy
  exact rowT_ints (by have := h us hu; omega)
theorem thW_tup {w c y : D} (h1 : Ty w) (h2 : ∀ s, w = .str s → (D.str s).ok 60 = true) (h3 : RowT c) (h4 : RowsT y) : ThW (.tup [w, c, y]) :=
  ⟨fun _ => rfl, fun _ e => (by cases e), fun w' c' y' e => by
    injection e with e
    injection e with e1 e
    injection e with e2 e
    injection e with e3 _
    subst e1; subst e2; subst e3
    exact ⟨h1, h2, h3, h4⟩⟩
theorem thW_of {x : D} (h : Ty x) (h1 : ∀ l, x ≠ .kt l) (h2 : ∀ w c y, x ≠ .tup [w, c, y]) : ThW x := ⟨h, h1, fun w c y e => absurd e (h2 w c y)⟩
theorem wrap_in {n x y : Int} (n1 : 1 ≤ n) : 0 ≤ (x + 1 + y) % n ∧ (x + 1 + y) % n < n := ⟨Int.emod_nonneg _ (by omega), Int.emod_lt_of_pos _ (by omega)⟩
theorem cut_all {α : Type} {l : List α} {P : α → Prop} (h : ∀ y ∈ l, P y) {i j : Nat} {m : List α} (hm : ∀ y ∈ m, P y) : ∀ y ∈ l.take i ++ m ++ l.drop j, P y := fun y hy => by
  rcases List.mem_append.mp hy with hy | hy
  · rcases List.mem_append.mp hy with hy | hy
    · exact h y (List.mem_of_mem_take hy)
    · exact hm y hy
  · exact h y (List.mem_of_mem_drop hy)
theorem ints_ty (us : List Int) : ∀ y ∈ us.map D.int, Ty y := fun y hy => by
  obtain ⟨i, _, rfl⟩ := List.mem_map.mp hy
  exact tyI i

theorem prs_ndW {n : Int} {ps : List (Int × Int)} (ok : PrsOk n ps) : ps.Nodup := ok.lt.imp fun {a b} h e => by
  subst e
  unfold prLt at h
  omega
theorem bar_sizes {n : Int} {ps : List (Int × Int)} {f : Bool} {cs : List Int} {ws : List (List Int)} (n8 : n ≤ 8) (B : BarP n ps f cs ws) : 5 ≤ cs.length ∧ cs.length ≤ 6 ∧ 9 ≤ ws.length ∧ ws.length ≤ 10 ∧ ∀ us ∈ ws, 2 ≤ us.length ∧ us.length ≤ 8 := by
  have c56 : 5 ≤ corW f ∧ corW f ≤ 6 := by cases f <;> decide
  have wl : 9 ≤ (prsW f).length ∧ (prsW f).length ≤ 10 := by cases f <;> decide
  have h1 := B.cl
  have h2 := B.wl
  refine ⟨by omega, by omega, by omega, by omega, fun us hu => ?_⟩
  obtain ⟨k, hk⟩ := List.getElem?_of_mem hu
  obtain ⟨p, hp⟩ : ∃ p, (prsW f)[k]? = some p := ⟨_, List.getElem?_eq_getElem (by have := (List.getElem?_eq_some_iff.mp hk).1; omega)⟩
  have w := B.way k p us hp hk
  have l := nodup_len (l := us) (m := allOf n) w.nd fun x hx => allOf_mem.mpr (w.rg x hx)
  rw [allOf_len] at l
  exact ⟨w.l2, by omega⟩
theorem bar_th {n : Int} {ps : List (Int × Int)} {f : Bool} {cs : List Int} {ws : List (List Int)} (n8 : n ≤ 8) (B : BarP n ps f cs ws) : ThW (barD f cs ws) := by
  obtain ⟨h1, h2, h3, h4, h5⟩ := bar_sizes n8 B
  exact thW_tup (by cases f <;> exact fun _ => rfl) (fun s e => by rw [← e]; cases f <;> decide +kernel) (rowT_ints (by omega)) (rowsT_tup (by rw [List.length_map]; omega) (rows_ty h5))

section
variable {P : Program} {w : World} {K : PySem.W.Frag} {mg : Str → Option Value} {base : Heap}
theorem sc__law_draw : FnScope ["_law_dice_here", "_law_sides", "_law_cell", "_law_digit", "_law_mixed"] ["_law_dice_here", "_law_sides"] (defScope s__law_draw) := ⟨rfl, rfl, rfl, by decide +kernel, rfl, by decide +kernel, by decide +kernel⟩
def sp__law_draw : DSp := fun ds M Q _ => ∃ (p : Addr) (n : Int), ds = [.ref p, .int n] ∧ DiL M p ∧ 1 ≤ n ∧ n < 1073741824 ∧ ∀ (r : Int) M2, 0 ≤ r → r < n → DiL M2 p → Agree M M2 [p] → Q (.int r) M2
theorem c__law_draw (F : DFun K mg "_law_draw" s__law_draw ["_law_dice_here", "_law_sides"]) (B : Bn mg) (G : Gs mg)  : DCal P w K mg base CX0 1 "_law_draw" sp__law_draw := by
  refine dok F sc__law_draw (fun ds M Q E h => (by obtain ⟨_, h⟩ := h; first | (obtain ⟨e, _⟩ := h; subst e; rfl) | (obtain ⟨_, e, _⟩ := h; subst e; rfl) | (obtain ⟨_, _, e, _⟩ := h; subst e; rfl) | (obtain ⟨_, _, _, e, _⟩ := h; subst e; rfl) | (obtain ⟨_, _, _, _, e, _⟩ := h; subst e; rfl) | (obtain ⟨_, _, _, _, _, e, _⟩ := h; subst e; rfl) | (obtain ⟨_, _, _, _, _, _, e, _⟩ := h; subst e; rfl) | (obtain ⟨_, _, _, _, _, _, _, e, _⟩ := h; subst e; rfl) | (obtain ⟨_, _, _, _, _, _, _, _, e, _⟩ := h; subst e; rfl) | (obtain ⟨_, _, _, _, _, _, _, _, _, e, _⟩ := h; subst e; rfl) | (obtain ⟨_, _, _, _, _, _, _, _, _, _, e, _⟩ := h; subst e; rfl) | (obtain ⟨_, _, _, _, _, _, _, _, _, _, _, e, _⟩ := h; subst e; rfl) | (obtain ⟨_, _, _, _, _, _, _, _, _, _, _, _, e, _⟩ := h; subst e; rfl) | (obtain ⟨_, _, _, _, _, _, _, _, _, _, _, _, _, e, _⟩ := h; subst e; rfl) | (obtain ⟨_, _, _, _, _, _, _, _, _, _, _, _, _, _, e, _⟩ := h; subst e; rfl) | (obtain ⟨_, _, _, _, _, _, _, _, _, _, _, _, _, _, _, e, _⟩ := h; subst e; rfl) | (obtain ⟨_, _, _, _, _, _, _, _, _, _, _, _, _, _, _, _, e, _⟩ := h; subst e; rfl) | (obtain ⟨_, _, _, _, _, _, _, _, _, _, _, _, _, _, _, _, _, e, _⟩ := h; subst e; rfl) | (obtain ⟨_, _, _, _, _, _, _, _, _, _, _, _, _, _, _, _, _, _, e, _⟩ := h; subst e; rfl) | (obtain ⟨_, _, _, _, _, _, _, _, _, _, _, _, _, _, _, _, _, _, _, e, _⟩ := h; subst e; rfl) | (obtain ⟨_, _, _, _, _, _, _, _, _, _, _, _, _, _, _, _, _, _, _, _, e, _⟩ := h; subst e; rfl) | (obtain ⟨_, _, _, _, _, _, _, _, _, _, _, _, _, _, _, _, _, _, _, _, _, e, _⟩ := h; subst e; rfl) | (obtain ⟨_, _, _, _, _, _, _, _, _, _, _, _, _, _, _, _, _, _, _, _, _, _, e, _⟩ := h; subst e; rfl) | (obtain ⟨_, _, _, _, _, _, _, _, _, _, _, _, _, _, _, _, _, _, _, _, _, _, _, e, _⟩ := h; subst e; rfl) | (obtain ⟨_, _, _, _, _, _, _, _, _, _, _, _, _, _, _, _, _, _, _, _, _, _, _, _, e, _⟩ := h; subst e; rfl) | (obtain ⟨_, _, _, _, _, _, _, _, _, _, _, _, _, _, _, _, _, _, _, _, _, _, _, _, _, e, _⟩ := h; subst e; rfl))) (fun f cdv A outer s H E F0 hr => ?_)
  have nd := (sc__law_draw).nd
  refine ⟨_, _, (db_cons (ds_if (DW.dt (dw_and (dt_eq hr (de_ix hr (de_var 0) de_int) de_int) (dw_and1 (dt_lt (de_ix hr (de_var 0) de_int) (de_len B.len (da_cons (de_ix hr (de_var 0) de_int) da_nil)))))) (db_cons (ds_set 2 nd (de_ix hr (de_ix hr (de_var 0) de_int) (de_ix hr (de_var 0) de_int)))
      (db_cons (ds_put hr (de_var 0) de_int (de_add (de_ix hr (de_var 0) de_int) de_int))
      (db_one (ds_if (dt_ge (de_var 2) (de_pow de_int de_int)) (db_one (ds_put hr (de_var 0) de_int (de_var 2))) (db_one (ds_put hr (de_var 0) de_int (de_mod (de_bty call_int1 lc_int B.int (da_cons (de_add (de_add (de_mul (de_ix hr (de_var 0) de_int) de_int) (de_mul (de_var 2) de_int)) (de_ix hr (de_var 0) de_int)) da_nil)) de_int))))))) db_nil)
      (db_cons (ds_if (dt_gt (de_ix hr (de_var 0) de_int) de_int) (db_cons (ds_set 3 nd (de_mod (de_bty call_int1 lc_int B.int (da_cons (de_ix hr (de_var 0) de_int) da_nil)) (de_var 1)))
      (db_cons (ds_put hr (de_var 0) de_int (de_fdiv (de_bty call_int1 lc_int B.int (da_cons (de_ix hr (de_var 0) de_int) da_nil)) (de_var 1)))
      (db_one (ds_ret (de_var 3))))) db_nil)
      (db_cons (ds_put hr (de_var 0) de_int (de_add (de_ix hr (de_var 0) de_int) de_int))
      (db_cons (ds_put hr (de_var 0) de_int (de_mod (de_bty call_int1 lc_int B.int (da_cons (de_add (de_add (de_mul (de_ix hr (de_var 0) de_int) de_int) (de_mul (de_ix hr (de_var 0) de_int) de_int)) de_int) da_nil)) de_int))
      (db_cons (ds_set 4 nd (de_mod (de_bty call_int1 lc_int B.int (da_cons (de_mul (de_ix hr (de_var 0) de_int) (de_add (de_fdiv (de_ix hr (de_var 0) de_int) de_int) de_int)) da_nil)) de_int))
      (db_cons (ds_set 4 nd (de_mod (de_bty call_int1 lc_int B.int (da_cons (de_mul (de_var 4) (de_add (de_fdiv (de_var 4) de_int) de_int)) da_nil)) de_int))
      (db_one (ds_ret (de_mod (de_bty call_int1 lc_int B.int (da_cons (de_fdiv (de_var 4) de_int) da_nil)) (de_var 1)))))))))), ?_⟩
  rintro ds M Q E ⟨p, n, rfl, ⟨ns, a, r, m, c, hp, ha0, hr0⟩, h1, h2, q⟩
  refine dSeq_gen (fun γ' M' => ∃ o ns a r m c, γ' = [some (.ref p), some (.int n), o, none, none] ∧ M' p = some (.lst (dilL ns a r m c)) ∧ 0 ≤ r ∧ 0 ≤ a ∧ Agree M M' [p]) ?_ (fun nx hn => ?_)
  · rintro γ' M' ⟨o, ns, a, r, m, c, rfl, hp, hr0, ha0, ag⟩
    have ag2 : ∀ kvs, Agree M (mset M' p (.lst kvs)) [p] := fun kvs => ag.trans (Agree.mset (by simp))
    simp only [dInsert, dVar, dC, dOp, dTest, dII, dIC, dFld, dFldS, dMake, dppNil, dppCons, dMerge, dDisp, dCatL, dExtend, dRg1, dLstRg, dChain, dEq, dAnd, dOr, dNot, dNext, dSeq, dDrop, dRet, dIfS, dNever, dFrzS, hName, hNil, hCons, hTup, hSub, dAsg, dNil, dCons, dTup, dLst, dLstM, dIx, dSet, dCall, dwipe, dYes, jSeq, jRng1, jRng2, dCB, dLen, dList, dListM, dTuple, dII2, dAbs, dInt, dBM0, dBM, dAppend, dPop, dPopAt, dAndV, dNotV, dNeg, dIn, dCat, dNoPart, dPart, dSl, dNewT, dIsi, dLc, dFor, dDc, dLenSetG, dLc2, dFrzE, dLcH, dKdIn, dKdIx, jZipM, if_true, if_false, ite_true, ite_false, Bool.false_eq_true, reduceIte, Bool.not_true, Bool.not_false, List.getElem?_cons_zero, List.getElem?_cons_succ, List.set_cons_zero, List.set_cons_succ, List.map_cons, List.map_nil, List.replicate, List.cons_append, List.nil_append, List.length_cons, List.length_nil, dstart]
    refine ⟨_, il2 hp, ?_⟩
    by_cases hr1 : 0 < r
    · simp only [decide_eq_true hr1, if_true, if_false, ite_true, ite_false, Bool.false_eq_true, reduceIte, Bool.not_true, Bool.not_false, List.getElem?_cons_zero, List.getElem?_cons_succ, List.set_cons_zero, List.set_cons_succ, List.map_cons, List.map_nil, List.replicate, List.cons_append, List.nil_append, List.length_cons, List.length_nil, dstart]
      refine ⟨_, il2 hp, by omega, _, il2 hp, ⟨by omega, h2⟩, _, sl2 hp, ?_⟩
      exact fin_self (q _ _ (Int.emod_nonneg _ (by omega)) (Int.emod_lt_of_pos _ (by omega)) ⟨_, _, _, _, _, mset_same, ha0, Int.ediv_nonneg hr0 (by omega)⟩ (ag2 _))
    · simp only [decide_eq_false hr1, if_true, if_false, ite_true, ite_false, Bool.false_eq_true, reduceIte, Bool.not_true, Bool.not_false, List.getElem?_cons_zero, List.getElem?_cons_succ, List.set_cons_zero, List.set_cons_succ, List.map_cons, List.map_nil, List.replicate, List.cons_append, List.nil_append, List.length_cons, List.length_nil, dstart]
      have h3 := mset_same (M := M') (a := p) (o := .lst (dilL ns a r m (c + 1)))
      refine ⟨_, il4 hp, _, sl4 hp, _, il3 h3, cmulR (by decide), _, il4 h3, cmulR (by decide), by decide, _, sl3 h3, ?_⟩
      rw [mset_mset]
      generalize hx : (m * 48271 + (c + 1) * 7919 + 1) % 2147483647 = x
      have bx : 0 ≤ x ∧ x < 2147483647 := by omega
      have h4 := mset_same (M := M') (a := p) (o := .lst (dilL ns a r x (c + 1)))
      refine ⟨_, il3 h4, _, il3 h4, ⟨by decide, by decide⟩, ?_⟩
      dsimp only
      refine ⟨cmulL (by omega), by decide, ?_⟩
      generalize hy : x * (x / 1009 + 69623) % 2147483399 = y
      have by' : 0 ≤ y ∧ y < 2147483399 := by omega
      refine ⟨⟨by decide, by decide⟩, cmulL (by omega), by decide, ⟨by decide, by decide⟩, by omega, ?_⟩
      exact fin_self (q _ _ (Int.emod_nonneg _ (by omega)) (Int.emod_lt_of_pos _ (by omega)) ⟨_, _, _, _, _, mset_same, ha0, hr0⟩ (ag2 _))
  · simp only [dInsert, dVar, dC, dOp, dTest, dII, dIC, dFld, dFldS, dMake, dppNil, dppCons, dMerge, dDisp, dCatL, dExtend, dRg1, dLstRg, dChain, dEq, dAnd, dOr, dNot, dNext, dSeq, dDrop, dRet, dIfS, dNever, dFrzS, hName, hNil, hCons, hTup, hSub, dAsg, dNil, dCons, dTup, dLst, dLstM, dIx, dSet, dCall, dwipe, dYes, jSeq, jRng1, jRng2, dCB, dLen, dList, dListM, dTuple, dII2, dAbs, dInt, dBM0, dBM, dAppend, dPop, dPopAt, dAndV, dNotV, dNeg, dIn, dCat, dNoPart, dPart, dSl, dNewT, dIsi, dLc, dFor, dDc, dLenSetG, dLc2, dFrzE, dLcH, dKdIn, dKdIx, jZipM, if_true, if_false, ite_true, ite_false, Bool.false_eq_true, reduceIte, Bool.not_true, Bool.not_false, List.getElem?_cons_zero, List.getElem?_cons_succ, List.set_cons_zero, List.set_cons_succ, List.map_cons, List.map_nil, List.replicate, List.cons_append, List.nil_append, List.length_cons, List.length_nil, dstart]
    refine ⟨_, il2 hp, rfl, rfl, ?_⟩
    rw [D.eq_int]
    have stay : nx [some (.ref p), some (.int n), none, none, none] M := hn _ _ ⟨none, ns, a, r, m, c, rfl, hp, hr0, ha0, Agree.refl _ _⟩
    by_cases hr1 : r = 0
    · simp only [hr1, beq_self_eq_true, if_true, if_false, ite_true, ite_false, Bool.false_eq_true, reduceIte, Bool.not_true, Bool.not_false, List.getElem?_cons_zero, List.getElem?_cons_succ, List.set_cons_zero, List.set_cons_succ, List.map_cons, List.map_nil, List.replicate, List.cons_append, List.nil_append, List.length_cons, List.length_nil, dstart]
      subst hr1
      refine ⟨_, il1 hp, _, il0 hp, ns.length, by simp [lenV], ?_⟩
      by_cases hal : a < (ns.length : Int)
      · simp only [decide_eq_true hal, if_true, if_false, ite_true, ite_false, Bool.false_eq_true, reduceIte, Bool.not_true, Bool.not_false, List.getElem?_cons_zero, List.getElem?_cons_succ, List.set_cons_zero, List.set_cons_succ, List.map_cons, List.map_nil, List.replicate, List.cons_append, List.nil_append, List.length_cons, List.length_nil, dstart]
        have hk : a.toNat < ns.length := by omega
        have e1 : ns[a.toNat]? = some ns[a.toNat] := List.getElem?_eq_getElem hk
        generalize ns[a.toNat] = x at e1
        have e2 : dIxV M (.lst (ns.map .int)) (.int a) = some (.int x) := atI_at (k := a.toNat) (by omega) (by rw [List.getElem?_map, e1]; rfl)
        have h3 := mset_same (M := M) (a := p) (o := .lst (dilL ns (a + 1) 0 m c))
        refine ⟨_, il0 hp, _, il1 hp, _, e2, _, il1 hp, _, sl1 hp, ⟨by decide, by decide, by decide⟩, ?_⟩
        by_cases hx : (10 : Int) ^ (18 : Int).toNat ≤ x
        · simp only [decide_eq_true hx, if_true, if_false, ite_true, ite_false, Bool.false_eq_true, reduceIte, Bool.not_true, Bool.not_false, List.getElem?_cons_zero, List.getElem?_cons_succ, List.set_cons_zero, List.set_cons_succ, List.map_cons, List.map_nil, List.replicate, List.cons_append, List.nil_append, List.length_cons, List.length_nil, dstart]
          refine ⟨_, sl2 h3, hn _ _ ⟨_, ns, a + 1, x, m, c, rfl, ?_, ?_, by omega, ?_⟩⟩
          · rw [mset_mset]; exact mset_same
          · have : (0 : Int) ≤ 10 ^ (18 : Int).toNat := by decide
            omega
          · rw [mset_mset]; exact Agree.mset (by simp)
        · simp only [decide_eq_false hx, if_true, if_false, ite_true, ite_false, Bool.false_eq_true, reduceIte, Bool.not_true, Bool.not_false, List.getElem?_cons_zero, List.getElem?_cons_succ, List.set_cons_zero, List.set_cons_succ, List.map_cons, List.map_nil, List.replicate, List.cons_append, List.nil_append, List.length_cons, List.length_nil, dstart]
          refine ⟨_, il3 h3, cmulR (by decide), cmulR (by decide), _, il1 h3, ?_⟩
          dsimp only
          refine ⟨by decide, _, sl3 h3, hn _ _ ⟨_, ns, a + 1, 0, (m * 69621 + x * 40692 + (a + 1)) % 2147483647, c, rfl, ?_, by omega, by omega, ?_⟩⟩
          · rw [mset_mset]; exact mset_same
          · rw [mset_mset]; exact Agree.mset (by simp)
      · simp only [decide_eq_false hal, if_true, if_false, ite_true, ite_false, Bool.false_eq_true, reduceIte, Bool.not_true, Bool.not_false, List.getElem?_cons_zero, List.getElem?_cons_succ, List.set_cons_zero, List.set_cons_succ, List.map_cons, List.map_nil, List.replicate, List.cons_append, List.nil_append, List.length_cons, List.length_nil, dstart]
        exact stay
    · rw [beq_eq_false_iff_ne.mpr hr1]
      simp only [if_true, if_false, ite_true, ite_false, Bool.false_eq_true, reduceIte, Bool.not_true, Bool.not_false, List.getElem?_cons_zero, List.getElem?_cons_succ, List.set_cons_zero, List.set_cons_succ, List.map_cons, List.map_nil, List.replicate, List.cons_append, List.nil_append, List.length_cons, List.length_nil, dstart]
      exact stay
theorem sc__law_named : FnScope ["_law_names", "_law_way", "_law_content"] ["_law_names", "_law_way"] (defScope s__law_named) := ⟨rfl, rfl, rfl, by decide +kernel, rfl, by decide +kernel, by decide +kernel⟩
def sp__law_named : DSp := fun ds M Q _ => ∃ (nm : List Int) (a : Addr) (us : List Int), ds = [tupI nm, .ref a] ∧ M a = some (.lst (us.map .int)) ∧ (∀ u ∈ us, 0 ≤ u ∧ u < nm.length) ∧ us.length ≤ 1000 ∧ Q (tupI (us.map fun u => nm.getD u.toNat 0)) M
theorem c__law_named (F : DFun K mg "_law_named" s__law_named ["_law_names", "_law_way"]) (B : Bn mg) (G : Gs mg)  : DCal P w K mg base CX0 1 "_law_named" sp__law_named := by
  refine dok F sc__law_named (fun ds M Q E h => (by obtain ⟨_, h⟩ := h; first | (obtain ⟨e, _⟩ := h; subst e; rfl) | (obtain ⟨_, e, _⟩ := h; subst e; rfl) | (obtain ⟨_, _, e, _⟩ := h; subst e; rfl) | (obtain ⟨_, _, _, e, _⟩ := h; subst e; rfl) | (obtain ⟨_, _, _, _, e, _⟩ := h; subst e; rfl) | (obtain ⟨_, _, _, _, _, e, _⟩ := h; subst e; rfl) | (obtain ⟨_, _, _, _, _, _, e, _⟩ := h; subst e; rfl) | (obtain ⟨_, _, _, _, _, _, _, e, _⟩ := h; subst e; rfl) | (obtain ⟨_, _, _, _, _, _, _, _, e, _⟩ := h; subst e; rfl) | (obtain ⟨_, _, _, _, _, _, _, _, _, e, _⟩ := h; subst e; rfl) | (obtain ⟨_, _, _, _, _, _, _, _, _, _, e, _⟩ := h; subst e; rfl) | (obtain ⟨_, _, _, _, _, _, _, _, _, _, _, e, _⟩ := h; subst e; rfl) | (obtain ⟨_, _, _, _, _, _, _, _, _, _, _, _, e, _⟩ := h; subst e; rfl) | (obtain ⟨_, _, _, _, _, _, _, _, _, _, _, _, _, e, _⟩ := h; subst e; rfl) | (obtain ⟨_, _, _, _, _, _, _, _, _, _, _, _, _, _, e, _⟩ := h; subst e; rfl) | (obtain ⟨_, _, _, _, _, _, _, _, _, _, _, _, _, _, _, e, _⟩ := h; subst e; rfl) | (obtain ⟨_, _, _, _, _, _, _, _, _, _, _, _, _, _, _, _, e, _⟩ := h; subst e; rfl) | (obtain ⟨_, _, _, _, _, _, _, _, _, _, _, _, _, _, _, _, _, e, _⟩ := h; subst e; rfl) | (obtain ⟨_, _, _, _, _, _, _, _, _, _, _, _, _, _, _, _, _, _, e, _⟩ := h; subst e; rfl) | (obtain ⟨_, _, _, _, _, _, _, _, _, _, _, _, _, _, _, _, _, _, _, e, _⟩ := h; subst e; rfl) | (obtain ⟨_, _, _, _, _, _, _, _, _, _, _, _, _, _, _, _, _, _, _, _, e, _⟩ := h; subst e; rfl) | (obtain ⟨_, _, _, _, _, _, _, _, _, _, _, _, _, _, _, _, _, _, _, _, _, e, _⟩ := h; subst e; rfl) | (obtain ⟨_, _, _, _, _, _, _, _, _, _, _, _, _, _, _, _, _, _, _, _, _, _, e, _⟩ := h; subst e; rfl) | (obtain ⟨_, _, _, _, _, _, _, _, _, _, _, _, _, _, _, _, _, _, _, _, _, _, _, e, _⟩ := h; subst e; rfl) | (obtain ⟨_, _, _, _, _, _, _, _, _, _, _, _, _, _, _, _, _, _, _, _, _, _, _, _, e, _⟩ := h; subst e; rfl) | (obtain ⟨_, _, _, _, _, _, _, _, _, _, _, _, _, _, _, _, _, _, _, _, _, _, _, _, _, e, _⟩ := h; subst e; rfl))) (fun f cdv A outer s H E F0 hr => ?_)
  have nd := (sc__law_named).nd
  refine ⟨_, _, (db_one (ds_ret (de_bty call_tuple_of lc_tuple B.tuple (da_cons (dx_lcH (own := [("_law_content", 2)]) rfl nd (de_var 1) (blkOk_by (N := ["_law_names", "_law_way", "_law_content"]) (sc := defScope s__law_named) (by decide +kernel)) (fun _ _ _ _ _ => ⟨_, (dg_name 2 nd), (gw_name (by decide))⟩) (fun _ _ _ _ _ => ⟨_, dts_nil⟩) (fun _ _ _ _ _ => ⟨_, (de_ix hr (de_var 0) (de_var 2))⟩)) da_nil)))), ?_⟩
  rintro ds M Q E ⟨nm, a, us, rfl, ha, hr, hl, q⟩
  simp only [dInsert, dVar, dC, dOp, dTest, dII, dIC, dFld, dFldS, dMake, dppNil, dppCons, dMerge, dDisp, dCatL, dExtend, dRg1, dLstRg, dChain, dEq, dAnd, dOr, dNot, dNext, dSeq, dDrop, dRet, dIfS, dNever, dFrzS, hName, hNil, hCons, hTup, hSub, dAsg, dNil, dCons, dTup, dLst, dLstM, dIx, dSet, dCall, dwipe, dYes, jSeq, jRng1, jRng2, dCB, dLen, dList, dListM, dTuple, dII2, dAbs, dInt, dBM0, dBM, dAppend, dPop, dPopAt, dAndV, dNotV, dNeg, dIn, dCat, dNoPart, dPart, dSl, dNewT, dIsi, dLc, dFor, dDc, dLenSetG, dLc2, dFrzE, dLcH, dKdIn, dKdIx, jZipM, if_true, if_false, ite_true, ite_false, Bool.false_eq_true, reduceIte, Bool.not_true, Bool.not_false, List.getElem?_cons_zero, List.getElem?_cons_succ, List.set_cons_zero, List.set_cons_succ, List.map_cons, List.map_nil, List.replicate, List.cons_append, List.nil_append, List.length_cons, List.length_nil, dstart, tupI]
  refine ⟨a, _, rfl, ha, ?_⟩
  refine dLcI_map (fun e => match e with | .int u => .int (nm.getD u.toNat 0) | e => e) (fun i e he Q2 q2 => ?_) ?_
  · rw [List.getElem?_map, Option.map_eq_some_iff] at he
    obtain ⟨u, hu, rfl⟩ := he
    have := hr u (List.mem_of_getElem? hu)
    simp only [dInsert, dVar, dC, dOp, dTest, dII, dIC, dFld, dFldS, dMake, dppNil, dppCons, dMerge, dDisp, dCatL, dExtend, dRg1, dLstRg, dChain, dEq, dAnd, dOr, dNot, dNext, dSeq, dDrop, dRet, dIfS, dNever, dFrzS, hName, hNil, hCons, hTup, hSub, dAsg, dNil, dCons, dTup, dLst, dLstM, dIx, dSet, dCall, dwipe, dYes, jSeq, jRng1, jRng2, dCB, dLen, dList, dListM, dTuple, dII2, dAbs, dInt, dBM0, dBM, dAppend, dPop, dPopAt, dAndV, dNotV, dNeg, dIn, dCat, dNoPart, dPart, dSl, dNewT, dIsi, dLc, dFor, dDc, dLenSetG, dLc2, dFrzE, dLcH, dKdIn, dKdIx, jZipM, if_true, if_false, ite_true, ite_false, Bool.false_eq_true, reduceIte, Bool.not_true, Bool.not_false, List.getElem?_cons_zero, List.getElem?_cons_succ, List.set_cons_zero, List.set_cons_succ, List.map_cons, List.map_nil, List.replicate, List.cons_append, List.nil_append, List.length_cons, List.length_nil, dstart]
    exact ⟨_, atI_at (k := u.toNat) (by omega) (by rw [List.getElem?_map, at_getD (by omega)]; rfl), q2⟩
  · intro _
    rw [List.map_map]
    have e : mset (mdel M a) a (.lst (us.map .int)) = M := mset_mdel ha
    simp only [e]
    unfold tupI at q
    rw [List.map_map] at q
    exact fin_self q
theorem sc__law_pair : FnScope ["_law_one", "_law_two"] ["_law_one", "_law_two"] (defScope s__law_pair) := ⟨rfl, rfl, rfl, by decide +kernel, rfl, by decide +kernel, by decide +kernel⟩
def sp__law_pair : DSp := fun ds M Q _ => ∃ a b : Int, ds = [.int a, .int b] ∧ Q (prD (if b < a then b else a, if a < b then b else a)) M
theorem c__law_pair (F : DFun K mg "_law_pair" s__law_pair ["_law_one", "_law_two"]) (B : Bn mg) (G : Gs mg)  : DCal P w K mg base CX0 1 "_law_pair" sp__law_pair := by
  refine dok F sc__law_pair (fun ds M Q E h => (by obtain ⟨_, h⟩ := h; first | (obtain ⟨e, _⟩ := h; subst e; rfl) | (obtain ⟨_, e, _⟩ := h; subst e; rfl) | (obtain ⟨_, _, e, _⟩ := h; subst e; rfl) | (obtain ⟨_, _, _, e, _⟩ := h; subst e; rfl) | (obtain ⟨_, _, _, _, e, _⟩ := h; subst e; rfl) | (obtain ⟨_, _, _, _, _, e, _⟩ := h; subst e; rfl) | (obtain ⟨_, _, _, _, _, _, e, _⟩ := h; subst e; rfl) | (obtain ⟨_, _, _, _, _, _, _, e, _⟩ := h; subst e; rfl) | (obtain ⟨_, _, _, _, _, _, _, _, e, _⟩ := h; subst e; rfl) | (obtain ⟨_, _, _, _, _, _, _, _, _, e, _⟩ := h; subst e; rfl) | (obtain ⟨_, _, _, _, _, _, _, _, _, _, e, _⟩ := h; subst e; rfl) | (obtain ⟨_, _, _, _, _, _, _, _, _, _, _, e, _⟩ := h; subst e; rfl) | (obtain ⟨_, _, _, _, _, _, _, _, _, _, _, _, e, _⟩ := h; subst e; rfl) | (obtain ⟨_, _, _, _, _, _, _, _, _, _, _, _, _, e, _⟩ := h; subst e; rfl) | (obtain ⟨_, _, _, _, _, _, _, _, _, _, _, _, _, _, e, _⟩ := h; subst e; rfl) | (obtain ⟨_, _, _, _, _, _, _, _, _, _, _, _, _, _, _, e, _⟩ := h; subst e; rfl) | (obtain ⟨_, _, _, _, _, _, _, _, _, _, _, _, _, _, _, _, e, _⟩ := h; subst e; rfl) | (obtain ⟨_, _, _, _, _, _, _, _, _, _, _, _, _, _, _, _, _, e, _⟩ := h; subst e; rfl) | (obtain ⟨_, _, _, _, _, _, _, _, _, _, _, _, _, _, _, _, _, _, e, _⟩ := h; subst e; rfl) | (obtain ⟨_, _, _, _, _, _, _, _, _, _, _, _, _, _, _, _, _, _, _, e, _⟩ := h; subst e; rfl) | (obtain ⟨_, _, _, _, _, _, _, _, _, _, _, _, _, _, _, _, _, _, _, _, e, _⟩ := h; subst e; rfl) | (obtain ⟨_, _, _, _, _, _, _, _, _, _, _, _, _, _, _, _, _, _, _, _, _, e, _⟩ := h; subst e; rfl) | (obtain ⟨_, _, _, _, _, _, _, _, _, _, _, _, _, _, _, _, _, _, _, _, _, _, e, _⟩ := h; subst e; rfl) | (obtain ⟨_, _, _, _, _, _, _, _, _, _, _, _, _, _, _, _, _, _, _, _, _, _, _, e, _⟩ := h; subst e; rfl) | (obtain ⟨_, _, _, _, _, _, _, _, _, _, _, _, _, _, _, _, _, _, _, _, _, _, _, _, e, _⟩ := h; subst e; rfl) | (obtain ⟨_, _, _, _, _, _, _, _, _, _, _, _, _, _, _, _, _, _, _, _, _, _, _, _, _, e, _⟩ := h; subst e; rfl))) (fun f cdv A outer s H E F0 hr => ?_)
  have nd := (sc__law_pair).nd
  refine ⟨_, _, (db_one (ds_ret (de_tup (da_cons (de_blt (call_min2 rfl) lc_min2 B.min (da_cons (de_var 0) (da_cons (de_var 1) da_nil))) (da_cons (de_blt (call_max2 rfl) lc_max2 B.max (da_cons (de_var 0) (da_cons (de_var 1) da_nil))) da_nil))))), ?_⟩
  rintro ds M Q E ⟨a, b, rfl, q⟩
  simp only [dInsert, dVar, dC, dOp, dTest, dII, dIC, dFld, dFldS, dMake, dppNil, dppCons, dMerge, dDisp, dCatL, dExtend, dRg1, dLstRg, dChain, dEq, dAnd, dOr, dNot, dNext, dSeq, dDrop, dRet, dIfS, dNever, dFrzS, hName, hNil, hCons, hTup, hSub, dAsg, dNil, dCons, dTup, dLst, dLstM, dIx, dSet, dCall, dwipe, dYes, jSeq, jRng1, jRng2, dCB, dLen, dList, dListM, dTuple, dII2, dAbs, dInt, dBM0, dBM, dAppend, dPop, dPopAt, dAndV, dNotV, dNeg, dIn, dCat, dNoPart, dPart, dSl, dNewT, dIsi, dLc, dFor, dDc, dLenSetG, dLc2, dFrzE, dLcH, dKdIn, dKdIx, jZipM, if_true, if_false, ite_true, ite_false, Bool.false_eq_true, reduceIte, Bool.not_true, Bool.not_false, List.getElem?_cons_zero, List.getElem?_cons_succ, List.set_cons_zero, List.set_cons_succ, List.map_cons, List.map_nil, List.replicate, List.cons_append, List.nil_append, List.length_cons, List.length_nil, dstart]
  exact ⟨by decide, fin_self q⟩
theorem sc__law_pairs : FnScope ["_law_word", "_law_found", "_law_one", "_law_two"] ["_law_word"] (defScope s__law_pairs) := ⟨rfl, rfl, rfl, by decide +kernel, rfl, by decide +kernel, by decide +kernel⟩
def sp__law_pairs : DSp := fun ds M Q _ => ∃ f : Bool, ds = [wordW f] ∧ Q (.lst ((prsW f).map prD)) M
theorem c__law_pairs (F : DFun K mg "_law_pairs" s__law_pairs ["_law_word"]) (B : Bn mg) (G : Gs mg)  : DCal P w K mg base CX0 1 "_law_pairs" sp__law_pairs := by
  refine dok F sc__law_pairs (fun ds M Q E h => (by obtain ⟨_, h⟩ := h; first | (obtain ⟨e, _⟩ := h; subst e; rfl) | (obtain ⟨_, e, _⟩ := h; subst e; rfl) | (obtain ⟨_, _, e, _⟩ := h; subst e; rfl) | (obtain ⟨_, _, _, e, _⟩ := h; subst e; rfl) | (obtain ⟨_, _, _, _, e, _⟩ := h; subst e; rfl) | (obtain ⟨_, _, _, _, _, e, _⟩ := h; subst e; rfl) | (obtain ⟨_, _, _, _, _, _, e, _⟩ := h; subst e; rfl) | (obtain ⟨_, _, _, _, _, _, _, e, _⟩ := h; subst e; rfl) | (obtain ⟨_, _, _, _, _, _, _, _, e, _⟩ := h; subst e; rfl) | (obtain ⟨_, _, _, _, _, _, _, _, _, e, _⟩ := h; subst e; rfl) | (obtain ⟨_, _, _, _, _, _, _, _, _, _, e, _⟩ := h; subst e; rfl) | (obtain ⟨_, _, _, _, _, _, _, _, _, _, _, e, _⟩ := h; subst e; rfl) | (obtain ⟨_, _, _, _, _, _, _, _, _, _, _, _, e, _⟩ := h; subst e; rfl) | (obtain ⟨_, _, _, _, _, _, _, _, _, _, _, _, _, e, _⟩ := h; subst e; rfl) | (obtain ⟨_, _, _, _, _, _, _, _, _, _, _, _, _, _, e, _⟩ := h; subst e; rfl) | (obtain ⟨_, _, _, _, _, _, _, _, _, _, _, _, _, _, _, e, _⟩ := h; subst e; rfl) | (obtain ⟨_, _, _, _, _, _, _, _, _, _, _, _, _, _, _, _, e, _⟩ := h; subst e; rfl) | (obtain ⟨_, _, _, _, _, _, _, _, _, _, _, _, _, _, _, _, _, e, _⟩ := h; subst e; rfl) | (obtain ⟨_, _, _, _, _, _, _, _, _, _, _, _, _, _, _, _, _, _, e, _⟩ := h; subst e; rfl) | (obtain ⟨_, _, _, _, _, _, _, _, _, _, _, _, _, _, _, _, _, _, _, e, _⟩ := h; subst e; rfl) | (obtain ⟨_, _, _, _, _, _, _, _, _, _, _, _, _, _, _, _, _, _, _, _, e, _⟩ := h; subst e; rfl) | (obtain ⟨_, _, _, _, _, _, _, _, _, _, _, _, _, _, _, _, _, _, _, _, _, e, _⟩ := h; subst e; rfl) | (obtain ⟨_, _, _, _, _, _, _, _, _, _, _, _, _, _, _, _, _, _, _, _, _, _, e, _⟩ := h; subst e; rfl) | (obtain ⟨_, _, _, _, _, _, _, _, _, _, _, _, _, _, _, _, _, _, _, _, _, _, _, e, _⟩ := h; subst e; rfl) | (obtain ⟨_, _, _, _, _, _, _, _, _, _, _, _, _, _, _, _, _, _, _, _, _, _, _, _, e, _⟩ := h; subst e; rfl) | (obtain ⟨_, _, _, _, _, _, _, _, _, _, _, _, _, _, _, _, _, _, _, _, _, _, _, _, _, e, _⟩ := h; subst e; rfl))) (fun f cdv A outer s H E F0 hr => ?_)
  have nd := (sc__law_pairs).nd
  refine ⟨_, _, (db_cons (ds_set 1 nd (de_lstM da_nil))
      (db_cons (ds_if (dt_eq hr (de_var 0) de_str) (db_one (ds_for PassesOwn.never rfl (di_range1 B.range (da_cons de_int da_nil)) (dg_name 2 nd) (db_one (ds_expr (de_extend (de_var 1) (da_cons (dx_lc (own := [("_law_two", 3)]) rfl nd (di_range2 B.range (da_cons (de_add (de_var 2) de_int) (da_cons de_int da_nil))) (blkOk_by (N := ["_law_word", "_law_found", "_law_one", "_law_two"]) (sc := defScope s__law_pairs) (by decide +kernel)) (fun _ _ _ _ _ => ⟨_, (dg_name 3 nd), (gw_name (by decide))⟩) (fun _ _ _ _ _ => ⟨_, dts_nil⟩) (fun _ _ _ _ _ => ⟨_, (de_tup (da_cons (de_var 2) (da_cons (de_var 3) da_nil)))⟩)) da_nil)))))) (db_one (ds_for PassesOwn.never rfl (di_range1 B.range (da_cons de_int da_nil)) (dg_name 2 nd) (db_one (ds_expr (de_extend (de_var 1) (da_cons (dx_lc (own := [("_law_two", 3)]) rfl nd (di_range2 B.range (da_cons de_int (da_cons de_int da_nil))) (blkOk_by (N := ["_law_word", "_law_found", "_law_one", "_law_two"]) (sc := defScope s__law_pairs) (by decide +kernel)) (fun _ _ _ _ _ => ⟨_, (dg_name 3 nd), (gw_name (by decide))⟩) (fun _ _ _ _ _ => ⟨_, dts_nil⟩) (fun _ _ _ _ _ => ⟨_, (de_tup (da_cons (de_var 2) (da_cons (de_var 3) da_nil)))⟩)) da_nil)))))))
      (db_frz 1 (db_one (ds_ret (de_var 1)))))), ?_⟩
  rintro ds M Q E ⟨f, rfl, q⟩
  have ok1 : (D.str (Str.ofString "five")).ok 60 = true := by decide +kernel
  have ok2 : (D.str (Str.ofString "three")).ok 60 = true := by decide +kernel
  cases f with
  | true =>
    simp only [dInsert, dVar, dC, dOp, dTest, dII, dIC, dFld, dFldS, dMake, dppNil, dppCons, dMerge, dDisp, dCatL, dExtend, dRg1, dLstRg, dChain, dEq, dAnd, dOr, dNot, dNext, dSeq, dDrop, dRet, dIfS, dNever, dFrzS, hName, hNil, hCons, hTup, hSub, dAsg, dNil, dCons, dTup, dLst, dLstM, dIx, dSet, dCall, dwipe, dYes, jSeq, jRng1, jRng2, dCB, dLen, dList, dListM, dTuple, dII2, dAbs, dInt, dBM0, dBM, dAppend, dPop, dPopAt, dAndV, dNotV, dNeg, dIn, dCat, dNoPart, dPart, dSl, dNewT, dIsi, dLc, dFor, dDc, dLenSetG, dLc2, dFrzE, dLcH, dKdIn, dKdIx, jZipM, if_true, if_false, ite_true, ite_false, Bool.false_eq_true, reduceIte, Bool.not_true, Bool.not_false, List.getElem?_cons_zero, List.getElem?_cons_succ, List.set_cons_zero, List.set_cons_succ, List.map_cons, List.map_nil, List.replicate, List.cons_append, List.nil_append, List.length_cons, List.length_nil, dstart, wordW]
    refine ⟨Nat.zero_le _, fun p hp => ⟨ok1, ok1, ?_⟩⟩
    rw [if_pos (by simp)]
    refine ⟨⟨by decide, by decide⟩, dForI_of (fun i γ M' => ∃ o2 : Option D, γ = [some (.str "five"), some (.ref p), o2, none] ∧ M' = mset M p (.lst ((prsI true i).map prD))) ⟨_, rfl, rfl⟩ ?_ ?_⟩
    · rintro i e γ M' he ⟨o2, rfl, rfl⟩
      obtain ⟨hi, rfl⟩ := rgD_get he
      have hi5 : i < 5 := hi
      have hl := prsI_len true i
      simp only [dInsert, dVar, dC, dOp, dTest, dII, dIC, dFld, dFldS, dMake, dppNil, dppCons, dMerge, dDisp, dCatL, dExtend, dRg1, dLstRg, dChain, dEq, dAnd, dOr, dNot, dNext, dSeq, dDrop, dRet, dIfS, dNever, dFrzS, hName, hNil, hCons, hTup, hSub, dAsg, dNil, dCons, dTup, dLst, dLstM, dIx, dSet, dCall, dwipe, dYes, jSeq, jRng1, jRng2, dCB, dLen, dList, dListM, dTuple, dII2, dAbs, dInt, dBM0, dBM, dAppend, dPop, dPopAt, dAndV, dNotV, dNeg, dIn, dCat, dNoPart, dPart, dSl, dNewT, dIsi, dLc, dFor, dDc, dLenSetG, dLc2, dFrzE, dLcH, dKdIn, dKdIx, jZipM, if_true, if_false, ite_true, ite_false, Bool.false_eq_true, reduceIte, Bool.not_true, Bool.not_false, List.getElem?_cons_zero, List.getElem?_cons_succ, List.set_cons_zero, List.set_cons_succ, List.map_cons, List.map_nil, List.replicate, List.cons_append, List.nil_append, List.length_cons, List.length_nil, dstart, tyD, mset_same]
      have er : rgD (0 + (i : Int) + 1) (5 - (0 + (i : Int) + 1)).toNat = (List.range (5 - (i + 1))).map fun (j : Nat) => D.int (0 + (i : Int) + 1 + (j : Int)) := by
        unfold rgD
        rw [show (5 - (0 + (i : Int) + 1)).toNat = 5 - (i + 1) by omega]
      rw [er]
      refine ⟨trivial, ⟨by omega, by omega, by decide, by decide⟩, by rw [List.length_map, List.length_range, sizeLine_eq]; omega, dLcI_mapS (fun M2 => M2 = mset M p (.lst ((prsI true i).map prD))) (List.range (5 - (i + 1))) _ (fun (j : Nat) => prD ((i : Int), (i : Int) + 1 + (j : Int))) rfl (fun k j M2 hy hM Q2 q2 => ?_) fun M2 hM => ?_⟩
      · subst hM
        simp only [dInsert, dVar, dC, dOp, dTest, dII, dIC, dFld, dFldS, dMake, dppNil, dppCons, dMerge, dDisp, dCatL, dExtend, dRg1, dLstRg, dChain, dEq, dAnd, dOr, dNot, dNext, dSeq, dDrop, dRet, dIfS, dNever, dFrzS, hName, hNil, hCons, hTup, hSub, dAsg, dNil, dCons, dTup, dLst, dLstM, dIx, dSet, dCall, dwipe, dYes, jSeq, jRng1, jRng2, dCB, dLen, dList, dListM, dTuple, dII2, dAbs, dInt, dBM0, dBM, dAppend, dPop, dPopAt, dAndV, dNotV, dNeg, dIn, dCat, dNoPart, dPart, dSl, dNewT, dIsi, dLc, dFor, dDc, dLenSetG, dLc2, dFrzE, dLcH, dKdIn, dKdIx, jZipM, if_true, if_false, ite_true, ite_false, Bool.false_eq_true, reduceIte, Bool.not_true, Bool.not_false, List.getElem?_cons_zero, List.getElem?_cons_succ, List.set_cons_zero, List.set_cons_succ, List.map_cons, List.map_nil, List.replicate, List.cons_append, List.nil_append, List.length_cons, List.length_nil, dstart, Int.zero_add]
        exact ⟨by decide, q2 _ rfl⟩
      · subst hM
        simp only [mset_same]
        refine ⟨_, rfl, by rw [List.length_map, List.length_map, List.length_range, sizeLine_eq]; omega, _, rfl, ?_⟩
        rw [mset_mset]
        congr 2
        rw [prsI_succ, List.map_append]
        congr 1
        unfold rowW
        rw [if_pos rfl, List.map_map]
        try rfl
    · rintro γ M' ⟨o2, rfl, rfl⟩
      rw [rgD_len, show (Int.toNat 5) = 5 from rfl, prsI_five]
      simp only [dInsert, dVar, dC, dOp, dTest, dII, dIC, dFld, dFldS, dMake, dppNil, dppCons, dMerge, dDisp, dCatL, dExtend, dRg1, dLstRg, dChain, dEq, dAnd, dOr, dNot, dNext, dSeq, dDrop, dRet, dIfS, dNever, dFrzS, hName, hNil, hCons, hTup, hSub, dAsg, dNil, dCons, dTup, dLst, dLstM, dIx, dSet, dCall, dwipe, dYes, jSeq, jRng1, jRng2, dCB, dLen, dList, dListM, dTuple, dII2, dAbs, dInt, dBM0, dBM, dAppend, dPop, dPopAt, dAndV, dNotV, dNeg, dIn, dCat, dNoPart, dPart, dSl, dNewT, dIsi, dLc, dFor, dDc, dLenSetG, dLc2, dFrzE, dLcH, dKdIn, dKdIx, jZipM, if_true, if_false, ite_true, ite_false, Bool.false_eq_true, reduceIte, Bool.not_true, Bool.not_false, List.getElem?_cons_zero, List.getElem?_cons_succ, List.set_cons_zero, List.set_cons_succ, List.map_cons, List.map_nil, List.replicate, List.cons_append, List.nil_append, List.length_cons, List.length_nil, dstart, mset_same]
      rw [mdel_mset hp]
      exact fin_self q
  | false =>
    simp only [dInsert, dVar, dC, dOp, dTest, dII, dIC, dFld, dFldS, dMake, dppNil, dppCons, dMerge, dDisp, dCatL, dExtend, dRg1, dLstRg, dChain, dEq, dAnd, dOr, dNot, dNext, dSeq, dDrop, dRet, dIfS, dNever, dFrzS, hName, hNil, hCons, hTup, hSub, dAsg, dNil, dCons, dTup, dLst, dLstM, dIx, dSet, dCall, dwipe, dYes, jSeq, jRng1, jRng2, dCB, dLen, dList, dListM, dTuple, dII2, dAbs, dInt, dBM0, dBM, dAppend, dPop, dPopAt, dAndV, dNotV, dNeg, dIn, dCat, dNoPart, dPart, dSl, dNewT, dIsi, dLc, dFor, dDc, dLenSetG, dLc2, dFrzE, dLcH, dKdIn, dKdIx, jZipM, if_true, if_false, ite_true, ite_false, Bool.false_eq_true, reduceIte, Bool.not_true, Bool.not_false, List.getElem?_cons_zero, List.getElem?_cons_succ, List.set_cons_zero, List.set_cons_succ, List.map_cons, List.map_nil, List.replicate, List.cons_append, List.nil_append, List.length_cons, List.length_nil, dstart, wordW]
    refine ⟨Nat.zero_le _, fun p hp => ⟨ok2, ok1, ?_⟩⟩
    rw [if_neg (by simp; decide +kernel)]
    refine ⟨⟨by decide, by decide⟩, dForI_of (fun i γ M' => ∃ o2 : Option D, γ = [some (.str "three"), some (.ref p), o2, none] ∧ M' = mset M p (.lst ((prsI false i).map prD))) ⟨_, rfl, rfl⟩ ?_ ?_⟩
    · rintro i e γ M' he ⟨o2, rfl, rfl⟩
      obtain ⟨hi, rfl⟩ := rgD_get he
      have hi5 : i < 3 := hi
      have hl := prsI_len false i
      simp only [dInsert, dVar, dC, dOp, dTest, dII, dIC, dFld, dFldS, dMake, dppNil, dppCons, dMerge, dDisp, dCatL, dExtend, dRg1, dLstRg, dChain, dEq, dAnd, dOr, dNot, dNext, dSeq, dDrop, dRet, dIfS, dNever, dFrzS, hName, hNil, hCons, hTup, hSub, dAsg, dNil, dCons, dTup, dLst, dLstM, dIx, dSet, dCall, dwipe, dYes, jSeq, jRng1, jRng2, dCB, dLen, dList, dListM, dTuple, dII2, dAbs, dInt, dBM0, dBM, dAppend, dPop, dPopAt, dAndV, dNotV, dNeg, dIn, dCat, dNoPart, dPart, dSl, dNewT, dIsi, dLc, dFor, dDc, dLenSetG, dLc2, dFrzE, dLcH, dKdIn, dKdIx, jZipM, if_true, if_false, ite_true, ite_false, Bool.false_eq_true, reduceIte, Bool.not_true, Bool.not_false, List.getElem?_cons_zero, List.getElem?_cons_succ, List.set_cons_zero, List.set_cons_succ, List.map_cons, List.map_nil, List.replicate, List.cons_append, List.nil_append, List.length_cons, List.length_nil, dstart, tyD, mset_same]
      have er : rgD 3 (6 - 3 : Int).toNat = (List.range 3).map fun (j : Nat) => D.int (3 + (j : Int)) := rfl
      rw [er]
      refine ⟨trivial, ⟨by decide, by decide, by decide, by decide⟩, by rw [List.length_map, List.length_range, sizeLine_eq]; omega, dLcI_mapS (fun M2 => M2 = mset M p (.lst ((prsI false i).map prD))) (List.range 3) _ (fun (j : Nat) => prD ((i : Int), 3 + (j : Int))) rfl (fun k j M2 hy hM Q2 q2 => ?_) fun M2 hM => ?_⟩
      · subst hM
        simp only [dInsert, dVar, dC, dOp, dTest, dII, dIC, dFld, dFldS, dMake, dppNil, dppCons, dMerge, dDisp, dCatL, dExtend, dRg1, dLstRg, dChain, dEq, dAnd, dOr, dNot, dNext, dSeq, dDrop, dRet, dIfS, dNever, dFrzS, hName, hNil, hCons, hTup, hSub, dAsg, dNil, dCons, dTup, dLst, dLstM, dIx, dSet, dCall, dwipe, dYes, jSeq, jRng1, jRng2, dCB, dLen, dList, dListM, dTuple, dII2, dAbs, dInt, dBM0, dBM, dAppend, dPop, dPopAt, dAndV, dNotV, dNeg, dIn, dCat, dNoPart, dPart, dSl, dNewT, dIsi, dLc, dFor, dDc, dLenSetG, dLc2, dFrzE, dLcH, dKdIn, dKdIx, jZipM, if_true, if_false, ite_true, ite_false, Bool.false_eq_true, reduceIte, Bool.not_true, Bool.not_false, List.getElem?_cons_zero, List.getElem?_cons_succ, List.set_cons_zero, List.set_cons_succ, List.map_cons, List.map_nil, List.replicate, List.cons_append, List.nil_append, List.length_cons, List.length_nil, dstart, Int.zero_add]
        exact ⟨by decide, q2 _ rfl⟩
      · subst hM
        simp only [mset_same]
        refine ⟨_, rfl, by rw [List.length_map, List.length_map, List.length_range, sizeLine_eq]; omega, _, rfl, ?_⟩
        rw [mset_mset]
        congr 2
        rw [prsI_succ, List.map_append]
        congr 1
    · rintro γ M' ⟨o2, rfl, rfl⟩
      rw [rgD_len, show (Int.toNat 3) = 3 from rfl, prsI_three]
      simp only [dInsert, dVar, dC, dOp, dTest, dII, dIC, dFld, dFldS, dMake, dppNil, dppCons, dMerge, dDisp, dCatL, dExtend, dRg1, dLstRg, dChain, dEq, dAnd, dOr, dNot, dNext, dSeq, dDrop, dRet, dIfS, dNever, dFrzS, hName, hNil, hCons, hTup, hSub, dAsg, dNil, dCons, dTup, dLst, dLstM, dIx, dSet, dCall, dwipe, dYes, jSeq, jRng1, jRng2, dCB, dLen, dList, dListM, dTuple, dII2, dAbs, dInt, dBM0, dBM, dAppend, dPop, dPopAt, dAndV, dNotV, dNeg, dIn, dCat, dNoPart, dPart, dSl, dNewT, dIsi, dLc, dFor, dDc, dLenSetG, dLc2, dFrzE, dLcH, dKdIn, dKdIx, jZipM, if_true, if_false, ite_true, ite_false, Bool.false_eq_true, reduceIte, Bool.not_true, Bool.not_false, List.getElem?_cons_zero, List.getElem?_cons_succ, List.set_cons_zero, List.set_cons_succ, List.map_cons, List.map_nil, List.replicate, List.cons_append, List.nil_append, List.length_cons, List.length_nil, dstart, mset_same]
      rw [mdel_mset hp]
      exact fin_self q
theorem sc__law_shuffled : FnScope ["_law_dice_here", "_law_items", "_law_left", "_law_k"] ["_law_dice_here", "_law_items"] (defScope s__law_shuffled) := ⟨rfl, rfl, rfl, by decide +kernel, rfl, by decide +kernel, by decide +kernel⟩
def sp__law_shuffled : DSp := fun ds M Q _ => ∃ (p : Addr) (th : D) (ns : List D), ds = [.ref p, th] ∧ itemsV M th = some ns ∧ DiL M p ∧ ns.length ≤ 1000000 ∧ ∀ (ms : List D) M2, DiL M2 p → Ext M M2 [p] → ms.Perm ns → Q (.tup ms) M2
theorem c__law_shuffled (F : DFun K mg "_law_shuffled" s__law_shuffled ["_law_dice_here", "_law_items"]) (B : Bn mg) (G : Gs mg) (c__law_draw : DCal P w K mg base CX0 1 "_law_draw" sp__law_draw) : DCal P w K mg base CX0 2 "_law_shuffled" sp__law_shuffled := by
  refine dok F sc__law_shuffled (fun ds M Q E h => (by obtain ⟨_, h⟩ := h; first | (obtain ⟨e, _⟩ := h; subst e; rfl) | (obtain ⟨_, e, _⟩ := h; subst e; rfl) | (obtain ⟨_, _, e, _⟩ := h; subst e; rfl) | (obtain ⟨_, _, _, e, _⟩ := h; subst e; rfl) | (obtain ⟨_, _, _, _, e, _⟩ := h; subst e; rfl) | (obtain ⟨_, _, _, _, _, e, _⟩ := h; subst e; rfl) | (obtain ⟨_, _, _, _, _, _, e, _⟩ := h; subst e; rfl) | (obtain ⟨_, _, _, _, _, _, _, e, _⟩ := h; subst e; rfl) | (obtain ⟨_, _, _, _, _, _, _, _, e, _⟩ := h; subst e; rfl) | (obtain ⟨_, _, _, _, _, _, _, _, _, e, _⟩ := h; subst e; rfl) | (obtain ⟨_, _, _, _, _, _, _, _, _, _, e, _⟩ := h; subst e; rfl) | (obtain ⟨_, _, _, _, _, _, _, _, _, _, _, e, _⟩ := h; subst e; rfl) | (obtain ⟨_, _, _, _, _, _, _, _, _, _, _, _, e, _⟩ := h; subst e; rfl) | (obtain ⟨_, _, _, _, _, _, _, _, _, _, _, _, _, e, _⟩ := h; subst e; rfl) | (obtain ⟨_, _, _, _, _, _, _, _, _, _, _, _, _, _, e, _⟩ := h; subst e; rfl) | (obtain ⟨_, _, _, _, _, _, _, _, _, _, _, _, _, _, _, e, _⟩ := h; subst e; rfl) | (obtain ⟨_, _, _, _, _, _, _, _, _, _, _, _, _, _, _, _, e, _⟩ := h; subst e; rfl) | (obtain ⟨_, _, _, _, _, _, _, _, _, _, _, _, _, _, _, _, _, e, _⟩ := h; subst e; rfl) | (obtain ⟨_, _, _, _, _, _, _, _, _, _, _, _, _, _, _, _, _, _, e, _⟩ := h; subst e; rfl) | (obtain ⟨_, _, _, _, _, _, _, _, _, _, _, _, _, _, _, _, _, _, _, e, _⟩ := h; subst e; rfl) | (obtain ⟨_, _, _, _, _, _, _, _, _, _, _, _, _, _, _, _, _, _, _, _, e, _⟩ := h; subst e; rfl) | (obtain ⟨_, _, _, _, _, _, _, _, _, _, _, _, _, _, _, _, _, _, _, _, _, e, _⟩ := h; subst e; rfl) | (obtain ⟨_, _, _, _, _, _, _, _, _, _, _, _, _, _, _, _, _, _, _, _, _, _, e, _⟩ := h; subst e; rfl) | (obtain ⟨_, _, _, _, _, _, _, _, _, _, _, _, _, _, _, _, _, _, _, _, _, _, _, e, _⟩ := h; subst e; rfl) | (obtain ⟨_, _, _, _, _, _, _, _, _, _, _, _, _, _, _, _, _, _, _, _, _, _, _, _, e, _⟩ := h; subst e; rfl) | (obtain ⟨_, _, _, _, _, _, _, _, _, _, _, _, _, _, _, _, _, _, _, _, _, _, _, _, _, e, _⟩ := h; subst e; rfl))) (fun f cdv A outer s H E F0 hr => ?_)
  have nd := (sc__law_shuffled).nd
  refine ⟨_, _, (db_cons (ds_set 2 nd (de_bty (call_listA rfl) lc_listM B.list (da_cons (de_var 1) da_nil)))
      (db_one (ds_ret (de_bty call_tuple_of lc_tuple B.tuple (da_cons (dx_lc (own := [("_law_k", 3)]) rfl nd (di_range1 B.range (da_cons (de_len B.len (da_cons (de_var 2) da_nil)) da_nil)) (blkOk_by (N := ["_law_dice_here", "_law_items", "_law_left", "_law_k"]) (sc := defScope s__law_shuffled) (by decide +kernel)) (fun _ _ _ _ _ => ⟨_, (dg_name 3 nd), (gw_name (by decide))⟩) (fun _ _ _ _ _ => ⟨_, dts_nil⟩) (fun _ _ _ _ _ => ⟨_, (de_popAt (de_var 2) (da_cons (de_call c__law_draw hr (goes0A (E := DXK.no)) (da_cons (de_var 0) (da_cons (de_len B.len (da_cons (de_var 2) da_nil)) da_nil))) da_nil))⟩)) da_nil))))), ?_⟩
  rintro ds M Q E ⟨p, th, ns, rfl, hth, hp, hn, q⟩
  simp only [dInsert, dVar, dC, dOp, dTest, dII, dIC, dFld, dFldS, dMake, dppNil, dppCons, dMerge, dDisp, dCatL, dExtend, dRg1, dLstRg, dChain, dEq, dAnd, dOr, dNot, dNext, dSeq, dDrop, dRet, dIfS, dNever, dFrzS, hName, hNil, hCons, hTup, hSub, dAsg, dNil, dCons, dTup, dLst, dLstM, dIx, dSet, dCall, dwipe, dYes, jSeq, jRng1, jRng2, dCB, dLen, dList, dListM, dTuple, dII2, dAbs, dInt, dBM0, dBM, dAppend, dPop, dPopAt, dAndV, dNotV, dNeg, dIn, dCat, dNoPart, dPart, dSl, dNewT, dIsi, dLc, dFor, dDc, dLenSetG, dLc2, dFrzE, dLcH, dKdIn, dKdIx, jZipM, if_true, if_false, ite_true, ite_false, Bool.false_eq_true, reduceIte, Bool.not_true, Bool.not_false, List.getElem?_cons_zero, List.getElem?_cons_succ, List.set_cons_zero, List.set_cons_succ, List.map_cons, List.map_nil, List.replicate, List.cons_append, List.nil_append, List.length_cons, List.length_nil, dstart]
  refine ⟨_, hth, fun a ha => ⟨ns.length, by simp only [lenV, mset_same], by omega, by rw [rgD_len]; exact len_ok (by omega), ?_⟩⟩
  have nap : a ≠ p := hp.some ha
  refine ⟨fun i acc M' => ∃ ls : List D, ls.length + i = ns.length ∧ (acc ++ ls).Perm ns ∧ M' a = some (.lst ls) ∧ DiL M' p ∧ Ext M M' [p], ⟨ns, by omega, by simp, mset_same, hp.mset nap, (Ext.refl M [p]).mset ha⟩, ?_, ?_⟩
  · rintro i d2 acc M' hd ⟨ls, h1, h2, h3, h4, h5⟩
    obtain ⟨hi, rfl⟩ := rgD_get hd
    simp only [dInsert, dVar, dC, dOp, dTest, dII, dIC, dFld, dFldS, dMake, dppNil, dppCons, dMerge, dDisp, dCatL, dExtend, dRg1, dLstRg, dChain, dEq, dAnd, dOr, dNot, dNext, dSeq, dDrop, dRet, dIfS, dNever, dFrzS, hName, hNil, hCons, hTup, hSub, dAsg, dNil, dCons, dTup, dLst, dLstM, dIx, dSet, dCall, dwipe, dYes, jSeq, jRng1, jRng2, dCB, dLen, dList, dListM, dTuple, dII2, dAbs, dInt, dBM0, dBM, dAppend, dPop, dPopAt, dAndV, dNotV, dNeg, dIn, dCat, dNoPart, dPart, dSl, dNewT, dIsi, dLc, dFor, dDc, dLenSetG, dLc2, dFrzE, dLcH, dKdIn, dKdIx, jZipM, if_true, if_false, ite_true, ite_false, Bool.false_eq_true, reduceIte, Bool.not_true, Bool.not_false, List.getElem?_cons_zero, List.getElem?_cons_succ, List.set_cons_zero, List.set_cons_succ, List.map_cons, List.map_nil, List.replicate, List.cons_append, List.nil_append, List.length_cons, List.length_nil, dstart]
    simp only [tyD, h3]
    refine ⟨trivial, ls.length, by simp only [lenV, h3], p, ls.length, rfl, h4, by omega, by omega, fun r M2 r0 r1 d2 a2 => ?_⟩
    have a2a : M2 a = some (.lst ls) := (a2 a (by simpa using nap)).trans h3
    have hr : r.toNat < ls.length := by omega
    have e1 : ls[r.toNat]? = some ls[r.toNat] := List.getElem?_eq_getElem hr
    generalize ls[r.toNat] = x at e1
    simp only [a2a]
    refine ⟨r.toNat, x, ixN_of (by omega) hr, e1, ls.eraseIdx r.toNat, by rw [List.length_eraseIdx, if_pos hr]; omega, ?_, mset_same, d2.mset nap, (h5.trans a2.ext).mset ha⟩
    have z := eraseIdx_perm e1
    refine List.Perm.trans ?_ h2
    rw [List.append_assoc]
    refine List.Perm.append_left _ ?_
    exact (List.perm_append_comm).trans z
  · rintro acc M' ⟨ls, h1, h2, h3, h4, h5⟩
    rw [rgD_len] at h1
    have : ls = [] := List.length_eq_zero_iff.mp (by omega)
    rw [this, List.append_nil] at h2
    exact fin_self (q acc M' h4 h5 h2)
theorem sc__law_barred : FnScope ["_law_dice_here", "_law_most", "_law_word", "_law_corners", "_law_size", "_law_ways", "_law_hung", "_law_content", "_law_at", "_law_way", "_law_names", "_law_found", "_law_k", "_law_one", "_law_two", "_law_told", "_law_pair_here"] ["_law_dice_here", "_law_most"] (defScope s__law_barred) := ⟨rfl, rfl, rfl, by decide +kernel, rfl, by decide +kernel, by decide +kernel⟩
def sp__law_barred : DSp := fun ds M Q _ => ∃ (p : Addr), ds = [.ref p, .int 8] ∧ DiL M p ∧ ∀ n ps f cs ws M2, BookOk n ps → n ≤ 8 → BarP n ps f cs ws → StrOk n ps ws → DiL M2 p → Ext M M2 [p] → Q (.tup [.int n, .tup (ps.map prD), barD f cs ws]) M2
theorem c__law_barred (F : DFun K mg "_law_barred" s__law_barred ["_law_dice_here", "_law_most"]) (B : Bn mg) (G : Gs mg) (c__law_draw : DCal P w K mg base CX0 1 "_law_draw" sp__law_draw) (c__law_named : DCal P w K mg base CX0 1 "_law_named" sp__law_named) (c__law_pair : DCal P w K mg base CX0 1 "_law_pair" sp__law_pair) (c__law_pairs : DCal P w K mg base CX0 1 "_law_pairs" sp__law_pairs) (c__law_shuffled : DCal P w K mg base CX0 2 "_law_shuffled" sp__law_shuffled) : DCal P w K mg base CX0 3 "_law_barred" sp__law_barred := by
  refine dok F sc__law_barred (fun ds M Q E h => (by obtain ⟨_, h⟩ := h; first | (obtain ⟨e, _⟩ := h; subst e; rfl) | (obtain ⟨_, e, _⟩ := h; subst e; rfl) | (obtain ⟨_, _, e, _⟩ := h; subst e; rfl) | (obtain ⟨_, _, _, e, _⟩ := h; subst e; rfl) | (obtain ⟨_, _, _, _, e, _⟩ := h; subst e; rfl) | (obtain ⟨_, _, _, _, _, e, _⟩ := h; subst e; rfl) | (obtain ⟨_, _, _, _, _, _, e, _⟩ := h; subst e; rfl) | (obtain ⟨_, _, _, _, _, _, _, e, _⟩ := h; subst e; rfl) | (obtain ⟨_, _, _, _, _, _, _, _, e, _⟩ := h; subst e; rfl) | (obtain ⟨_, _, _, _, _, _, _, _, _, e, _⟩ := h; subst e; rfl) | (obtain ⟨_, _, _, _, _, _, _, _, _, _, e, _⟩ := h; subst e; rfl) | (obtain ⟨_, _, _, _, _, _, _, _, _, _, _, e, _⟩ := h; subst e; rfl) | (obtain ⟨_, _, _, _, _, _, _, _, _, _, _, _, e, _⟩ := h; subst e; rfl) | (obtain ⟨_, _, _, _, _, _, _, _, _, _, _, _, _, e, _⟩ := h; subst e; rfl) | (obtain ⟨_, _, _, _, _, _, _, _, _, _, _, _, _, _, e, _⟩ := h; subst e; rfl) | (obtain ⟨_, _, _, _, _, _, _, _, _, _, _, _, _, _, _, e, _⟩ := h; subst e; rfl) | (obtain ⟨_, _, _, _, _, _, _, _, _, _, _, _, _, _, _, _, e, _⟩ := h; subst e; rfl) | (obtain ⟨_, _, _, _, _, _, _, _, _, _, _, _, _, _, _, _, _, e, _⟩ := h; subst e; rfl) | (obtain ⟨_, _, _, _, _, _, _, _, _, _, _, _, _, _, _, _, _, _, e, _⟩ := h; subst e; rfl) | (obtain ⟨_, _, _, _, _, _, _, _, _, _, _, _, _, _, _, _, _, _, _, e, _⟩ := h; subst e; rfl) | (obtain ⟨_, _, _, _, _, _, _, _, _, _, _, _, _, _, _, _, _, _, _, _, e, _⟩ := h; subst e; rfl) | (obtain ⟨_, _, _, _, _, _, _, _, _, _, _, _, _, _, _, _, _, _, _, _, _, e, _⟩ := h; subst e; rfl) | (obtain ⟨_, _, _, _, _, _, _, _, _, _, _, _, _, _, _, _, _, _, _, _, _, _, e, _⟩ := h; subst e; rfl) | (obtain ⟨_, _, _, _, _, _, _, _, _, _, _, _, _, _, _, _, _, _, _, _, _, _, _, e, _⟩ := h; subst e; rfl) | (obtain ⟨_, _, _, _, _, _, _, _, _, _, _, _, _, _, _, _, _, _, _, _, _, _, _, _, e, _⟩ := h; subst e; rfl) | (obtain ⟨_, _, _, _, _, _, _, _, _, _, _, _, _, _, _, _, _, _, _, _, _, _, _, _, _, e, _⟩ := h; subst e; rfl))) (fun f cdv A outer s H E F0 hr => ?_)
  have nd := (sc__law_barred).nd
  refine ⟨_, _, (db_cons (ds_set 2 nd (de_ix hr (de_lst (da_cons de_str (da_cons de_str da_nil))) (de_call c__law_draw hr (goes0A (E := DXK.no)) (da_cons (de_var 0) (da_cons de_int da_nil)))))
      (db_cons (ds_set 3 nd (de_add de_int (de_bty call_int1 lc_int B.int (da_cons (de_eq hr (de_var 2) de_str) da_nil))))
      (db_cons (ds_set 4 nd (de_add (de_var 3) (de_call c__law_draw hr (goes0A (E := DXK.no)) (da_cons (de_var 0) (da_cons (de_add (de_sub (de_var 1) (de_var 3)) de_int) da_nil)))))
      (db_cons (dx_setLc 5 (own := [("_law_pair_here", 16)]) rfl nd (sw_true rfl rfl rfl (by decide +kernel)) (di_seq (de_call c__law_pairs hr (goes0A (E := DXK.no)) (da_cons (de_var 2) da_nil))) (blkOk_by (N := ["_law_dice_here", "_law_most", "_law_word", "_law_corners", "_law_size", "_law_ways", "_law_hung", "_law_content", "_law_at", "_law_way", "_law_names", "_law_found", "_law_k", "_law_one", "_law_two", "_law_told", "_law_pair_here"]) (sc := defScope s__law_barred) (by decide +kernel)) (fun _ _ _ _ _ => ⟨_, (dg_name 16 nd), (gw_name (by decide))⟩) (fun _ _ _ _ _ => ⟨_, dts_nil⟩) (fun _ _ _ _ _ => ⟨_, (de_bty (call_listA rfl) lc_listM B.list (da_cons (de_var 16) da_nil))⟩))
      (db_cons (ds_set 6 nd (de_lstM da_nil))
      (db_cons (ds_for PassesOwn.never rfl (di_range2 B.range (da_cons (de_var 3) (da_cons (de_var 4) da_nil))) (dg_name 7 nd) (db_cons (ds_set 8 nd (de_call c__law_draw hr (goes0A (E := DXK.no)) (da_cons (de_var 0) (da_cons (de_add (de_len B.len (da_cons (de_var 5) da_nil)) de_int) da_nil))))
      (db_one (ds_if (dt_lt (de_var 8) (de_len B.len (da_cons (de_var 5) da_nil))) (db_cons (ds_set 9 nd (de_ix hr (de_var 5) (de_var 8)))
      (db_one (ds_expr (de_insert (de_var 9) (da_cons (de_add de_int (de_call c__law_draw hr (goes0A (E := DXK.no)) (da_cons (de_var 0) (da_cons (de_sub (de_len B.len (da_cons (de_var 9) da_nil)) de_int) da_nil)))) (da_cons (de_var 7) da_nil)))))) (db_one (ds_expr (de_append (de_var 6) (da_cons (de_lst (da_cons (de_call c__law_draw hr (goes0A (E := DXK.no)) (da_cons (de_var 0) (da_cons (de_var 7) da_nil))) (da_cons (de_var 7) da_nil))) da_nil))))))))
      (db_cons (ds_set 10 nd (de_call c__law_shuffled hr (goes0A (E := DXK.no)) (da_cons (de_var 0) (da_cons (de_listRg B.list (drg_1 B.range (de_var 4))) da_nil))))
      (db_cons (ds_set 11 nd de_newT)
      (db_cons (ds_for PassesOwn.never rfl (di_seq (de_catL (de_var 5) (de_var 6))) (dg_name 9 nd) (db_one (ds_for PassesOwn.never rfl (di_range2 B.range (da_cons de_int (da_cons (de_len B.len (da_cons (de_var 9) da_nil)) da_nil))) (dg_name 8 nd) (db_one (ds_put hr (de_var 11) (de_call c__law_pair hr (goes0A (E := DXK.no)) (da_cons (de_ix hr (de_var 10) (de_ix hr (de_var 9) (de_sub (de_var 8) de_int))) (da_cons (de_ix hr (de_var 10) (de_ix hr (de_var 9) (de_var 8))) da_nil))) de_bl)))))
      (db_cons (ds_for PassesOwn.never rfl (di_range1 B.range (da_cons (de_call c__law_draw hr (goes0A (E := DXK.no)) (da_cons (de_var 0) (da_cons de_int da_nil))) da_nil)) (dg_name 12 nd) (db_cons (ds_set 13 nd (de_call c__law_draw hr (goes0A (E := DXK.no)) (da_cons (de_var 0) (da_cons (de_var 4) da_nil))))
      (db_cons (ds_set 14 nd (de_call c__law_draw hr (goes0A (E := DXK.no)) (da_cons (de_var 0) (da_cons (de_sub (de_var 4) de_int) da_nil))))
      (db_one (ds_put hr (de_var 11) (de_call c__law_pair hr (goes0A (E := DXK.no)) (da_cons (de_var 13) (da_cons (de_mod (de_bty call_int1 lc_int B.int (da_cons (de_add (de_add (de_var 13) de_int) (de_var 14)) da_nil)) (de_var 4)) da_nil))) de_bl)))))
      (db_cons (ds_set 15 nd (de_bty call_tuple_of lc_tuple B.tuple (da_cons (dx_lc (own := [("_law_way", 9)]) rfl nd (di_seq (de_var 5)) (blkOk_by (N := ["_law_dice_here", "_law_most", "_law_word", "_law_corners", "_law_size", "_law_ways", "_law_hung", "_law_content", "_law_at", "_law_way", "_law_names", "_law_found", "_law_k", "_law_one", "_law_two", "_law_told", "_law_pair_here"]) (sc := defScope s__law_barred) (by decide +kernel)) (fun _ _ _ _ _ => ⟨_, (dg_name 9 nd), (gw_name (by decide))⟩) (fun _ _ _ _ _ => ⟨_, dts_nil⟩) (fun _ _ _ _ _ => ⟨_, (de_call c__law_named hr (goes0A (E := DXK.no)) (da_cons (de_var 10) (da_cons (de_var 9) da_nil)))⟩)) da_nil)))
      (db_one (ds_ret (de_tup (da_cons (de_var 4) (da_cons (de_bty call_tuple_of lc_tuple B.tuple (da_cons (de_sortP B.sorted (da_cons (de_bty (call_listA rfl) lc_list B.list (da_cons (de_var 11) da_nil)) da_nil)) da_nil)) (da_cons (de_tup (da_cons (de_var 2) (da_cons (de_slice (de_var 10) do_none (do_some (de_var 3))) (da_cons (de_var 15) da_nil)))) da_nil))))))))))))))))), ?_⟩
  rintro ds M Q E ⟨p, rfl, hp, q⟩
  refine dSeq_then (fun γ' M' => ∃ f : Bool, γ' = [some (.ref p), some (.int 8), some (wordW f), none, none, none, none, none, none, none, none, none, none, none, none, none, none] ∧ DiL M' p ∧ Ext M M' [p]) (fun nx hn => ?_) (fun γ1 M1 h => ?_)
  · simp only [dInsert, dVar, dC, dOp, dTest, dII, dIC, dFld, dFldS, dMake, dppNil, dppCons, dMerge, dDisp, dCatL, dExtend, dRg1, dLstRg, dChain, dEq, dAnd, dOr, dNot, dNext, dSeq, dDrop, dRet, dIfS, dNever, dFrzS, hName, hNil, hCons, hTup, hSub, dAsg, dNil, dCons, dTup, dLst, dLstM, dIx, dSet, dCall, dwipe, dYes, jSeq, jRng1, jRng2, dCB, dLen, dList, dListM, dTuple, dII2, dAbs, dInt, dBM0, dBM, dAppend, dPop, dPopAt, dAndV, dNotV, dNeg, dIn, dCat, dNoPart, dPart, dSl, dNewT, dIsi, dLc, dFor, dDc, dLenSetG, dLc2, dFrzE, dLcH, dKdIn, dKdIx, jZipM, if_true, if_false, ite_true, ite_false, Bool.false_eq_true, reduceIte, Bool.not_true, Bool.not_false, List.getElem?_cons_zero, List.getElem?_cons_succ, List.set_cons_zero, List.set_cons_succ, List.map_cons, List.map_nil, List.replicate, List.cons_append, List.nil_append, List.length_cons, List.length_nil, dstart]
    refine ⟨by decide, p, 2, rfl, hp, by decide, by decide, fun r M2 r0 r1 d2 a2 => ?_⟩
    rcases (by omega : r = 0 ∨ r = 1) with rfl | rfl
    · exact ⟨wordW true, ixL_at (k := 0) rfl rfl, hn _ _ ⟨true, rfl, d2, a2.ext⟩⟩
    · exact ⟨wordW false, ixL_at (k := 1) rfl rfl, hn _ _ ⟨false, rfl, d2, a2.ext⟩⟩
  obtain ⟨f, rfl, hp1, E1⟩ := h
  have c5 : 5 ≤ corW f ∧ corW f ≤ 6 := by cases f <;> decide
  refine dSeq_then (fun γ' M' => γ' = [some (.ref p), some (.int 8), some (wordW f), some (.int (corW f)), none, none, none, none, none, none, none, none, none, none, none, none, none] ∧ M' = M1) (fun nx hn => ?_) (fun γ2 M2 h => ?_)
  · simp only [dInsert, dVar, dC, dOp, dTest, dII, dIC, dFld, dFldS, dMake, dppNil, dppCons, dMerge, dDisp, dCatL, dExtend, dRg1, dLstRg, dChain, dEq, dAnd, dOr, dNot, dNext, dSeq, dDrop, dRet, dIfS, dNever, dFrzS, hName, hNil, hCons, hTup, hSub, dAsg, dNil, dCons, dTup, dLst, dLstM, dIx, dSet, dCall, dwipe, dYes, jSeq, jRng1, jRng2, dCB, dLen, dList, dListM, dTuple, dII2, dAbs, dInt, dBM0, dBM, dAppend, dPop, dPopAt, dAndV, dNotV, dNeg, dIn, dCat, dNoPart, dPart, dSl, dNewT, dIsi, dLc, dFor, dDc, dLenSetG, dLc2, dFrzE, dLcH, dKdIn, dKdIx, jZipM, if_true, if_false, ite_true, ite_false, Bool.false_eq_true, reduceIte, Bool.not_true, Bool.not_false, List.getElem?_cons_zero, List.getElem?_cons_succ, List.set_cons_zero, List.set_cons_succ, List.map_cons, List.map_nil, List.replicate, List.cons_append, List.nil_append, List.length_cons, List.length_nil, dstart]
    have e : (wordW f).eq (.str (Str.ofString "three")) = !f := by cases f <;> decide +kernel
    rw [e]
    cases f
    · exact ⟨by decide +kernel, by decide +kernel, hn _ _ ⟨rfl, rfl⟩⟩
    · exact ⟨by decide +kernel, by decide +kernel, hn _ _ ⟨rfl, rfl⟩⟩
  obtain ⟨rfl, rfl⟩ := h
  refine dSeq_then (fun γ' M' => ∃ n : Int, γ' = [some (.ref p), some (.int 8), some (wordW f), some (.int (corW f)), some (.int n), none, none, none, none, none, none, none, none, none, none, none, none] ∧ (corW f : Int) ≤ n ∧ n ≤ 8 ∧ DiL M' p ∧ Ext M M' [p]) (fun nx hn => ?_) (fun γ3 M3 h => ?_)
  · simp only [dInsert, dVar, dC, dOp, dTest, dII, dIC, dFld, dFldS, dMake, dppNil, dppCons, dMerge, dDisp, dCatL, dExtend, dRg1, dLstRg, dChain, dEq, dAnd, dOr, dNot, dNext, dSeq, dDrop, dRet, dIfS, dNever, dFrzS, hName, hNil, hCons, hTup, hSub, dAsg, dNil, dCons, dTup, dLst, dLstM, dIx, dSet, dCall, dwipe, dYes, jSeq, jRng1, jRng2, dCB, dLen, dList, dListM, dTuple, dII2, dAbs, dInt, dBM0, dBM, dAppend, dPop, dPopAt, dAndV, dNotV, dNeg, dIn, dCat, dNoPart, dPart, dSl, dNewT, dIsi, dLc, dFor, dDc, dLenSetG, dLc2, dFrzE, dLcH, dKdIn, dKdIx, jZipM, if_true, if_false, ite_true, ite_false, Bool.false_eq_true, reduceIte, Bool.not_true, Bool.not_false, List.getElem?_cons_zero, List.getElem?_cons_succ, List.set_cons_zero, List.set_cons_succ, List.map_cons, List.map_nil, List.replicate, List.cons_append, List.nil_append, List.length_cons, List.length_nil, dstart]
    exact ⟨p, _, rfl, hp1, by omega, by omega, fun r M2 r0 r1 d2 a2 => hn _ _ ⟨_, rfl, by omega, by omega, d2, E1.trans a2.ext⟩⟩
  obtain ⟨n, rfl, cn, n8, hp3, E3⟩ := h
  clear E1 hp1
  refine dSeq_then (fun γ' M' => ∃ as : List Addr, γ' = [some (.ref p), some (.int 8), some (wordW f), some (.int (corW f)), some (.int n), some (.lst (as.map .ref)), none, none, none, none, none, none, none, none, none, none, none] ∧ DiL M' p ∧ Ext M3 M' [p] ∧ as.length = (prsW f).length ∧ as.Nodup ∧ (∀ (k : Nat) a q, as[k]? = some a → (prsW f)[k]? = some q → M' a = some (.lst ((wayU q []).map .int))) ∧ ∀ a ∈ as, M3 a = none) (fun nx hn => ?_) (fun γ4 M4 h => ?_)
  · simp only [dInsert, dVar, dC, dOp, dTest, dII, dIC, dFld, dFldS, dMake, dppNil, dppCons, dMerge, dDisp, dCatL, dExtend, dRg1, dLstRg, dChain, dEq, dAnd, dOr, dNot, dNext, dSeq, dDrop, dRet, dIfS, dNever, dFrzS, hName, hNil, hCons, hTup, hSub, dAsg, dNil, dCons, dTup, dLst, dLstM, dIx, dSet, dCall, dwipe, dYes, jSeq, jRng1, jRng2, dCB, dLen, dList, dListM, dTuple, dII2, dAbs, dInt, dBM0, dBM, dAppend, dPop, dPopAt, dAndV, dNotV, dNeg, dIn, dCat, dNoPart, dPart, dSl, dNewT, dIsi, dLc, dFor, dDc, dLenSetG, dLc2, dFrzE, dLcH, dKdIn, dKdIx, jZipM, if_true, if_false, ite_true, ite_false, Bool.false_eq_true, reduceIte, Bool.not_true, Bool.not_false, List.getElem?_cons_zero, List.getElem?_cons_succ, List.set_cons_zero, List.set_cons_succ, List.map_cons, List.map_nil, List.replicate, List.cons_append, List.nil_append, List.length_cons, List.length_nil, dstart]
    refine ⟨f, rfl, len_ok (by rw [List.length_map]; cases f <;> decide), ?_⟩
    refine ⟨fun i acc M' => ∃ as : List Addr, acc = as.map .ref ∧ as.length = i ∧ DiL M' p ∧ Ext M3 M' [p] ∧ as.Nodup ∧ (∀ (k : Nat) a q, as[k]? = some a → (prsW f)[k]? = some q → M' a = some (.lst ((wayU q []).map .int))) ∧ ∀ a ∈ as, M3 a = none, ⟨[], rfl, rfl, hp3, Ext.refl _ _, List.nodup_nil, (fun k a q h => by simp at h), (fun a h => by cases h)⟩, ?_, ?_⟩
    · rintro i e acc M' he ⟨as, rfl, al, dp, E4, nda, wy, fra⟩
      obtain ⟨w, hw, rfl⟩ := get_pr he
      simp only [dInsert, dVar, dC, dOp, dTest, dII, dIC, dFld, dFldS, dMake, dppNil, dppCons, dMerge, dDisp, dCatL, dExtend, dRg1, dLstRg, dChain, dEq, dAnd, dOr, dNot, dNext, dSeq, dDrop, dRet, dIfS, dNever, dFrzS, hName, hNil, hCons, hTup, hSub, dAsg, dNil, dCons, dTup, dLst, dLstM, dIx, dSet, dCall, dwipe, dYes, jSeq, jRng1, jRng2, dCB, dLen, dList, dListM, dTuple, dII2, dAbs, dInt, dBM0, dBM, dAppend, dPop, dPopAt, dAndV, dNotV, dNeg, dIn, dCat, dNoPart, dPart, dSl, dNewT, dIsi, dLc, dFor, dDc, dLenSetG, dLc2, dFrzE, dLcH, dKdIn, dKdIx, jZipM, if_true, if_false, ite_true, ite_false, Bool.false_eq_true, reduceIte, Bool.not_true, Bool.not_false, List.getElem?_cons_zero, List.getElem?_cons_succ, List.set_cons_zero, List.set_cons_succ, List.map_cons, List.map_nil, List.replicate, List.cons_append, List.nil_append, List.length_cons, List.length_nil, dstart]
      refine ⟨_, rfl, fun a ha => ⟨as ++ [a], by rw [List.map_append]; rfl, by rw [List.length_append, al]; rfl, dp.mset (dp.some ha), E4.mset (E4.fresh (by simpa using dp.some ha) ha), ?_, fun k b q hb hq => ?_, fun b hb => ?_⟩⟩
      · rw [List.nodup_append]
        refine ⟨nda, by simp, fun b hb c hc e => ?_⟩
        obtain ⟨k, hk⟩ := List.getElem?_of_mem hb
        obtain ⟨q, hq⟩ : ∃ q, (prsW f)[k]? = some q := ⟨_, List.getElem?_eq_getElem (by have := (List.getElem?_eq_some_iff.mp hk).1; have := (List.getElem?_eq_some_iff.mp hw).1; omega)⟩
        have := wy k b q hk hq
        rw [e, List.mem_singleton.mp hc, ha] at this
        cases this
      · rcases Nat.lt_or_ge k as.length with l | l
        · rw [List.getElem?_append_left l] at hb
          have := wy k b q hb hq
          rw [mset_ne (fun e => by rw [e, ha] at this; cases this)]
          exact this
        · have kl := (List.getElem?_eq_some_iff.mp hb).1
          rw [List.length_append, List.length_singleton] at kl
          have ke : k = as.length := by omega
          rw [ke, List.getElem?_append_right (Nat.le_refl _), Nat.sub_self] at hb
          have be : a = b := by simpa using hb
          rw [ke, al, hw] at hq
          rw [← be, mset_same, ← Option.some.inj hq]
          rfl
      · rcases List.mem_append.mp hb with hb | hb
        · exact fra b hb
        · rw [List.mem_singleton.mp hb]
          exact E4.fresh (by simpa using dp.some ha) ha
    · rintro acc M' ⟨as, rfl, al, dp, E4, nda, wy, fra⟩
      rw [List.length_map] at al
      exact hn _ _ ⟨as, rfl, dp, E4, al, nda, wy, fra⟩
  obtain ⟨as, rfl, hp4, E4, al, nda, wy, fra⟩ := h
  refine dSeq_then (fun γ' M' => ∃ h : Addr, γ' = [some (.ref p), some (.int 8), some (wordW f), some (.int (corW f)), some (.int n), some (.lst (as.map .ref)), some (.ref h), none, none, none, none, none, none, none, none, none, none] ∧ BuM M3 p M' f as h (List.replicate (prsW f).length []) []) (fun nx hn => ?_) (fun γ5 M5 h => ?_)
  · simp only [dInsert, dVar, dC, dOp, dTest, dII, dIC, dFld, dFldS, dMake, dppNil, dppCons, dMerge, dDisp, dCatL, dExtend, dRg1, dLstRg, dChain, dEq, dAnd, dOr, dNot, dNext, dSeq, dDrop, dRet, dIfS, dNever, dFrzS, hName, hNil, hCons, hTup, hSub, dAsg, dNil, dCons, dTup, dLst, dLstM, dIx, dSet, dCall, dwipe, dYes, jSeq, jRng1, jRng2, dCB, dLen, dList, dListM, dTuple, dII2, dAbs, dInt, dBM0, dBM, dAppend, dPop, dPopAt, dAndV, dNotV, dNeg, dIn, dCat, dNoPart, dPart, dSl, dNewT, dIsi, dLc, dFor, dDc, dLenSetG, dLc2, dFrzE, dLcH, dKdIn, dKdIx, jZipM, if_true, if_false, ite_true, ite_false, Bool.false_eq_true, reduceIte, Bool.not_true, Bool.not_false, List.getElem?_cons_zero, List.getElem?_cons_succ, List.set_cons_zero, List.set_cons_succ, List.map_cons, List.map_nil, List.replicate, List.cons_append, List.nil_append, List.length_cons, List.length_nil, dstart]
    refine ⟨len_ok (by omega), fun h hh => hn _ _ ⟨h, rfl, hp4.mset (hp4.some hh), E4.mset (E4.fresh (by simpa using hp4.some hh) hh), al, nda, fun k a q mid h1 h2 h3 => ?_, fra, fun z => ?_, mset_same, E4.fresh (by simpa using hp4.some hh) hh, hp4.some hh, fun z => ?_⟩⟩
    · have hm : mid = [] := by
        have := List.mem_of_getElem? h3
        exact (List.mem_replicate.mp this).2
      rw [hm]
      rw [mset_ne (fun e => by have := wy k a q h1 h2; rw [e, hh] at this; cases this)]
      exact wy k a q h1 h2
    · obtain ⟨_, _, _, _, _, z1, _⟩ := hp3.ex
      rw [fra p z] at z1
      cases z1
    · obtain ⟨k, hk⟩ := List.getElem?_of_mem z
      obtain ⟨q, hq⟩ : ∃ q, (prsW f)[k]? = some q := ⟨_, List.getElem?_eq_getElem (by rw [← al]; exact (List.getElem?_eq_some_iff.mp hk).1)⟩
      have := wy k h q hk hq
      rw [hh] at this
      cases this
  obtain ⟨h, rfl, W⟩ := h
  clear wy fra E4 hp4
  refine dSeq_then (fun γ' M' => ∃ (o7 o8 o9 : Option D) (ms : List (List Int)) (hg : List (Int × Int)), γ' = [some (.ref p), some (.int 8), some (wordW f), some (.int (corW f)), some (.int n), some (.lst (as.map .ref)), some (.ref h), o7, o8, o9, none, none, none, none, none, none, none] ∧ BarU f n ms hg ∧ BuM M3 p M' f as h ms hg) (fun nx hn => ?_) (fun γ6 M6 h => ?_)
  · simp only [dFor, jRng2, dCons, dNil, dC, dVar, hName, if_true, if_false, ite_true, ite_false, Bool.false_eq_true, reduceIte, Bool.not_true, Bool.not_false, List.getElem?_cons_zero, List.getElem?_cons_succ, List.set_cons_zero, List.set_cons_succ, List.map_cons, List.map_nil, List.replicate, List.cons_append, List.nil_append, List.length_cons, List.length_nil, dstart]
    refine ⟨by omega, dForI_of (fun i γ M' => ∃ (o7 o8 o9 : Option D) (ms : List (List Int)) (hg : List (Int × Int)), γ = [some (.ref p), some (.int 8), some (wordW f), some (.int (corW f)), some (.int n), some (.lst (as.map .ref)), some (.ref h), o7, o8, o9, none, none, none, none, none, none, none] ∧ BarU f (corW f + i) ms hg ∧ BuM M3 p M' f as h ms hg) ⟨none, none, none, _, _, rfl, BarU.new f, W⟩ ?_ ?_⟩
    · clear W
      rintro i e γ M' he ⟨o7, o8, o9, ms, hg, rfl, B, W⟩
      obtain ⟨hi, rfl⟩ := rgD_get he
      simp only [dInsert, dVar, dC, dOp, dTest, dII, dIC, dFld, dFldS, dMake, dppNil, dppCons, dMerge, dDisp, dCatL, dExtend, dRg1, dLstRg, dChain, dEq, dAnd, dOr, dNot, dNext, dSeq, dDrop, dRet, dIfS, dNever, dFrzS, hName, hNil, hCons, hTup, hSub, dAsg, dNil, dCons, dTup, dLst, dLstM, dIx, dSet, dCall, dwipe, dYes, jSeq, jRng1, jRng2, dCB, dLen, dList, dListM, dTuple, dII2, dAbs, dInt, dBM0, dBM, dAppend, dPop, dPopAt, dAndV, dNotV, dNeg, dIn, dCat, dNoPart, dPart, dSl, dNewT, dIsi, dLc, dFor, dDc, dLenSetG, dLc2, dFrzE, dLcH, dKdIn, dKdIx, jZipM, if_true, if_false, ite_true, ite_false, Bool.false_eq_true, reduceIte, Bool.not_true, Bool.not_false, List.getElem?_cons_zero, List.getElem?_cons_succ, List.set_cons_zero, List.set_cons_succ, List.map_cons, List.map_nil, List.replicate, List.cons_append, List.nil_append, List.length_cons, List.length_nil, dstart]
      have wl10 : (prsW f).length ≤ 10 := by cases f <;> decide
      refine ⟨as.length, by simp only [lenV, List.length_map], p, _, rfl, W.dice, by omega, by omega, fun r M2 r0 r1 d2 a2 => ⟨as.length, by simp only [lenV, List.length_map], ?_⟩⟩
      have W2 := W.to d2 a2
      dsimp only
      by_cases hr : r < as.length
      · rw [if_pos (decide_eq_true hr)]
        obtain ⟨a, ha⟩ : ∃ a, as[r.toNat]? = some a := ⟨_, List.getElem?_eq_getElem (by omega)⟩
        obtain ⟨w, hw⟩ : ∃ w, (prsW f)[r.toNat]? = some w := ⟨_, List.getElem?_eq_getElem (by omega)⟩
        obtain ⟨mid, hm⟩ : ∃ mid, ms[r.toNat]? = some mid := ⟨_, List.getElem?_eq_getElem (by have := B.wl; omega)⟩
        have wa := W2.wy _ _ _ _ ha hw hm
        have wal : (wayU w mid).length = mid.length + 2 := by unfold wayU; simp
        have ml : mid.length ≤ 8 := by
          have h1 := nodup_len (l := mid) (m := allOf n) (nd_flat B.nd hm) fun x hx => by
            have := B.rg x (List.mem_flatten.mpr ⟨mid, List.mem_of_getElem? hm, hx⟩)
            exact allOf_mem.mpr (by omega)
          rw [allOf_len] at h1
          omega
        refine ⟨.ref a, ixL_at (k := r.toNat) (by omega) (by rw [List.getElem?_map, ha]; rfl), by simp only [tyD, wa], mid.length + 2, by simp only [lenV, wa, List.length_map, wal], p, _, rfl, W2.dice, by omega, by omega, fun y M3' y0 y1 d3 a3 => ?_⟩
        have W3 := W2.to d3 a3
        have wa3 := W3.wy _ _ _ _ ha hw hm
        simp only [wa3]
        refine ⟨len_lt (by rw [List.length_map]; omega), by omega, by omega, _, _, _, _, hg, rfl, by rw [show (corW f : Int) + ((i + 1 : Nat) : Int) = corW f + i + 1 by omega]; exact B.ins (by omega) hm y.toNat, ?_⟩
        have e1 : List.take (1 + y).toNat ((wayU w mid).map D.int) ++ [D.int (corW f + i)] ++ List.drop (1 + y).toNat ((wayU w mid).map D.int) = (wayU w (mid.take y.toNat ++ ((corW f : Int) + (i : Int)) :: mid.drop y.toNat)).map D.int := by
          rw [show (1 + y).toNat = y.toNat + 1 by omega, ← List.map_take, ← List.map_drop]
          unfold wayU
          rw [List.take_succ_cons, List.drop_succ_cons, List.take_append_of_le_length (by omega), List.drop_append_of_le_length (by omega)]
          simp
        rw [e1]
        exact W3.ins (mid := mid) ha hw
      · rw [if_neg (by rw [decide_eq_true_eq]; exact hr)]
        refine ⟨by simp only [tyD, W2.hh], p, _, rfl, W2.dice, by omega, by omega, fun y M3' y0 y1 d3 a3 => ⟨len_ok (by omega), ?_⟩⟩
        have W3 := W2.to d3 a3
        simp only [W3.hh]
        refine ⟨len_lt (by rw [List.length_map]; have := B.hl; omega), _, _, _, ms, hg ++ [(y, (corW f : Int) + i)], rfl, by rw [show (corW f : Int) + ((i + 1 : Nat) : Int) = corW f + i + 1 by omega]; exact B.hang (by omega) y0 y1, W3.hang (y, (corW f : Int) + i)⟩
    · rintro γ M' ⟨o7, o8, o9, ms, hg, rfl, B, W⟩
      rw [rgD_len] at B
      exact hn _ _ ⟨o7, o8, o9, ms, hg, rfl, by rw [show n = corW f + ((n - corW f).toNat : Nat) by omega]; exact B, W⟩
  obtain ⟨o7, o8, o9, ms, hg, rfl, B, W2⟩ := h
  clear W
  refine dSeq_then (fun γ' M' => ∃ nm : List Int, γ' = [some (.ref p), some (.int 8), some (wordW f), some (.int (corW f)), some (.int n), some (.lst (as.map .ref)), some (.ref h), o7, o8, o9, some (tupI nm), none, none, none, none, none, none] ∧ nm.Perm (allOf n) ∧ BuM M3 p M' f as h ms hg) (fun nx hn => ?_) (fun γ7 M7 h => ?_)
  · simp only [dInsert, dVar, dC, dOp, dTest, dII, dIC, dFld, dFldS, dMake, dppNil, dppCons, dMerge, dDisp, dCatL, dExtend, dRg1, dLstRg, dChain, dEq, dAnd, dOr, dNot, dNext, dSeq, dDrop, dRet, dIfS, dNever, dFrzS, hName, hNil, hCons, hTup, hSub, dAsg, dNil, dCons, dTup, dLst, dLstM, dIx, dSet, dCall, dwipe, dYes, jSeq, jRng1, jRng2, dCB, dLen, dList, dListM, dTuple, dII2, dAbs, dInt, dBM0, dBM, dAppend, dPop, dPopAt, dAndV, dNotV, dNeg, dIn, dCat, dNoPart, dPart, dSl, dNewT, dIsi, dLc, dFor, dDc, dLenSetG, dLc2, dFrzE, dLcH, dKdIn, dKdIx, jZipM, if_true, if_false, ite_true, ite_false, Bool.false_eq_true, reduceIte, Bool.not_true, Bool.not_false, List.getElem?_cons_zero, List.getElem?_cons_succ, List.set_cons_zero, List.set_cons_succ, List.map_cons, List.map_nil, List.replicate, List.cons_append, List.nil_append, List.length_cons, List.length_nil, dstart]
    have al8 := allOf_len n
    refine ⟨⟨by omega, by omega⟩, p, _, _, rfl, rfl, W2.dice, by rw [rgL_all, List.length_map]; omega, fun ms' M2' d2 E2 pm => ?_⟩
    rw [rgL_all] at pm
    obtain ⟨nm, rfl, P⟩ := perm_mapD pm
    exact hn _ _ ⟨nm, rfl, P, W2.ext2 d2 E2⟩
  obtain ⟨nm, rfl, P, W⟩ := h
  clear W2
  have hgl : hg.length ≤ 100000 := by
    have := B.hl
    omega
  refine dSeq_then (fun γ' M' => ∃ d, γ' = [some (.ref p), some (.int 8), some (wordW f), some (.int (corW f)), some (.int n), some (.lst (as.map .ref)), some (.ref h), o7, o8, o9, some (tupI nm), some (.ref d), none, none, none, none, none] ∧ PSt M7 p n 64 M' d []) (fun nx hn => ?_) (fun γ8 M8 h => ?_)
  · simp only [dInsert, dVar, dC, dOp, dTest, dII, dIC, dFld, dFldS, dMake, dppNil, dppCons, dMerge, dDisp, dCatL, dExtend, dRg1, dLstRg, dChain, dEq, dAnd, dOr, dNot, dNext, dSeq, dDrop, dRet, dIfS, dNever, dFrzS, hName, hNil, hCons, hTup, hSub, dAsg, dNil, dCons, dTup, dLst, dLstM, dIx, dSet, dCall, dwipe, dYes, jSeq, jRng1, jRng2, dCB, dLen, dList, dListM, dTuple, dII2, dAbs, dInt, dBM0, dBM, dAppend, dPop, dPopAt, dAndV, dNotV, dNeg, dIn, dCat, dNoPart, dPart, dSl, dNewT, dIsi, dLc, dFor, dDc, dLenSetG, dLc2, dFrzE, dLcH, dKdIn, dKdIx, jZipM, if_true, if_false, ite_true, ite_false, Bool.false_eq_true, reduceIte, Bool.not_true, Bool.not_false, List.getElem?_cons_zero, List.getElem?_cons_succ, List.set_cons_zero, List.set_cons_succ, List.map_cons, List.map_nil, List.replicate, List.cons_append, List.nil_append, List.length_cons, List.length_nil, dstart]
    exact fun d hd => hn _ _ ⟨d, rfl, W.dice.mset (W.dice.some hd), (Ext.refl M7 [p]).mset hd, mset_same, hd, W.dice.some hd, List.nodup_nil, (fun _ h => by cases h), Nat.zero_le _⟩
  obtain ⟨d, rfl, Z⟩ := h
  refine dSeq_then (fun γ' M' => ∃ (o8 o9 : Option D) (ks : List (Int × Int)), γ' = [some (.ref p), some (.int 8), some (wordW f), some (.int (corW f)), some (.int n), some (.lst (as.map .ref)), some (.ref h), o7, o8, o9, some (tupI nm), some (.ref d), none, none, none, none, none] ∧ PSt M7 p n 64 M' d ks ∧ ∀ us ∈ waysU f ms ++ hg.map (fun q => [q.1, q.2]), ∀ (i : Nat) x y, us[i]? = some x → us[i + 1]? = some y → nrm (renN nm x) (renN nm y) ∈ ks) (fun nx hn => ?_) (fun γ9 M9 h => ?_)
  · simp only [dInsert, dVar, dC, dOp, dTest, dII, dIC, dFld, dFldS, dMake, dppNil, dppCons, dMerge, dDisp, dCatL, dExtend, dRg1, dLstRg, dChain, dEq, dAnd, dOr, dNot, dNext, dSeq, dDrop, dRet, dIfS, dNever, dFrzS, hName, hNil, hCons, hTup, hSub, dAsg, dNil, dCons, dTup, dLst, dLstM, dIx, dSet, dCall, dwipe, dYes, jSeq, jRng1, jRng2, dCB, dLen, dList, dListM, dTuple, dII2, dAbs, dInt, dBM0, dBM, dAppend, dPop, dPopAt, dAndV, dNotV, dNeg, dIn, dCat, dNoPart, dPart, dSl, dNewT, dIsi, dLc, dFor, dDc, dLenSetG, dLc2, dFrzE, dLcH, dKdIn, dKdIx, jZipM, if_true, if_false, ite_true, ite_false, Bool.false_eq_true, reduceIte, Bool.not_true, Bool.not_false, List.getElem?_cons_zero, List.getElem?_cons_succ, List.set_cons_zero, List.set_cons_succ, List.map_cons, List.map_nil, List.replicate, List.cons_append, List.nil_append, List.length_cons, List.length_nil, dstart]
    have wl10 : (prsW f).length ≤ 10 := by cases f <;> decide
    refine ⟨_, hg.map hgD, rfl, by simp only [lstOf, (Z.ext h _ (by simpa using W.hn) W.hh)], by simp only [List.length_map]; exact len_ok (by have := hgl; omega), dForI_of (fun i γ M' => ∃ (o8 o9 : Option D) (ks : List (Int × Int)), γ = [some (.ref p), some (.int 8), some (wordW f), some (.int (corW f)), some (.int n), some (.lst (as.map .ref)), some (.ref h), o7, o8, o9, some (tupI nm), some (.ref d), none, none, none, none, none] ∧ PSt M7 p n 64 M' d ks ∧ ∀ (j : Nat) us, j < i → (waysU f ms ++ hg.map fun q => [q.1, q.2])[j]? = some us → ∀ (t : Nat) x y, us[t]? = some x → us[t + 1]? = some y → nrm (renN nm x) (renN nm y) ∈ ks) ⟨_, _, [], rfl, Z, fun j us h => by omega⟩ ?_ ?_⟩
    · clear Z
      rintro i e γ M' he ⟨o8, o9, ks, rfl, Z, ti⟩
      obtain ⟨us, hus, Ie, ea⟩ := W.row B.wl he
      have Ie := Ie.keep Z.ext fun a ha => fun z => W.np (by rw [← List.mem_singleton.mp z]; exact ea a ha)
      obtain ⟨und, urg⟩ := B.rows cn us (List.mem_of_getElem? hus)
      have ul : us.length ≤ 8 := by
        have h1 := nodup_len (l := us) (m := allOf n) und fun x hx => allOf_mem.mpr (urg x hx)
        rw [allOf_len] at h1
        omega
      simp only [dInsert, dVar, dC, dOp, dTest, dII, dIC, dFld, dFldS, dMake, dppNil, dppCons, dMerge, dDisp, dCatL, dExtend, dRg1, dLstRg, dChain, dEq, dAnd, dOr, dNot, dNext, dSeq, dDrop, dRet, dIfS, dNever, dFrzS, hName, hNil, hCons, hTup, hSub, dAsg, dNil, dCons, dTup, dLst, dLstM, dIx, dSet, dCall, dwipe, dYes, jSeq, jRng1, jRng2, dCB, dLen, dList, dListM, dTuple, dII2, dAbs, dInt, dBM0, dBM, dAppend, dPop, dPopAt, dAndV, dNotV, dNeg, dIn, dCat, dNoPart, dPart, dSl, dNewT, dIsi, dLc, dFor, dDc, dLenSetG, dLc2, dFrzE, dLcH, dKdIn, dKdIx, jZipM, if_true, if_false, ite_true, ite_false, Bool.false_eq_true, reduceIte, Bool.not_true, Bool.not_false, List.getElem?_cons_zero, List.getElem?_cons_succ, List.set_cons_zero, List.set_cons_succ, List.map_cons, List.map_nil, List.replicate, List.cons_append, List.nil_append, List.length_cons, List.length_nil, dstart]
      refine ⟨us.length, Ie.len, by omega, dForI_of (fun k γ M' => ∃ (o8 : Option D) (ks : List (Int × Int)), γ = [some (.ref p), some (.int 8), some (wordW f), some (.int (corW f)), some (.int n), some (.lst (as.map .ref)), some (.ref h), o7, o8, some e, some (tupI nm), some (.ref d), none, none, none, none, none] ∧ PSt M7 p n 64 M' d ks ∧ (∀ (j : Nat) us, j < i → (waysU f ms ++ hg.map fun q => [q.1, q.2])[j]? = some us → ∀ (t : Nat) x y, us[t]? = some x → us[t + 1]? = some y → nrm (renN nm x) (renN nm y) ∈ ks) ∧ ∀ (t : Nat) x y, t < k → us[t]? = some x → us[t + 1]? = some y → nrm (renN nm x) (renN nm y) ∈ ks) ⟨_, ks, rfl, Z, ti, fun t x y h => by omega⟩ ?_ ?_⟩
      · have ea' : ∀ a, e = .ref a → a ∉ [p] := fun a ha => fun z => W.np (by rw [← List.mem_singleton.mp z]; exact ea a ha)
        obtain ⟨us', hus', Ie0, _⟩ := W.row B.wl he
        have ue := Option.some.inj (hus'.symm.trans hus)
        subst ue
        clear Z ti Ie
        rintro k e' γ M' he' ⟨o8, ks, rfl, Z, ti, tk⟩
        obtain ⟨hk, rfl⟩ := rgD_get he'
        have Ie := Ie0.keep Z.ext ea'
        obtain ⟨x, hx⟩ : ∃ x, us'[k]? = some x := ⟨_, List.getElem?_eq_getElem (by omega)⟩
        obtain ⟨y, hy⟩ : ∃ y, us'[k + 1]? = some y := ⟨_, List.getElem?_eq_getElem (by omega)⟩
        have hxr := urg x (List.mem_of_getElem? hx)
        have hyr := urg y (List.mem_of_getElem? hy)
        have rx := renN_ok P hxr.1 hxr.2
        have ry := renN_ok P hyr.1 hyr.2
        have xy : renN nm x ≠ renN nm y := fun e => by
          have e1 := renN_inj P hxr.1 hxr.2 hyr.1 hyr.2 e
          have e2 : us'[k]? = us'[k + 1]? := by rw [hx, hy, e1]
          have := (List.getElem?_inj (List.getElem?_eq_some_iff.mp hx).1 und).mp e2
          omega
        simp only [dInsert, dVar, dC, dOp, dTest, dII, dIC, dFld, dFldS, dMake, dppNil, dppCons, dMerge, dDisp, dCatL, dExtend, dRg1, dLstRg, dChain, dEq, dAnd, dOr, dNot, dNext, dSeq, dDrop, dRet, dIfS, dNever, dFrzS, hName, hNil, hCons, hTup, hSub, dAsg, dNil, dCons, dTup, dLst, dLstM, dIx, dSet, dCall, dwipe, dYes, jSeq, jRng1, jRng2, dCB, dLen, dList, dListM, dTuple, dII2, dAbs, dInt, dBM0, dBM, dAppend, dPop, dPopAt, dAndV, dNotV, dNeg, dIn, dCat, dNoPart, dPart, dSl, dNewT, dIsi, dLc, dFor, dDc, dLenSetG, dLc2, dFrzE, dLcH, dKdIn, dKdIx, jZipM, if_true, if_false, ite_true, ite_false, Bool.false_eq_true, reduceIte, Bool.not_true, Bool.not_false, List.getElem?_cons_zero, List.getElem?_cons_succ, List.set_cons_zero, List.set_cons_succ, List.map_cons, List.map_nil, List.replicate, List.cons_append, List.nil_append, List.length_cons, List.length_nil, dstart]
        obtain ⟨M2, ks2, e2, Z2, sub, mem⟩ := Z.put8 n8 (nrm_ok xy rx.2 ry.2)
        refine ⟨_, Ie.ix (k := k) (by omega) hx, _, atI_at (k := x.toNat) (by omega) (by rw [List.getElem?_map, rx.1]; rfl), _, Ie.ix (k := k + 1) (by omega) hy, _, atI_at (k := y.toNat) (by omega) (by rw [List.getElem?_map, ry.1]; rfl), _, _, rfl, M2, e2, _, ks2, rfl, Z2, fun j us hj hu t x y h1 h2 => sub _ (ti j us hj hu t x y h1 h2), fun t x' y' ht h1 h2 => ?_⟩
        by_cases et : t = k
        · subst et
          rw [← Option.some.inj (hx.symm.trans h1), ← Option.some.inj (hy.symm.trans h2)]
          exact mem
        · exact sub _ (tk t x' y' (by omega) h1 h2)
      · rintro γ M' ⟨o8, ks, rfl, Z, ti, tk⟩
        rw [rgD_len] at tk
        refine ⟨_, _, ks, rfl, Z, fun j vs hj hu t x y h1 h2 => ?_⟩
        by_cases ej : j = i
        · subst ej
          have ve := Option.some.inj (hus.symm.trans hu)
          subst ve
          exact tk t x y (by have := (List.getElem?_eq_some_iff.mp h2).1; omega) h1 h2
        · exact ti j vs (by omega) hu t x y h1 h2
    · rintro γ M' ⟨o8, o9, ks, rfl, Z, ti⟩
      refine hn _ _ ⟨o8, o9, ks, rfl, Z, fun us hus => ?_⟩
      obtain ⟨j, hj⟩ := List.getElem?_of_mem hus
      have jl := (List.getElem?_eq_some_iff.mp hj).1
      refine ti j us ?_ hj
      rw [List.length_append, List.length_map, waysU_len B.wl] at jl
      rw [List.length_append, List.length_map, List.length_map, W.al]
      exact jl
  obtain ⟨o8, o9, ks, rfl, Z2, ti⟩ := h
  clear Z
  refine dSeq_then (fun γ' M' => ∃ (o12 o13 o14 : Option D) (ks : List (Int × Int)), γ' = [some (.ref p), some (.int 8), some (wordW f), some (.int (corW f)), some (.int n), some (.lst (as.map .ref)), some (.ref h), o7, o8, o9, some (tupI nm), some (.ref d), o12, o13, o14, none, none] ∧ PSt M7 p n 64 M' d ks ∧ ∀ us ∈ waysU f ms ++ hg.map (fun q => [q.1, q.2]), ∀ (i : Nat) x y, us[i]? = some x → us[i + 1]? = some y → nrm (renN nm x) (renN nm y) ∈ ks) (fun nx hn => ?_) (fun γ10 M10 h => ?_)
  · simp only [dFor, jRng1, dCons, dNil, dC, dVar, dOp, dII, dCall, hName, if_true, if_false, ite_true, ite_false, Bool.false_eq_true, reduceIte, Bool.not_true, Bool.not_false, List.getElem?_cons_zero, List.getElem?_cons_succ, List.set_cons_zero, List.set_cons_succ, List.map_cons, List.map_nil, List.replicate, List.cons_append, List.nil_append, List.length_cons, List.length_nil, dstart]
    refine ⟨p, 6, rfl, Z2.dice, by decide, by decide, fun t M2 t0 t1 d2 a2 => ⟨by omega, dForI_of (fun i γ M' => ∃ (o12 o13 o14 : Option D) (ks : List (Int × Int)), γ = [some (.ref p), some (.int 8), some (wordW f), some (.int (corW f)), some (.int n), some (.lst (as.map .ref)), some (.ref h), o7, o8, o9, some (tupI nm), some (.ref d), o12, o13, o14, none, none] ∧ PSt M7 p n 64 M' d ks ∧ ∀ us ∈ waysU f ms ++ hg.map (fun q => [q.1, q.2]), ∀ (i : Nat) x y, us[i]? = some x → us[i + 1]? = some y → nrm (renN nm x) (renN nm y) ∈ ks) ⟨none, none, none, ks, rfl, Z2.to d2 a2, ti⟩ ?_ ?_⟩⟩
    · clear Z2 ti
      rintro i e γ M' he ⟨o12, o13, o14, ks, rfl, Z, ti⟩
      obtain ⟨hi, rfl⟩ := rgD_get he
      simp only [dInsert, dVar, dC, dOp, dTest, dII, dIC, dFld, dFldS, dMake, dppNil, dppCons, dMerge, dDisp, dCatL, dExtend, dRg1, dLstRg, dChain, dEq, dAnd, dOr, dNot, dNext, dSeq, dDrop, dRet, dIfS, dNever, dFrzS, hName, hNil, hCons, hTup, hSub, dAsg, dNil, dCons, dTup, dLst, dLstM, dIx, dSet, dCall, dwipe, dYes, jSeq, jRng1, jRng2, dCB, dLen, dList, dListM, dTuple, dII2, dAbs, dInt, dBM0, dBM, dAppend, dPop, dPopAt, dAndV, dNotV, dNeg, dIn, dCat, dNoPart, dPart, dSl, dNewT, dIsi, dLc, dFor, dDc, dLenSetG, dLc2, dFrzE, dLcH, dKdIn, dKdIx, jZipM, if_true, if_false, ite_true, ite_false, Bool.false_eq_true, reduceIte, Bool.not_true, Bool.not_false, List.getElem?_cons_zero, List.getElem?_cons_succ, List.set_cons_zero, List.set_cons_succ, List.map_cons, List.map_nil, List.replicate, List.cons_append, List.nil_append, List.length_cons, List.length_nil, dstart]
      refine ⟨p, n, rfl, Z.dice, by omega, by omega, fun x M2 x0 x1 d2 a2 => ?_⟩
      have Z2 := Z.to d2 a2
      refine ⟨p, _, rfl, Z2.dice, by omega, by omega, fun y M3 y0 y1 d3 a3 => ?_⟩
      have Z3 := Z2.to d3 a3
      dsimp only
      have wr := wrap_ne (n := n) (x := x) (y := y) x0 x1 y0 y1
      obtain ⟨M4, ks4, e4, Z4, sub, _⟩ := Z3.put8 n8 (nrm_ok wr.1 ⟨x0, x1⟩ wr.2)
      exact ⟨by omega, _, _, rfl, M4, e4, _, _, _, ks4, rfl, Z4, fun us hus i x y h1 h2 => sub _ (ti us hus i x y h1 h2)⟩
    · rintro γ M' ⟨o12, o13, o14, ks, rfl, Z, ti⟩
      exact hn _ _ ⟨o12, o13, o14, ks, rfl, Z, ti⟩
  obtain ⟨o12, o13, o14, ks2, rfl, Z, ti2⟩ := h
  clear Z2 ti
  refine dSeq_then (fun γ' M' => ∃ (o9 : Option D), γ' = [some (.ref p), some (.int 8), some (wordW f), some (.int (corW f)), some (.int n), some (.lst (as.map .ref)), some (.ref h), o7, o8, o9, some (tupI nm), some (.ref d), o12, o13, o14, some (.tup (((waysU f ms).map (·.map (renN nm))).map tupI)), none] ∧ M' = M10) (fun nx hn => ?_) (fun γ11 M11 h => ?_)
  · simp only [dInsert, dVar, dC, dOp, dTest, dII, dIC, dFld, dFldS, dMake, dppNil, dppCons, dMerge, dDisp, dCatL, dExtend, dRg1, dLstRg, dChain, dEq, dAnd, dOr, dNot, dNext, dSeq, dDrop, dRet, dIfS, dNever, dFrzS, hName, hNil, hCons, hTup, hSub, dAsg, dNil, dCons, dTup, dLst, dLstM, dIx, dSet, dCall, dwipe, dYes, jSeq, jRng1, jRng2, dCB, dLen, dList, dListM, dTuple, dII2, dAbs, dInt, dBM0, dBM, dAppend, dPop, dPopAt, dAndV, dNotV, dNeg, dIn, dCat, dNoPart, dPart, dSl, dNewT, dIsi, dLc, dFor, dDc, dLenSetG, dLc2, dFrzE, dLcH, dKdIn, dKdIx, jZipM, if_true, if_false, ite_true, ite_false, Bool.false_eq_true, reduceIte, Bool.not_true, Bool.not_false, List.getElem?_cons_zero, List.getElem?_cons_succ, List.set_cons_zero, List.set_cons_succ, List.map_cons, List.map_nil, List.replicate, List.cons_append, List.nil_append, List.length_cons, List.length_nil, dstart]
    have wl10 : (prsW f).length ≤ 10 := by cases f <;> decide
    have wlE := waysU_len B.wl
    refine ⟨len_ok (by rw [List.length_map]; omega), fun i acc M' => acc = (((waysU f ms).map (·.map (renN nm))).map tupI).take i ∧ M' = M10, ⟨rfl, rfl⟩, ?_, ?_⟩
    · rintro i e acc M' he ⟨rfl, rfl⟩
      have il := (List.getElem?_eq_some_iff.mp he).1
      rw [List.length_map] at il
      rw [List.getElem?_map, Option.map_eq_some_iff] at he
      obtain ⟨a, ha, rfl⟩ := he
      obtain ⟨w, hw⟩ : ∃ w, (prsW f)[i]? = some w := ⟨_, List.getElem?_eq_getElem (by omega)⟩
      obtain ⟨mid, hm⟩ : ∃ mid, ms[i]? = some mid := ⟨_, List.getElem?_eq_getElem (by have := B.wl; omega)⟩
      have hu := at_waysU hw hm
      have wa := Z.ext a _ (fun z => W.np (by rw [← List.mem_singleton.mp z]; exact List.mem_of_getElem? ha)) (W.wy i a w mid ha hw hm)
      obtain ⟨und, urg⟩ := B.rows cn _ (List.mem_append_left _ (List.mem_of_getElem? hu))
      have ul := nodup_len (l := wayU w mid) (m := allOf n) und fun x hx => allOf_mem.mpr (urg x hx)
      rw [allOf_len] at ul
      have nml : nm.length = n.toNat := by rw [P.length_eq, allOf_len]
      simp only [dInsert, dVar, dC, dOp, dTest, dII, dIC, dFld, dFldS, dMake, dppNil, dppCons, dMerge, dDisp, dCatL, dExtend, dRg1, dLstRg, dChain, dEq, dAnd, dOr, dNot, dNext, dSeq, dDrop, dRet, dIfS, dNever, dFrzS, hName, hNil, hCons, hTup, hSub, dAsg, dNil, dCons, dTup, dLst, dLstM, dIx, dSet, dCall, dwipe, dYes, jSeq, jRng1, jRng2, dCB, dLen, dList, dListM, dTuple, dII2, dAbs, dInt, dBM0, dBM, dAppend, dPop, dPopAt, dAndV, dNotV, dNeg, dIn, dCat, dNoPart, dPart, dSl, dNewT, dIsi, dLc, dFor, dDc, dLenSetG, dLc2, dFrzE, dLcH, dKdIn, dKdIx, jZipM, if_true, if_false, ite_true, ite_false, Bool.false_eq_true, reduceIte, Bool.not_true, Bool.not_false, List.getElem?_cons_zero, List.getElem?_cons_succ, List.set_cons_zero, List.set_cons_succ, List.map_cons, List.map_nil, List.replicate, List.cons_append, List.nil_append, List.length_cons, List.length_nil, dstart]
      refine ⟨nm, a, wayU w mid, rfl, wa, fun u hu => by have := urg u hu; omega, by omega, ?_⟩
      refine ⟨?_, rfl⟩
      rw [take_succ_of (p := tupI ((wayU w mid).map (renN nm))) (by rw [List.getElem?_map, List.getElem?_map, hu]; rfl)]
      rfl
    · rintro acc M' ⟨rfl, rfl⟩
      rw [List.take_of_length_le (by simp only [List.length_map]; omega)]
      exact hn _ _ ⟨o9, rfl, rfl⟩
  obtain ⟨o9', rfl, rfl⟩ := h
  simp only [dInsert, dVar, dC, dOp, dTest, dII, dIC, dFld, dFldS, dMake, dppNil, dppCons, dMerge, dDisp, dCatL, dExtend, dRg1, dLstRg, dChain, dEq, dAnd, dOr, dNot, dNext, dSeq, dDrop, dRet, dIfS, dNever, dFrzS, hName, hNil, hCons, hTup, hSub, dAsg, dNil, dCons, dTup, dLst, dLstM, dIx, dSet, dCall, dwipe, dYes, jSeq, jRng1, jRng2, dCB, dLen, dList, dListM, dTuple, dII2, dAbs, dInt, dBM0, dBM, dAppend, dPop, dPopAt, dAndV, dNotV, dNeg, dIn, dCat, dNoPart, dPart, dSl, dNewT, dIsi, dLc, dFor, dDc, dLenSetG, dLc2, dFrzE, dLcH, dKdIn, dKdIx, jZipM, if_true, if_false, ite_true, ite_false, Bool.false_eq_true, reduceIte, Bool.not_true, Bool.not_false, List.getElem?_cons_zero, List.getElem?_cons_succ, List.set_cons_zero, List.set_cons_succ, List.map_cons, List.map_nil, List.replicate, List.cons_append, List.nil_append, List.length_cons, List.length_nil, dstart]
  refine ⟨_, by simp only [itemsV, Z.at_]; rfl, ks2, .inl (by rw [items_kvP]), fun qs hq hs => ?_⟩
  have PO : PrsOk n qs := ⟨fun r hr => Z.ok r (hq.mem_iff.mp hr), srtd_lt hs (hq.nodup_iff.mpr Z.nd)⟩
  obtain ⟨BP, BO, SO⟩ := bar_made B cn n8 P PO fun us hus i x y h1 h2 => hq.mem_iff.mpr (ti2 us hus i x y h1 h2)
  have nml : nm.length = n.toNat := by rw [P.length_eq, allOf_len]
  have ce : cutD (nm.map D.int) none (some ((corW f : Nat) : Int)) = (nm.take (corW f)).map .int := by
    rw [cutD_takeB (by rw [List.length_map]; omega), List.map_take]
  simp only [tupI, ce]
  have q2 := q n qs f _ _ _ BO n8 BP SO Z.dice ((E3.trans W.ext).trans Z.ext)
  unfold barD tupI at q2
  exact ⟨by decide, by decide, fin_self q2⟩
theorem sc__law_dice : FnScope ["_law_script", "_law_cell"] ["_law_script"] (defScope s__law_dice) := ⟨rfl, rfl, rfl, by decide +kernel, rfl, by decide +kernel, by decide +kernel⟩
def sp__law_dice : DSp := fun ds M Q _ => ∃ ns : List Int, ds = [.ls (ns.map .int)] ∧ ns.length ≤ 63 ∧ ∀ p M2, M p = none → DiL M2 p → Agree M M2 [p] → Q (.ref p) M2
theorem c__law_dice (F : DFun K mg "_law_dice" s__law_dice ["_law_script"]) (B : Bn mg) (G : Gs mg)  : DCal P w K mg base CX0 1 "_law_dice" sp__law_dice := by
  refine dok F sc__law_dice (fun ds M Q E h => (by obtain ⟨_, h⟩ := h; first | (obtain ⟨e, _⟩ := h; subst e; rfl) | (obtain ⟨_, e, _⟩ := h; subst e; rfl) | (obtain ⟨_, _, e, _⟩ := h; subst e; rfl) | (obtain ⟨_, _, _, e, _⟩ := h; subst e; rfl) | (obtain ⟨_, _, _, _, e, _⟩ := h; subst e; rfl) | (obtain ⟨_, _, _, _, _, e, _⟩ := h; subst e; rfl) | (obtain ⟨_, _, _, _, _, _, e, _⟩ := h; subst e; rfl) | (obtain ⟨_, _, _, _, _, _, _, e, _⟩ := h; subst e; rfl) | (obtain ⟨_, _, _, _, _, _, _, _, e, _⟩ := h; subst e; rfl) | (obtain ⟨_, _, _, _, _, _, _, _, _, e, _⟩ := h; subst e; rfl) | (obtain ⟨_, _, _, _, _, _, _, _, _, _, e, _⟩ := h; subst e; rfl) | (obtain ⟨_, _, _, _, _, _, _, _, _, _, _, e, _⟩ := h; subst e; rfl) | (obtain ⟨_, _, _, _, _, _, _, _, _, _, _, _, e, _⟩ := h; subst e; rfl) | (obtain ⟨_, _, _, _, _, _, _, _, _, _, _, _, _, e, _⟩ := h; subst e; rfl) | (obtain ⟨_, _, _, _, _, _, _, _, _, _, _, _, _, _, e, _⟩ := h; subst e; rfl) | (obtain ⟨_, _, _, _, _, _, _, _, _, _, _, _, _, _, _, e, _⟩ := h; subst e; rfl) | (obtain ⟨_, _, _, _, _, _, _, _, _, _, _, _, _, _, _, _, e, _⟩ := h; subst e; rfl) | (obtain ⟨_, _, _, _, _, _, _, _, _, _, _, _, _, _, _, _, _, e, _⟩ := h; subst e; rfl) | (obtain ⟨_, _, _, _, _, _, _, _, _, _, _, _, _, _, _, _, _, _, e, _⟩ := h; subst e; rfl) | (obtain ⟨_, _, _, _, _, _, _, _, _, _, _, _, _, _, _, _, _, _, _, e, _⟩ := h; subst e; rfl) | (obtain ⟨_, _, _, _, _, _, _, _, _, _, _, _, _, _, _, _, _, _, _, _, e, _⟩ := h; subst e; rfl) | (obtain ⟨_, _, _, _, _, _, _, _, _, _, _, _, _, _, _, _, _, _, _, _, _, e, _⟩ := h; subst e; rfl) | (obtain ⟨_, _, _, _, _, _, _, _, _, _, _, _, _, _, _, _, _, _, _, _, _, _, e, _⟩ := h; subst e; rfl) | (obtain ⟨_, _, _, _, _, _, _, _, _, _, _, _, _, _, _, _, _, _, _, _, _, _, _, e, _⟩ := h; subst e; rfl) | (obtain ⟨_, _, _, _, _, _, _, _, _, _, _, _, _, _, _, _, _, _, _, _, _, _, _, _, e, _⟩ := h; subst e; rfl) | (obtain ⟨_, _, _, _, _, _, _, _, _, _, _, _, _, _, _, _, _, _, _, _, _, _, _, _, _, e, _⟩ := h; subst e; rfl))) (fun f cdv A outer s H E F0 hr => ?_)
  have nd := (sc__law_dice).nd
  refine ⟨_, _, (db_one (ds_ret (de_lstM (da_cons (dx_lc (own := [("_law_cell", 1)]) rfl nd (di_seq (de_slice (de_var 0) do_none (do_some de_int))) (blkOk_by (N := ["_law_script", "_law_cell"]) (sc := defScope s__law_dice) (by decide +kernel)) (fun _ _ _ _ _ => ⟨_, (dg_name 1 nd), (gw_name (by decide))⟩) (fun _ _ _ _ _ => ⟨_, dts_nil⟩) (fun _ _ _ _ _ => ⟨_, (de_blt call_abs lc_abs B.abs (da_cons (de_bty call_int1 lc_int B.int (da_cons (de_var 1) da_nil)) da_nil))⟩)) (da_cons de_int (da_cons de_int (da_cons de_int (da_cons de_int da_nil)))))))), ?_⟩
  rintro ds M Q E ⟨ns, rfl, hl, q⟩
  simp only [dInsert, dVar, dC, dOp, dTest, dII, dIC, dFld, dFldS, dMake, dppNil, dppCons, dMerge, dDisp, dCatL, dExtend, dRg1, dLstRg, dChain, dEq, dAnd, dOr, dNot, dNext, dSeq, dDrop, dRet, dIfS, dNever, dFrzS, hName, hNil, hCons, hTup, hSub, dAsg, dNil, dCons, dTup, dLst, dLstM, dIx, dSet, dCall, dwipe, dYes, jSeq, jRng1, jRng2, dCB, dLen, dList, dListM, dTuple, dII2, dAbs, dInt, dBM0, dBM, dAppend, dPop, dPopAt, dAndV, dNotV, dNeg, dIn, dCat, dNoPart, dPart, dSl, dNewT, dIsi, dLc, dFor, dDc, dLenSetG, dLc2, dFrzE, dLcH, dKdIn, dKdIx, jZipM, if_true, if_false, ite_true, ite_false, Bool.false_eq_true, reduceIte, Bool.not_true, Bool.not_false, List.getElem?_cons_zero, List.getElem?_cons_succ, List.set_cons_zero, List.set_cons_succ, List.map_cons, List.map_nil, List.replicate, List.cons_append, List.nil_append, List.length_cons, List.length_nil, dstart]
  have e : cutD (ns.map D.int) none (some 63) = ns.map D.int := by
    have h1 : HT.sIx (ns.map D.int).length 0 none = 0 := rfl
    have h2 : (ns.map D.int).length ≤ HT.sIx (ns.map D.int).length (ns.map D.int).length (some 63) := by
      rw [List.length_map]
      show ns.length ≤ min 63 ns.length
      omega
    unfold cutD
    rw [h1, List.drop_zero, List.take_of_length_le (by omega)]
  rw [e]
  refine ⟨by rw [List.length_map]; exact len_ok (by omega), fun i acc M' => M' = M ∧ ∃ ms : List Int, acc = ms.map .int, ⟨rfl, [], rfl⟩, ?_, ?_⟩
  · rintro i d acc M' hd ⟨rfl, ms, rfl⟩
    obtain ⟨x, hx, rfl⟩ := get_int hd
    simp only [dInsert, dVar, dC, dOp, dTest, dII, dIC, dFld, dFldS, dMake, dppNil, dppCons, dMerge, dDisp, dCatL, dExtend, dRg1, dLstRg, dChain, dEq, dAnd, dOr, dNot, dNext, dSeq, dDrop, dRet, dIfS, dNever, dFrzS, hName, hNil, hCons, hTup, hSub, dAsg, dNil, dCons, dTup, dLst, dLstM, dIx, dSet, dCall, dwipe, dYes, jSeq, jRng1, jRng2, dCB, dLen, dList, dListM, dTuple, dII2, dAbs, dInt, dBM0, dBM, dAppend, dPop, dPopAt, dAndV, dNotV, dNeg, dIn, dCat, dNoPart, dPart, dSl, dNewT, dIsi, dLc, dFor, dDc, dLenSetG, dLc2, dFrzE, dLcH, dKdIn, dKdIx, jZipM, if_true, if_false, ite_true, ite_false, Bool.false_eq_true, reduceIte, Bool.not_true, Bool.not_false, List.getElem?_cons_zero, List.getElem?_cons_succ, List.set_cons_zero, List.set_cons_succ, List.map_cons, List.map_nil, List.replicate, List.cons_append, List.nil_append, List.length_cons, List.length_nil, dstart]
    exact ⟨trivial, ms ++ [_], by rw [List.map_append]; rfl⟩
  · rintro acc M' ⟨rfl, ms, rfl⟩
    refine ⟨by decide, fun p hp => fin_self (q p _ hp ⟨ms, 0, 0, 1, 0, mset_same, by decide, by decide⟩ (Agree.mset (by simp)))⟩
theorem sc__law_flag : FnScope ["_law_told", "_law_due"] ["_law_told", "_law_due"] (defScope s__law_flag) := ⟨rfl, rfl, rfl, by decide +kernel, rfl, by decide +kernel, by decide +kernel⟩
def sp__law_flag : DSp := fun ds M Q _ => ∃ a b : Bool, ds = [.bl a, .bl b] ∧ Q (.bl (a == b)) M
theorem c__law_flag (F : DFun K mg "_law_flag" s__law_flag ["_law_told", "_law_due"]) (B : Bn mg) (G : Gs mg)  : DCal P w K mg base CX0 1 "_law_flag" sp__law_flag := by
  refine dok F sc__law_flag (fun ds M Q E h => (by obtain ⟨_, h⟩ := h; first | (obtain ⟨e, _⟩ := h; subst e; rfl) | (obtain ⟨_, e, _⟩ := h; subst e; rfl) | (obtain ⟨_, _, e, _⟩ := h; subst e; rfl) | (obtain ⟨_, _, _, e, _⟩ := h; subst e; rfl) | (obtain ⟨_, _, _, _, e, _⟩ := h; subst e; rfl) | (obtain ⟨_, _, _, _, _, e, _⟩ := h; subst e; rfl) | (obtain ⟨_, _, _, _, _, _, e, _⟩ := h; subst e; rfl) | (obtain ⟨_, _, _, _, _, _, _, e, _⟩ := h; subst e; rfl) | (obtain ⟨_, _, _, _, _, _, _, _, e, _⟩ := h; subst e; rfl) | (obtain ⟨_, _, _, _, _, _, _, _, _, e, _⟩ := h; subst e; rfl) | (obtain ⟨_, _, _, _, _, _, _, _, _, _, e, _⟩ := h; subst e; rfl) | (obtain ⟨_, _, _, _, _, _, _, _, _, _, _, e, _⟩ := h; subst e; rfl) | (obtain ⟨_, _, _, _, _, _, _, _, _, _, _, _, e, _⟩ := h; subst e; rfl) | (obtain ⟨_, _, _, _, _, _, _, _, _, _, _, _, _, e, _⟩ := h; subst e; rfl) | (obtain ⟨_, _, _, _, _, _, _, _, _, _, _, _, _, _, e, _⟩ := h; subst e; rfl) | (obtain ⟨_, _, _, _, _, _, _, _, _, _, _, _, _, _, _, e, _⟩ := h; subst e; rfl) | (obtain ⟨_, _, _, _, _, _, _, _, _, _, _, _, _, _, _, _, e, _⟩ := h; subst e; rfl) | (obtain ⟨_, _, _, _, _, _, _, _, _, _, _, _, _, _, _, _, _, e, _⟩ := h; subst e; rfl) | (obtain ⟨_, _, _, _, _, _, _, _, _, _, _, _, _, _, _, _, _, _, e, _⟩ := h; subst e; rfl) | (obtain ⟨_, _, _, _, _, _, _, _, _, _, _, _, _, _, _, _, _, _, _, e, _⟩ := h; subst e; rfl) | (obtain ⟨_, _, _, _, _, _, _, _, _, _, _, _, _, _, _, _, _, _, _, _, e, _⟩ := h; subst e; rfl) | (obtain ⟨_, _, _, _, _, _, _, _, _, _, _, _, _, _, _, _, _, _, _, _, _, e, _⟩ := h; subst e; rfl) | (obtain ⟨_, _, _, _, _, _, _, _, _, _, _, _, _, _, _, _, _, _, _, _, _, _, e, _⟩ := h; subst e; rfl) | (obtain ⟨_, _, _, _, _, _, _, _, _, _, _, _, _, _, _, _, _, _, _, _, _, _, _, e, _⟩ := h; subst e; rfl) | (obtain ⟨_, _, _, _, _, _, _, _, _, _, _, _, _, _, _, _, _, _, _, _, _, _, _, _, e, _⟩ := h; subst e; rfl) | (obtain ⟨_, _, _, _, _, _, _, _, _, _, _, _, _, _, _, _, _, _, _, _, _, _, _, _, _, e, _⟩ := h; subst e; rfl))) (fun f cdv A outer s H E F0 hr => ?_)
  have nd := (sc__law_flag).nd
  refine ⟨_, _, (db_one (ds_ret (de_and (de_isi B.isinstance (da_cons (de_var 0) (da_cons (de_ty (n := "bool") B.bool) da_nil))) (de_one (de_eq hr (de_var 0) (de_var 1)))))), ?_⟩
  rintro ds M Q E ⟨a, b, rfl, q⟩
  simp only [dInsert, dVar, dC, dOp, dTest, dII, dIC, dFld, dFldS, dMake, dppNil, dppCons, dMerge, dDisp, dCatL, dExtend, dRg1, dLstRg, dChain, dEq, dAnd, dOr, dNot, dNext, dSeq, dDrop, dRet, dIfS, dNever, dFrzS, hName, hNil, hCons, hTup, hSub, dAsg, dNil, dCons, dTup, dLst, dLstM, dIx, dSet, dCall, dwipe, dYes, jSeq, jRng1, jRng2, dCB, dLen, dList, dListM, dTuple, dII2, dAbs, dInt, dBM0, dBM, dAppend, dPop, dPopAt, dAndV, dNotV, dNeg, dIn, dCat, dNoPart, dPart, dSl, dNewT, dIsi, dLc, dFor, dDc, dLenSetG, dLc2, dFrzE, dLcH, dKdIn, dKdIx, jZipM, if_true, if_false, ite_true, ite_false, Bool.false_eq_true, reduceIte, Bool.not_true, Bool.not_false, List.getElem?_cons_zero, List.getElem?_cons_succ, List.set_cons_zero, List.set_cons_succ, List.map_cons, List.map_nil, List.replicate, List.cons_append, List.nil_append, List.length_cons, List.length_nil, dstart]
  refine ⟨by decide +kernel, "bool", rfl, ?_⟩
  rw [if_pos (by decide +kernel)]
  refine ⟨rfl, rfl, ?_⟩
  have e : (D.bl a).eq (.bl b) = (a == b) := by cases a <;> cases b <;> decide +kernel
  rw [e]
  exact fin_self q
theorem sc__law_is_content : FnScope ["_law_thing", "_law_size"] ["_law_thing", "_law_size"] (defScope s__law_is_content) := ⟨rfl, rfl, rfl, by decide +kernel, rfl, by decide +kernel, by decide +kernel⟩
def sp__law_is_content : DSp := fun ds M Q _ => ∃ x n, ds = [x, .int n] ∧ (tyN M x).isSome = true ∧ Q (.bl (x.within 0 (n - 1))) M
theorem c__law_is_content (F : DFun K mg "_law_is_content" s__law_is_content ["_law_thing", "_law_size"]) (B : Bn mg) (G : Gs mg)  : DCal P w K mg base CX0 1 "_law_is_content" sp__law_is_content := by
  refine dok F sc__law_is_content (fun ds M Q E h => (by obtain ⟨_, h⟩ := h; first | (obtain ⟨e, _⟩ := h; subst e; rfl) | (obtain ⟨_, e, _⟩ := h; subst e; rfl) | (obtain ⟨_, _, e, _⟩ := h; subst e; rfl) | (obtain ⟨_, _, _, e, _⟩ := h; subst e; rfl) | (obtain ⟨_, _, _, _, e, _⟩ := h; subst e; rfl) | (obtain ⟨_, _, _, _, _, e, _⟩ := h; subst e; rfl) | (obtain ⟨_, _, _, _, _, _, e, _⟩ := h; subst e; rfl) | (obtain ⟨_, _, _, _, _, _, _, e, _⟩ := h; subst e; rfl) | (obtain ⟨_, _, _, _, _, _, _, _, e, _⟩ := h; subst e; rfl) | (obtain ⟨_, _, _, _, _, _, _, _, _, e, _⟩ := h; subst e; rfl) | (obtain ⟨_, _, _, _, _, _, _, _, _, _, e, _⟩ := h; subst e; rfl) | (obtain ⟨_, _, _, _, _, _, _, _, _, _, _, e, _⟩ := h; subst e; rfl) | (obtain ⟨_, _, _, _, _, _, _, _, _, _, _, _, e, _⟩ := h; subst e; rfl) | (obtain ⟨_, _, _, _, _, _, _, _, _, _, _, _, _, e, _⟩ := h; subst e; rfl) | (obtain ⟨_, _, _, _, _, _, _, _, _, _, _, _, _, _, e, _⟩ := h; subst e; rfl) | (obtain ⟨_, _, _, _, _, _, _, _, _, _, _, _, _, _, _, e, _⟩ := h; subst e; rfl) | (obtain ⟨_, _, _, _, _, _, _, _, _, _, _, _, _, _, _, _, e, _⟩ := h; subst e; rfl) | (obtain ⟨_, _, _, _, _, _, _, _, _, _, _, _, _, _, _, _, _, e, _⟩ := h; subst e; rfl) | (obtain ⟨_, _, _, _, _, _, _, _, _, _, _, _, _, _, _, _, _, _, e, _⟩ := h; subst e; rfl) | (obtain ⟨_, _, _, _, _, _, _, _, _, _, _, _, _, _, _, _, _, _, _, e, _⟩ := h; subst e; rfl) | (obtain ⟨_, _, _, _, _, _, _, _, _, _, _, _, _, _, _, _, _, _, _, _, e, _⟩ := h; subst e; rfl) | (obtain ⟨_, _, _, _, _, _, _, _, _, _, _, _, _, _, _, _, _, _, _, _, _, e, _⟩ := h; subst e; rfl) | (obtain ⟨_, _, _, _, _, _, _, _, _, _, _, _, _, _, _, _, _, _, _, _, _, _, e, _⟩ := h; subst e; rfl) | (obtain ⟨_, _, _, _, _, _, _, _, _, _, _, _, _, _, _, _, _, _, _, _, _, _, _, e, _⟩ := h; subst e; rfl) | (obtain ⟨_, _, _, _, _, _, _, _, _, _, _, _, _, _, _, _, _, _, _, _, _, _, _, _, e, _⟩ := h; subst e; rfl) | (obtain ⟨_, _, _, _, _, _, _, _, _, _, _, _, _, _, _, _, _, _, _, _, _, _, _, _, _, e, _⟩ := h; subst e; rfl))) (fun f cdv A outer s H E F0 hr => ?_)
  have nd := (sc__law_is_content).nd
  refine ⟨_, _, (db_one (ds_ret (de_and (de_isi B.isinstance (da_cons (de_var 0) (da_cons (de_ty (n := "int") B.int) da_nil))) (de_and (de_not (de_isi B.isinstance (da_cons (de_var 0) (da_cons (de_ty (n := "bool") B.bool) da_nil)))) (de_one (de_chain op_le (l2_II fun _ _ _ => .bl _) op_lt (l2_II fun _ _ _ => .bl _) de_int (de_var 0) (de_var 1))))))), ?_⟩
  rintro ds M Q E ⟨x, n, rfl, hx, q⟩
  obtain ⟨Tn, hT⟩ := Option.isSome_iff_exists.mp hx
  obtain ⟨t1, t2⟩ := ty_int hT
  simp only [dInsert, dVar, dC, dOp, dTest, dII, dIC, dFld, dFldS, dMake, dppNil, dppCons, dMerge, dDisp, dCatL, dExtend, dRg1, dLstRg, dChain, dEq, dAnd, dOr, dNot, dNext, dSeq, dDrop, dRet, dIfS, dNever, dFrzS, hName, hNil, hCons, hTup, hSub, dAsg, dNil, dCons, dTup, dLst, dLstM, dIx, dSet, dCall, dwipe, dYes, jSeq, jRng1, jRng2, dCB, dLen, dList, dListM, dTuple, dII2, dAbs, dInt, dBM0, dBM, dAppend, dPop, dPopAt, dAndV, dNotV, dNeg, dIn, dCat, dNoPart, dPart, dSl, dNewT, dIsi, dLc, dFor, dDc, dLenSetG, dLc2, dFrzE, dLcH, dKdIn, dKdIx, jZipM, if_true, if_false, ite_true, ite_false, Bool.false_eq_true, reduceIte, Bool.not_true, Bool.not_false, List.getElem?_cons_zero, List.getElem?_cons_succ, List.set_cons_zero, List.set_cons_succ, List.map_cons, List.map_nil, List.replicate, List.cons_append, List.nil_append, List.length_cons, List.length_nil, dstart]
  refine ⟨by decide +kernel, Tn, hT, ?_⟩
  rw [t1]
  cases x with
  | int i =>
    simp only [D.isInt, D.isBl, if_true, if_false, ite_true, ite_false, Bool.false_eq_true, reduceIte, Bool.not_true, Bool.not_false, List.getElem?_cons_zero, List.getElem?_cons_succ, List.set_cons_zero, List.set_cons_succ, List.map_cons, List.map_nil, List.replicate, List.cons_append, List.nil_append, List.length_cons, List.length_nil, dstart, Bool.true_or]
    refine ⟨by decide +kernel, Tn, hT, ?_⟩
    rw [t2, if_pos (by rfl)]
    have e1 : (D.int i).within 0 (n - 1) = (decide (0 ≤ i) && decide (i < n)) := by
      simp only [D.within]
      congr 1
      exact decide_eq_decide.mpr (by omega)
    rw [e1] at q
    by_cases h0 : 0 ≤ i
    · rw [decide_eq_true h0] at q ⊢
      exact fin_self q
    · rw [decide_eq_false h0] at q ⊢
      exact fin_self q
  | bl z =>
    simp only [D.isInt, D.isBl, if_true, if_false, ite_true, ite_false, Bool.false_eq_true, reduceIte, Bool.not_true, Bool.not_false, List.getElem?_cons_zero, List.getElem?_cons_succ, List.set_cons_zero, List.set_cons_succ, List.map_cons, List.map_nil, List.replicate, List.cons_append, List.nil_append, List.length_cons, List.length_nil, dstart, Bool.or_true]
    refine ⟨by decide +kernel, Tn, hT, ?_⟩
    rw [t2, if_neg (by simp [D.isBl])]
    exact fin_self q
  | _ => exact fin_self q
theorem sc__law_unlike : FnScope ["_law_thing", "_law_size", "_law_at"] ["_law_thing", "_law_size"] (defScope s__law_unlike) := ⟨rfl, rfl, rfl, by decide +kernel, rfl, by decide +kernel, by decide +kernel⟩
def sp__law_unlike : DSp := fun ds M Q _ => ∃ n x, ds = [x, .int n] ∧ RowT x ∧ (UnlA n x → Q (.bl true) M) ∧ (¬ UnlA n x → Q (.bl false) M)
theorem c__law_unlike (F : DFun K mg "_law_unlike" s__law_unlike ["_law_thing", "_law_size"]) (B : Bn mg) (G : Gs mg) (c__law_is_content : DCal P w K mg base CX0 1 "_law_is_content" sp__law_is_content) : DCal P w K mg base CX0 2 "_law_unlike" sp__law_unlike := by
  refine dok F sc__law_unlike (fun ds M Q E h => (by obtain ⟨_, h⟩ := h; first | (obtain ⟨e, _⟩ := h; subst e; rfl) | (obtain ⟨_, e, _⟩ := h; subst e; rfl) | (obtain ⟨_, _, e, _⟩ := h; subst e; rfl) | (obtain ⟨_, _, _, e, _⟩ := h; subst e; rfl) | (obtain ⟨_, _, _, _, e, _⟩ := h; subst e; rfl) | (obtain ⟨_, _, _, _, _, e, _⟩ := h; subst e; rfl) | (obtain ⟨_, _, _, _, _, _, e, _⟩ := h; subst e; rfl) | (obtain ⟨_, _, _, _, _, _, _, e, _⟩ := h; subst e; rfl) | (obtain ⟨_, _, _, _, _, _, _, _, e, _⟩ := h; subst e; rfl) | (obtain ⟨_, _, _, _, _, _, _, _, _, e, _⟩ := h; subst e; rfl) | (obtain ⟨_, _, _, _, _, _, _, _, _, _, e, _⟩ := h; subst e; rfl) | (obtain ⟨_, _, _, _, _, _, _, _, _, _, _, e, _⟩ := h; subst e; rfl) | (obtain ⟨_, _, _, _, _, _, _, _, _, _, _, _, e, _⟩ := h; subst e; rfl) | (obtain ⟨_, _, _, _, _, _, _, _, _, _, _, _, _, e, _⟩ := h; subst e; rfl) | (obtain ⟨_, _, _, _, _, _, _, _, _, _, _, _, _, _, e, _⟩ := h; subst e; rfl) | (obtain ⟨_, _, _, _, _, _, _, _, _, _, _, _, _, _, _, e, _⟩ := h; subst e; rfl) | (obtain ⟨_, _, _, _, _, _, _, _, _, _, _, _, _, _, _, _, e, _⟩ := h; subst e; rfl) | (obtain ⟨_, _, _, _, _, _, _, _, _, _, _, _, _, _, _, _, _, e, _⟩ := h; subst e; rfl) | (obtain ⟨_, _, _, _, _, _, _, _, _, _, _, _, _, _, _, _, _, _, e, _⟩ := h; subst e; rfl) | (obtain ⟨_, _, _, _, _, _, _, _, _, _, _, _, _, _, _, _, _, _, _, e, _⟩ := h; subst e; rfl) | (obtain ⟨_, _, _, _, _, _, _, _, _, _, _, _, _, _, _, _, _, _, _, _, e, _⟩ := h; subst e; rfl) | (obtain ⟨_, _, _, _, _, _, _, _, _, _, _, _, _, _, _, _, _, _, _, _, _, e, _⟩ := h; subst e; rfl) | (obtain ⟨_, _, _, _, _, _, _, _, _, _, _, _, _, _, _, _, _, _, _, _, _, _, e, _⟩ := h; subst e; rfl) | (obtain ⟨_, _, _, _, _, _, _, _, _, _, _, _, _, _, _, _, _, _, _, _, _, _, _, e, _⟩ := h; subst e; rfl) | (obtain ⟨_, _, _, _, _, _, _, _, _, _, _, _, _, _, _, _, _, _, _, _, _, _, _, _, e, _⟩ := h; subst e; rfl) | (obtain ⟨_, _, _, _, _, _, _, _, _, _, _, _, _, _, _, _, _, _, _, _, _, _, _, _, _, e, _⟩ := h; subst e; rfl))) (fun f cdv A outer s H E F0 hr => ?_)
  have nd := (sc__law_unlike).nd
  refine ⟨_, _, (db_cons (ds_if (dt_not (dt_val (de_isi B.isinstance (da_cons (de_var 0) (da_cons (de_ty (n := "tuple") B.tuple) da_nil))))) (db_one (ds_ret de_bl)) db_nil)
      (db_cons (ds_for PassesOwn.never rfl (di_range1 B.range (da_cons (de_len B.len (da_cons (de_var 0) da_nil)) da_nil)) (dg_name 2 nd) (db_one (ds_if (DW.dt (dw_or (dt_not (dt_val (de_call c__law_is_content hr (goes0A (E := DXK.no)) (da_cons (de_ix hr (de_var 0) (de_var 2)) (da_cons (de_var 1) da_nil))))) (dw_or1 (dt_in hr (de_ix hr (de_var 0) (de_var 2)) (de_slice (de_var 0) do_none (do_some (de_var 2))))))) (db_one (ds_ret de_bl)) db_nil)))
      (db_one (ds_ret de_bl)))), ?_⟩
  rintro ds M Q E ⟨n, x, rfl, T, q1, q2⟩
  by_cases hx : ∃ l, x = .tup l
  · obtain ⟨l, rfl⟩ := hx
    obtain ⟨ll, ly⟩ := T.it l rfl
    simp only [dInsert, dVar, dC, dOp, dTest, dII, dIC, dFld, dFldS, dMake, dppNil, dppCons, dMerge, dDisp, dCatL, dExtend, dRg1, dLstRg, dChain, dEq, dAnd, dOr, dNot, dNext, dSeq, dDrop, dRet, dIfS, dNever, dFrzS, hName, hNil, hCons, hTup, hSub, dAsg, dNil, dCons, dTup, dLst, dLstM, dIx, dSet, dCall, dwipe, dYes, jSeq, jRng1, jRng2, dCB, dLen, dList, dListM, dTuple, dII2, dAbs, dInt, dBM0, dBM, dAppend, dPop, dPopAt, dAndV, dNotV, dNeg, dIn, dCat, dNoPart, dPart, dSl, dNewT, dIsi, dLc, dFor, dDc, dLenSetG, dLc2, dFrzE, dLcH, dKdIn, dKdIx, jZipM, if_true, if_false, ite_true, ite_false, Bool.false_eq_true, reduceIte, Bool.not_true, Bool.not_false, List.getElem?_cons_zero, List.getElem?_cons_succ, List.set_cons_zero, List.set_cons_succ, List.map_cons, List.map_nil, List.replicate, List.cons_append, List.nil_append, List.length_cons, List.length_nil, dstart]
    refine ⟨by decide +kernel, "tuple", rfl, ?_⟩
    rw [if_neg (by decide +kernel)]
    refine ⟨l.length, rfl, ⟨by omega, by omega⟩, ?_⟩
    rw [Int.toNat_natCast]
    refine dForI_of (fun i γ M' => ∃ o2 : Option D, γ = [some (.tup l), some (.int n), o2] ∧ M' = M ∧ ∃ us : List Int, l.take i = us.map .int ∧ us.Nodup ∧ ∀ u ∈ us, 0 ≤ u ∧ u < n) ⟨_, rfl, rfl, [], rfl, List.nodup_nil, fun u h => by cases h⟩ ?_ ?_
    · rintro i e γ M' he ⟨o2, rfl, hM, us, hus, nd, rg⟩
      subst hM
      obtain ⟨hi, rfl⟩ := rgD_get he
      obtain ⟨y, hy⟩ : ∃ y, l[i]? = some y := ⟨_, List.getElem?_eq_getElem hi⟩
      have uz : us.length = i := by
        have := congrArg List.length hus
        rw [List.length_take, List.length_map] at this
        omega
      simp only [dInsert, dVar, dC, dOp, dTest, dII, dIC, dFld, dFldS, dMake, dppNil, dppCons, dMerge, dDisp, dCatL, dExtend, dRg1, dLstRg, dChain, dEq, dAnd, dOr, dNot, dNext, dSeq, dDrop, dRet, dIfS, dNever, dFrzS, hName, hNil, hCons, hTup, hSub, dAsg, dNil, dCons, dTup, dLst, dLstM, dIx, dSet, dCall, dwipe, dYes, jSeq, jRng1, jRng2, dCB, dLen, dList, dListM, dTuple, dII2, dAbs, dInt, dBM0, dBM, dAppend, dPop, dPopAt, dAndV, dNotV, dNeg, dIn, dCat, dNoPart, dPart, dSl, dNewT, dIsi, dLc, dFor, dDc, dLenSetG, dLc2, dFrzE, dLcH, dKdIn, dKdIx, jZipM, if_true, if_false, ite_true, ite_false, Bool.false_eq_true, reduceIte, Bool.not_true, Bool.not_false, List.getElem?_cons_zero, List.getElem?_cons_succ, List.set_cons_zero, List.set_cons_succ, List.map_cons, List.map_nil, List.replicate, List.cons_append, List.nil_append, List.length_cons, List.length_nil, dstart]
      refine ⟨y, atI_at (k := i) (by omega) hy, y, n, rfl, ly y (List.mem_of_getElem? hy) M', ?_⟩
      have bad : (∀ vs : List Int, l = vs.map .int → vs.Nodup → (∀ u ∈ vs, 0 ≤ u ∧ u < n) → False) → ¬ UnlA n (.tup l) := fun h ⟨vs, e, h1, h2⟩ => h vs (by unfold tupI at e; injection e) h1 h2
      by_cases hw : y.within 0 (n - 1) = true
      · obtain ⟨v, rfl, v0, v1⟩ := within_int hw
        rw [hw]
        dsimp only
        rw [if_neg (by decide)]
        refine ⟨.int v, atI_at (k := i) (by omega) hy, ?_⟩
        have c1 : cutD l none (some (0 + (i : Int))) = us.map .int := by
          rw [Int.zero_add, cutD_takeB (by omega)]; exact hus
        rw [c1]
        refine ⟨_, in_tupI, ?_⟩
        by_cases hm : v ∈ us
        · rw [decide_eq_true hm, if_pos rfl]
          refine fin_self (q2 (bad fun vs e1 nd1 _ => ?_))
          subst e1
          rw [List.getElem?_map, Option.map_eq_some_iff] at hy
          obtain ⟨v', hv', e2⟩ := hy
          injection e2 with e2
          subst e2
          rw [← List.map_take] at hus
          have := int_inj hus
          rw [← this] at hm
          exact ((nodup_take hv').mp (nd1.sublist (List.take_sublist _ _))).2 hm
        · rw [decide_eq_false hm, if_neg (by decide)]
          refine ⟨_, rfl, rfl, us ++ [v], by rw [take_succ_of hy, hus, List.map_append]; rfl, List.nodup_append.mpr ⟨nd, by simp, fun a ha b hb e => hm (by rw [← List.mem_singleton.mp hb, ← e]; exact ha)⟩, fun u hu => ?_⟩
          rcases List.mem_append.mp hu with h | h
          · exact rg u h
          · rw [List.mem_singleton.mp h]; exact ⟨v0, v1⟩
      · dsimp only
        rw [if_pos (by simp [hw])]
        refine fin_self (q2 (bad fun vs e1 _ rg1 => hw ?_))
        subst e1
        obtain ⟨v, hv, rfl⟩ := get_int hy
        have := rg1 v (List.mem_of_getElem? hv)
        exact int_within this.1 this.2
    · rintro γ M' ⟨o2, rfl, hM, us, hus, nd, rg⟩
      subst hM
      rw [rgD_len, List.take_length] at hus
      simp only [dInsert, dVar, dC, dOp, dTest, dII, dIC, dFld, dFldS, dMake, dppNil, dppCons, dMerge, dDisp, dCatL, dExtend, dRg1, dLstRg, dChain, dEq, dAnd, dOr, dNot, dNext, dSeq, dDrop, dRet, dIfS, dNever, dFrzS, hName, hNil, hCons, hTup, hSub, dAsg, dNil, dCons, dTup, dLst, dLstM, dIx, dSet, dCall, dwipe, dYes, jSeq, jRng1, jRng2, dCB, dLen, dList, dListM, dTuple, dII2, dAbs, dInt, dBM0, dBM, dAppend, dPop, dPopAt, dAndV, dNotV, dNeg, dIn, dCat, dNoPart, dPart, dSl, dNewT, dIsi, dLc, dFor, dDc, dLenSetG, dLc2, dFrzE, dLcH, dKdIn, dKdIx, jZipM, if_true, if_false, ite_true, ite_false, Bool.false_eq_true, reduceIte, Bool.not_true, Bool.not_false, List.getElem?_cons_zero, List.getElem?_cons_succ, List.set_cons_zero, List.set_cons_succ, List.map_cons, List.map_nil, List.replicate, List.cons_append, List.nil_append, List.length_cons, List.length_nil, dstart]
      exact fin_self (q1 ⟨us, by rw [hus]; rfl, nd, rg⟩)
  · obtain ⟨Tn, hT⟩ := Option.isSome_iff_exists.mp (T.ty M)
    simp only [dInsert, dVar, dC, dOp, dTest, dII, dIC, dFld, dFldS, dMake, dppNil, dppCons, dMerge, dDisp, dCatL, dExtend, dRg1, dLstRg, dChain, dEq, dAnd, dOr, dNot, dNext, dSeq, dDrop, dRet, dIfS, dNever, dFrzS, hName, hNil, hCons, hTup, hSub, dAsg, dNil, dCons, dTup, dLst, dLstM, dIx, dSet, dCall, dwipe, dYes, jSeq, jRng1, jRng2, dCB, dLen, dList, dListM, dTuple, dII2, dAbs, dInt, dBM0, dBM, dAppend, dPop, dPopAt, dAndV, dNotV, dNeg, dIn, dCat, dNoPart, dPart, dSl, dNewT, dIsi, dLc, dFor, dDc, dLenSetG, dLc2, dFrzE, dLcH, dKdIn, dKdIx, jZipM, if_true, if_false, ite_true, ite_false, Bool.false_eq_true, reduceIte, Bool.not_true, Bool.not_false, List.getElem?_cons_zero, List.getElem?_cons_succ, List.set_cons_zero, List.set_cons_succ, List.map_cons, List.map_nil, List.replicate, List.cons_append, List.nil_append, List.length_cons, List.length_nil, dstart]
    refine ⟨by decide +kernel, Tn, hT, ?_⟩
    rw [ntup T.nk (fun l e => hx ⟨l, e⟩) hT, if_pos (by decide)]
    exact fin_self (q2 fun ⟨us, e, _⟩ => hx ⟨_, e⟩)
theorem sc__law_is_way : FnScope ["_law_size", "_law_ties", "_law_thing", "_law_one", "_law_two", "_law_at"] ["_law_size", "_law_ties", "_law_thing", "_law_one", "_law_two"] (defScope s__law_is_way) := ⟨rfl, rfl, rfl, by decide +kernel, rfl, by decide +kernel, by decide +kernel⟩
def sp__law_is_way : DSp := fun ds M Q _ => ∃ n ps x a b, ds = [.int n, .tup (ps.map prD), x, .int a, .int b] ∧ PrsOk n ps ∧ ps.length ≤ 1000 ∧ RowT x ∧ (WayA n ps x a b → Q (.bl true) M) ∧ (¬ WayA n ps x a b → Q (.bl false) M)
theorem c__law_is_way (F : DFun K mg "_law_is_way" s__law_is_way ["_law_size", "_law_ties", "_law_thing", "_law_one", "_law_two"]) (B : Bn mg) (G : Gs mg) (c__law_pair : DCal P w K mg base CX0 1 "_law_pair" sp__law_pair) (c__law_unlike : DCal P w K mg base CX0 2 "_law_unlike" sp__law_unlike) : DCal P w K mg base CX0 3 "_law_is_way" sp__law_is_way := by
  refine dok F sc__law_is_way (fun ds M Q E h => (by obtain ⟨_, h⟩ := h; first | (obtain ⟨e, _⟩ := h; subst e; rfl) | (obtain ⟨_, e, _⟩ := h; subst e; rfl) | (obtain ⟨_, _, e, _⟩ := h; subst e; rfl) | (obtain ⟨_, _, _, e, _⟩ := h; subst e; rfl) | (obtain ⟨_, _, _, _, e, _⟩ := h; subst e; rfl) | (obtain ⟨_, _, _, _, _, e, _⟩ := h; subst e; rfl) | (obtain ⟨_, _, _, _, _, _, e, _⟩ := h; subst e; rfl) | (obtain ⟨_, _, _, _, _, _, _, e, _⟩ := h; subst e; rfl) | (obtain ⟨_, _, _, _, _, _, _, _, e, _⟩ := h; subst e; rfl) | (obtain ⟨_, _, _, _, _, _, _, _, _, e, _⟩ := h; subst e; rfl) | (obtain ⟨_, _, _, _, _, _, _, _, _, _, e, _⟩ := h; subst e; rfl) | (obtain ⟨_, _, _, _, _, _, _, _, _, _, _, e, _⟩ := h; subst e; rfl) | (obtain ⟨_, _, _, _, _, _, _, _, _, _, _, _, e, _⟩ := h; subst e; rfl) | (obtain ⟨_, _, _, _, _, _, _, _, _, _, _, _, _, e, _⟩ := h; subst e; rfl) | (obtain ⟨_, _, _, _, _, _, _, _, _, _, _, _, _, _, e, _⟩ := h; subst e; rfl) | (obtain ⟨_, _, _, _, _, _, _, _, _, _, _, _, _, _, _, e, _⟩ := h; subst e; rfl) | (obtain ⟨_, _, _, _, _, _, _, _, _, _, _, _, _, _, _, _, e, _⟩ := h; subst e; rfl) | (obtain ⟨_, _, _, _, _, _, _, _, _, _, _, _, _, _, _, _, _, e, _⟩ := h; subst e; rfl) | (obtain ⟨_, _, _, _, _, _, _, _, _, _, _, _, _, _, _, _, _, _, e, _⟩ := h; subst e; rfl) | (obtain ⟨_, _, _, _, _, _, _, _, _, _, _, _, _, _, _, _, _, _, _, e, _⟩ := h; subst e; rfl) | (obtain ⟨_, _, _, _, _, _, _, _, _, _, _, _, _, _, _, _, _, _, _, _, e, _⟩ := h; subst e; rfl) | (obtain ⟨_, _, _, _, _, _, _, _, _, _, _, _, _, _, _, _, _, _, _, _, _, e, _⟩ := h; subst e; rfl) | (obtain ⟨_, _, _, _, _, _, _, _, _, _, _, _, _, _, _, _, _, _, _, _, _, _, e, _⟩ := h; subst e; rfl) | (obtain ⟨_, _, _, _, _, _, _, _, _, _, _, _, _, _, _, _, _, _, _, _, _, _, _, e, _⟩ := h; subst e; rfl) | (obtain ⟨_, _, _, _, _, _, _, _, _, _, _, _, _, _, _, _, _, _, _, _, _, _, _, _, e, _⟩ := h; subst e; rfl) | (obtain ⟨_, _, _, _, _, _, _, _, _, _, _, _, _, _, _, _, _, _, _, _, _, _, _, _, _, e, _⟩ := h; subst e; rfl))) (fun f cdv A outer s H E F0 hr => ?_)
  have nd := (sc__law_is_way).nd
  refine ⟨_, _, (db_cons (ds_if (DW.dt (dw_or (dt_not (dt_val (de_call c__law_unlike hr (goes0A (E := DXK.no)) (da_cons (de_var 2) (da_cons (de_var 0) da_nil))))) (dw_or (dt_lt (de_len B.len (da_cons (de_var 2) da_nil)) de_int) (dw_or (dt_ne hr (de_ix hr (de_var 2) de_int) (de_var 3)) (dw_or1 (dt_ne hr (de_ix hr (de_var 2) (de_neg de_int)) (de_var 4))))))) (db_one (ds_ret de_bl)) db_nil)
      (db_cons (ds_for PassesOwn.never rfl (di_range2 B.range (da_cons de_int (da_cons (de_len B.len (da_cons (de_var 2) da_nil)) da_nil))) (dg_name 5 nd) (db_one (ds_if (dt_notIn hr (de_call c__law_pair hr (goes0A (E := DXK.no)) (da_cons (de_ix hr (de_var 2) (de_sub (de_var 5) de_int)) (da_cons (de_ix hr (de_var 2) (de_var 5)) da_nil))) (de_var 1)) (db_one (ds_ret de_bl)) db_nil)))
      (db_one (ds_ret de_bl)))), ?_⟩
  rintro ds M Q E ⟨n, ps, x, a, b, rfl, ok, pl, T, q1, q2⟩
  simp only [dInsert, dVar, dC, dOp, dTest, dII, dIC, dFld, dFldS, dMake, dppNil, dppCons, dMerge, dDisp, dCatL, dExtend, dRg1, dLstRg, dChain, dEq, dAnd, dOr, dNot, dNext, dSeq, dDrop, dRet, dIfS, dNever, dFrzS, hName, hNil, hCons, hTup, hSub, dAsg, dNil, dCons, dTup, dLst, dLstM, dIx, dSet, dCall, dwipe, dYes, jSeq, jRng1, jRng2, dCB, dLen, dList, dListM, dTuple, dII2, dAbs, dInt, dBM0, dBM, dAppend, dPop, dPopAt, dAndV, dNotV, dNeg, dIn, dCat, dNoPart, dPart, dSl, dNewT, dIsi, dLc, dFor, dDc, dLenSetG, dLc2, dFrzE, dLcH, dKdIn, dKdIx, jZipM, if_true, if_false, ite_true, ite_false, Bool.false_eq_true, reduceIte, Bool.not_true, Bool.not_false, List.getElem?_cons_zero, List.getElem?_cons_succ, List.set_cons_zero, List.set_cons_succ, List.map_cons, List.map_nil, List.replicate, List.cons_append, List.nil_append, List.length_cons, List.length_nil, dstart]
  refine ⟨n, x, rfl, T, fun hU => ?_, fun hU => ?_⟩
  · obtain ⟨us, rfl, nd, rg⟩ := hU
    have ul : us.length ≤ 60 := by have := (T.it _ rfl).1; rwa [List.length_map] at this
    have lv : ∀ M, lenV M (tupI us) = some us.length := fun M => by unfold tupI; simp only [lenV, List.length_map]
    have gx : ∀ (M : Mp) (i : Int) (k : Nat) v, i = (k : Int) → us[k]? = some v → dIxV M (tupI us) (.int i) = some (.int v) := fun M i k v e h => atI_at (k := k) e (by rw [List.getElem?_map, h]; rfl)
    have bad : (∀ vs : List Int, us = vs → WayP n ps vs a b → False) → ¬ WayA n ps (tupI us) a b := fun h ⟨vs, e, w⟩ => h vs (tupI_inj e) w
    simp only [if_true, if_false, ite_true, ite_false, Bool.false_eq_true, reduceIte, Bool.not_true, Bool.not_false, List.getElem?_cons_zero, List.getElem?_cons_succ, List.set_cons_zero, List.set_cons_succ, List.map_cons, List.map_nil, List.replicate, List.cons_append, List.nil_append, List.length_cons, List.length_nil, dstart]
    refine ⟨us.length, lv M, ?_⟩
    by_cases l2 : us.length < 2
    · rw [if_pos (decide_eq_true (by omega))]
      exact fin_self (q2 (bad fun vs e w => by subst e; have := w.l2; omega))
    rw [if_neg (by simp; omega)]
    obtain ⟨a', ha'⟩ : ∃ v, us[0]? = some v := ⟨_, List.getElem?_eq_getElem (by omega)⟩
    obtain ⟨b', hb'⟩ : ∃ v, us[us.length - 1]? = some v := ⟨_, List.getElem?_eq_getElem (by omega)⟩
    refine ⟨.int a', gx M 0 0 a' rfl ha', rfl, rfl, ?_⟩
    rw [D.eq_int]
    by_cases ea : a' = a
    · rw [if_neg (by simp [ea])]
      have gl : dIxV M (tupI us) (.int (-1)) = some (.int b') := by
        show atI (us.map D.int) (-1) = some (.int b')
        unfold atI
        rw [List.length_map, show ixN us.length (-1) = some (us.length - 1) from by unfold ixN; rw [if_neg (by decide), if_pos (by omega)]; congr 1; omega]
        simp only [Option.bind_some, List.getElem?_map, hb', Option.map_some]
      refine ⟨.int b', gl, rfl, rfl, ?_⟩
      rw [D.eq_int]
      by_cases eb : b' = b
      · rw [if_neg (by simp [eb])]
        refine ⟨us.length, lv M, ⟨by decide, by decide, by omega, by omega⟩, ?_⟩
        refine dForI_of (fun i γ M' => ∃ o5 : Option D, γ = [some (.int n), some (.tup (ps.map prD)), some (tupI us), some (.int a), some (.int b), o5] ∧ M' = M ∧ ∀ (k : Nat) x y, k < i → us[k]? = some x → us[k + 1]? = some y → y ∈ nbr ps x) ⟨_, rfl, rfl, fun k x y h => absurd h (by omega)⟩ ?_ ?_
        · rintro i e γ M' he ⟨o5, rfl, hM, hk⟩
          subst hM
          obtain ⟨hi, rfl⟩ := rgD_get he
          obtain ⟨u, hu⟩ : ∃ v, us[i]? = some v := ⟨_, List.getElem?_eq_getElem (by omega)⟩
          obtain ⟨v, hv⟩ : ∃ v, us[i + 1]? = some v := ⟨_, List.getElem?_eq_getElem (by omega)⟩
          have uv : u ≠ v := fun e => by
            have := (List.getElem?_inj (by omega) nd).mp (hu.trans (by rw [e]; exact hv.symm))
            omega
          simp only [dInsert, dVar, dC, dOp, dTest, dII, dIC, dFld, dFldS, dMake, dppNil, dppCons, dMerge, dDisp, dCatL, dExtend, dRg1, dLstRg, dChain, dEq, dAnd, dOr, dNot, dNext, dSeq, dDrop, dRet, dIfS, dNever, dFrzS, hName, hNil, hCons, hTup, hSub, dAsg, dNil, dCons, dTup, dLst, dLstM, dIx, dSet, dCall, dwipe, dYes, jSeq, jRng1, jRng2, dCB, dLen, dList, dListM, dTuple, dII2, dAbs, dInt, dBM0, dBM, dAppend, dPop, dPopAt, dAndV, dNotV, dNeg, dIn, dCat, dNoPart, dPart, dSl, dNewT, dIsi, dLc, dFor, dDc, dLenSetG, dLc2, dFrzE, dLcH, dKdIn, dKdIx, jZipM, if_true, if_false, ite_true, ite_false, Bool.false_eq_true, reduceIte, Bool.not_true, Bool.not_false, List.getElem?_cons_zero, List.getElem?_cons_succ, List.set_cons_zero, List.set_cons_succ, List.map_cons, List.map_nil, List.replicate, List.cons_append, List.nil_append, List.length_cons, List.length_nil, dstart]
          refine ⟨.int u, gx M' _ i u (by omega) hu, .int v, gx M' _ (i + 1) v (by omega) hv, u, v, rfl, _, in_prs, ?_⟩
          have nn := nbr_norm ok (a := u) (b := v)
          by_cases hm : ((if v < u then v else u, if u < v then v else u) : Int × Int) ∈ ps
          · rw [decide_eq_true hm, if_neg (by decide)]
            refine ⟨_, rfl, rfl, fun k x y hk2 hx hy => ?_⟩
            by_cases e : k < i
            · exact hk k x y e hx hy
            · have : k = i := by omega
              subst this
              have e1 := Option.some.inj (hu.symm.trans hx)
              have e2 := Option.some.inj (hv.symm.trans hy)
              subst e1 e2
              exact nn.mp hm
          · rw [decide_eq_false hm, if_pos (by decide)]
            refine fin_self (q2 (bad fun vs e w => ?_))
            subst e
            exact hm (nn.mpr (w.st i u v hu hv))
        · rintro γ M' ⟨o5, rfl, hM, hk⟩
          subst hM
          rw [rgD_len] at hk
          simp only [dInsert, dVar, dC, dOp, dTest, dII, dIC, dFld, dFldS, dMake, dppNil, dppCons, dMerge, dDisp, dCatL, dExtend, dRg1, dLstRg, dChain, dEq, dAnd, dOr, dNot, dNext, dSeq, dDrop, dRet, dIfS, dNever, dFrzS, hName, hNil, hCons, hTup, hSub, dAsg, dNil, dCons, dTup, dLst, dLstM, dIx, dSet, dCall, dwipe, dYes, jSeq, jRng1, jRng2, dCB, dLen, dList, dListM, dTuple, dII2, dAbs, dInt, dBM0, dBM, dAppend, dPop, dPopAt, dAndV, dNotV, dNeg, dIn, dCat, dNoPart, dPart, dSl, dNewT, dIsi, dLc, dFor, dDc, dLenSetG, dLc2, dFrzE, dLcH, dKdIn, dKdIx, jZipM, if_true, if_false, ite_true, ite_false, Bool.false_eq_true, reduceIte, Bool.not_true, Bool.not_false, List.getElem?_cons_zero, List.getElem?_cons_succ, List.set_cons_zero, List.set_cons_succ, List.map_cons, List.map_nil, List.replicate, List.cons_append, List.nil_append, List.length_cons, List.length_nil, dstart]
          refine fin_self (q1 ⟨us, rfl, nd, rg, by omega, by rw [ha', ea], by rw [hb', eb], fun i x y h1 h2 => hk i x y ?_ h1 h2⟩)
          have := (List.getElem?_eq_some_iff.mp h2).1
          omega
      · rw [if_pos (by simpa using eb)]
        exact fin_self (q2 (bad fun vs e w => by subst e; have := w.tl; rw [hb'] at this; exact eb (Option.some.inj this)))
    · rw [if_pos (by simpa using ea)]
      exact fin_self (q2 (bad fun vs e w => by subst e; have := w.hd; rw [ha'] at this; exact ea (Option.some.inj this)))
  · simp only [if_true, if_false, ite_true, ite_false, Bool.false_eq_true, reduceIte, Bool.not_true, Bool.not_false, List.getElem?_cons_zero, List.getElem?_cons_succ, List.set_cons_zero, List.set_cons_succ, List.map_cons, List.map_nil, List.replicate, List.cons_append, List.nil_append, List.length_cons, List.length_nil, dstart]
    exact fin_self (q2 fun ⟨us, e, w⟩ => hU ⟨us, e, w.nd, w.rg⟩)
theorem sc__law_is_bar : FnScope ["_law_size", "_law_ties", "_law_thing", "_law_corners", "_law_pairs_here", "_law_used", "_law_k", "_law_way", "_law_content"] ["_law_size", "_law_ties", "_law_thing"] (defScope s__law_is_bar) := ⟨rfl, rfl, rfl, by decide +kernel, rfl, by decide +kernel, by decide +kernel⟩
def sp__law_is_bar : DSp := fun ds M Q _ => ∃ n ps x, ds = [.int n, .tup (ps.map prD), x] ∧ PrsOk n ps ∧ ps.length ≤ 1000 ∧ ThW x ∧ (BarA n ps x → Q (.bl true) M) ∧ (¬ BarA n ps x → Q (.bl false) M)
theorem c__law_is_bar (F : DFun K mg "_law_is_bar" s__law_is_bar ["_law_size", "_law_ties", "_law_thing"]) (B : Bn mg) (G : Gs mg) (c__law_is_way : DCal P w K mg base CX0 3 "_law_is_way" sp__law_is_way) (c__law_pairs : DCal P w K mg base CX0 1 "_law_pairs" sp__law_pairs) (c__law_unlike : DCal P w K mg base CX0 2 "_law_unlike" sp__law_unlike) : DCal P w K mg base CX0 4 "_law_is_bar" sp__law_is_bar := by
  refine dok F sc__law_is_bar (fun ds M Q E h => (by obtain ⟨_, h⟩ := h; first | (obtain ⟨e, _⟩ := h; subst e; rfl) | (obtain ⟨_, e, _⟩ := h; subst e; rfl) | (obtain ⟨_, _, e, _⟩ := h; subst e; rfl) | (obtain ⟨_, _, _, e, _⟩ := h; subst e; rfl) | (obtain ⟨_, _, _, _, e, _⟩ := h; subst e; rfl) | (obtain ⟨_, _, _, _, _, e, _⟩ := h; subst e; rfl) | (obtain ⟨_, _, _, _, _, _, e, _⟩ := h; subst e; rfl) | (obtain ⟨_, _, _, _, _, _, _, e, _⟩ := h; subst e; rfl) | (obtain ⟨_, _, _, _, _, _, _, _, e, _⟩ := h; subst e; rfl) | (obtain ⟨_, _, _, _, _, _, _, _, _, e, _⟩ := h; subst e; rfl) | (obtain ⟨_, _, _, _, _, _, _, _, _, _, e, _⟩ := h; subst e; rfl) | (obtain ⟨_, _, _, _, _, _, _, _, _, _, _, e, _⟩ := h; subst e; rfl) | (obtain ⟨_, _, _, _, _, _, _, _, _, _, _, _, e, _⟩ := h; subst e; rfl) | (obtain ⟨_, _, _, _, _, _, _, _, _, _, _, _, _, e, _⟩ := h; subst e; rfl) | (obtain ⟨_, _, _, _, _, _, _, _, _, _, _, _, _, _, e, _⟩ := h; subst e; rfl) | (obtain ⟨_, _, _, _, _, _, _, _, _, _, _, _, _, _, _, e, _⟩ := h; subst e; rfl) | (obtain ⟨_, _, _, _, _, _, _, _, _, _, _, _, _, _, _, _, e, _⟩ := h; subst e; rfl) | (obtain ⟨_, _, _, _, _, _, _, _, _, _, _, _, _, _, _, _, _, e, _⟩ := h; subst e; rfl) | (obtain ⟨_, _, _, _, _, _, _, _, _, _, _, _, _, _, _, _, _, _, e, _⟩ := h; subst e; rfl) | (obtain ⟨_, _, _, _, _, _, _, _, _, _, _, _, _, _, _, _, _, _, _, e, _⟩ := h; subst e; rfl) | (obtain ⟨_, _, _, _, _, _, _, _, _, _, _, _, _, _, _, _, _, _, _, _, e, _⟩ := h; subst e; rfl) | (obtain ⟨_, _, _, _, _, _, _, _, _, _, _, _, _, _, _, _, _, _, _, _, _, e, _⟩ := h; subst e; rfl) | (obtain ⟨_, _, _, _, _, _, _, _, _, _, _, _, _, _, _, _, _, _, _, _, _, _, e, _⟩ := h; subst e; rfl) | (obtain ⟨_, _, _, _, _, _, _, _, _, _, _, _, _, _, _, _, _, _, _, _, _, _, _, e, _⟩ := h; subst e; rfl) | (obtain ⟨_, _, _, _, _, _, _, _, _, _, _, _, _, _, _, _, _, _, _, _, _, _, _, _, e, _⟩ := h; subst e; rfl) | (obtain ⟨_, _, _, _, _, _, _, _, _, _, _, _, _, _, _, _, _, _, _, _, _, _, _, _, _, e, _⟩ := h; subst e; rfl))) (fun f cdv A outer s H E F0 hr => ?_)
  have nd := (sc__law_is_bar).nd
  refine ⟨_, _, (db_cons (ds_if (DW.dt (dw_or (dt_not (dt_val (de_isi B.isinstance (da_cons (de_var 2) (da_cons (de_ty (n := "tuple") B.tuple) da_nil))))) (dw_or (dt_ne hr (de_len B.len (da_cons (de_var 2) da_nil)) de_int) (dw_or1 (dt_not (dt_val (de_isi B.isinstance (da_cons (de_ix hr (de_var 2) de_int) (da_cons (de_ty (n := "str") B.str) da_nil))))))))) (db_one (ds_ret de_bl)) db_nil)
      (db_cons (ds_if (dt_notIn hr (de_ix hr (de_var 2) de_int) (de_lst (da_cons de_str (da_cons de_str da_nil)))) (db_one (ds_ret de_bl)) db_nil)
      (db_cons (ds_set 3 nd (de_ix hr (de_var 2) de_int))
      (db_cons (ds_set 4 nd (de_call c__law_pairs hr (goes0A (E := DXK.no)) (da_cons (de_ix hr (de_var 2) de_int) da_nil)))
      (db_cons (ds_if (DW.dt (dw_or (dt_not (dt_val (de_call c__law_unlike hr (goes0A (E := DXK.no)) (da_cons (de_var 3) (da_cons (de_var 0) da_nil))))) (dw_or1 (dt_ne hr (de_len B.len (da_cons (de_var 3) da_nil)) (de_add de_int (de_bty call_int1 lc_int B.int (da_cons (de_eq hr (de_ix hr (de_var 2) de_int) de_str) da_nil))))))) (db_one (ds_ret de_bl)) db_nil)
      (db_cons (ds_if (DW.dt (dw_or (dt_not (dt_val (de_isi B.isinstance (da_cons (de_ix hr (de_var 2) de_int) (da_cons (de_ty (n := "tuple") B.tuple) da_nil))))) (dw_or1 (dt_ne hr (de_len B.len (da_cons (de_ix hr (de_var 2) de_int) da_nil)) (de_len B.len (da_cons (de_var 4) da_nil)))))) (db_one (ds_ret de_bl)) db_nil)
      (db_cons (ds_set 5 nd (de_bty (call_listA rfl) lc_listM B.list (da_cons (de_var 3) da_nil)))
      (db_cons (ds_for PassesOwn.never rfl (di_range1 B.range (da_cons (de_len B.len (da_cons (de_var 4) da_nil)) da_nil)) (dg_name 6 nd) (db_cons (ds_set 7 nd (de_ix hr (de_ix hr (de_var 2) de_int) (de_var 6)))
      (db_cons (ds_if (dt_not (dt_val (de_call c__law_is_way hr (goes0A (E := DXK.no)) (da_cons (de_var 0) (da_cons (de_var 1) (da_cons (de_var 7) (da_cons (de_ix hr (de_var 3) (de_ix hr (de_ix hr (de_var 4) (de_var 6)) de_int)) (da_cons (de_ix hr (de_var 3) (de_ix hr (de_ix hr (de_var 4) (de_var 6)) de_int)) da_nil)))))))) (db_one (ds_ret de_bl)) db_nil)
      (db_one (ds_for PassesOwn.never rfl (di_seq (de_slice (de_var 7) (do_some de_int) (do_some (de_neg de_int)))) (dg_name 8 nd) (db_cons (ds_if (dt_in hr (de_var 8) (de_var 5)) (db_one (ds_ret de_bl)) db_nil)
      (db_one (ds_expr (de_append (de_var 5) (da_cons (de_var 8) da_nil))))))))))
      (db_one (ds_ret de_bl)))))))))), ?_⟩
  rintro ds M Q E ⟨n, ps, x, rfl, ok, pl, T, q1, q2⟩
  simp only [dInsert, dVar, dC, dOp, dTest, dII, dIC, dFld, dFldS, dMake, dppNil, dppCons, dMerge, dDisp, dCatL, dExtend, dRg1, dLstRg, dChain, dEq, dAnd, dOr, dNot, dNext, dSeq, dDrop, dRet, dIfS, dNever, dFrzS, hName, hNil, hCons, hTup, hSub, dAsg, dNil, dCons, dTup, dLst, dLstM, dIx, dSet, dCall, dwipe, dYes, jSeq, jRng1, jRng2, dCB, dLen, dList, dListM, dTuple, dII2, dAbs, dInt, dBM0, dBM, dAppend, dPop, dPopAt, dAndV, dNotV, dNeg, dIn, dCat, dNoPart, dPart, dSl, dNewT, dIsi, dLc, dFor, dDc, dLenSetG, dLc2, dFrzE, dLcH, dKdIn, dKdIx, jZipM, if_true, if_false, ite_true, ite_false, Bool.false_eq_true, reduceIte, Bool.not_true, Bool.not_false, List.getElem?_cons_zero, List.getElem?_cons_succ, List.set_cons_zero, List.set_cons_succ, List.map_cons, List.map_nil, List.replicate, List.cons_append, List.nil_append, List.length_cons, List.length_nil, dstart]
  refine ⟨by decide +kernel, ?_⟩
  by_cases hx : ∃ l, x = .tup l
  · obtain ⟨l, rfl⟩ := hx
    refine ⟨"tuple", rfl, ?_⟩
    rw [if_neg (by decide +kernel)]
    refine ⟨l.length, rfl, rfl, rfl, ?_⟩
    rw [D.eq_int]
    by_cases l3 : l.length = 3
    · rw [if_neg (by simp [l3])]
      obtain ⟨w, c, y, rfl⟩ : ∃ w c y, l = [w, c, y] := by
        match l, l3 with
        | [w, c, y], _ => exact ⟨w, c, y, rfl⟩
      obtain ⟨Tw, Tw2, Tc, Ty⟩ := T.it w c y rfl
      have g0 : ∀ M, dIxV M (.tup [w, c, y]) (.int 0) = some w := fun M => ixT_at (k := 0) rfl rfl
      have g1 : ∀ M, dIxV M (.tup [w, c, y]) (.int 1) = some c := fun M => ixT_at (k := 1) rfl rfl
      have g2 : ∀ M, dIxV M (.tup [w, c, y]) (.int 2) = some y := fun M => ixT_at (k := 2) rfl rfl
      have bad : (∀ f cs ws, w = wordW f → c = tupI cs → y = .tup (ws.map tupI) → BarP n ps f cs ws → False) → ¬ BarA n ps (.tup [w, c, y]) := fun h ⟨f, cs, ws, e, hb⟩ => by
        unfold barD at e
        injection e with e
        injection e with e1 e
        injection e with e2 e
        injection e with e3 _
        exact h f cs ws e1 e2 e3 hb
      refine ⟨w, g0 M, by decide +kernel, ?_⟩
      by_cases hw : ∃ s, w = .str s
      · obtain ⟨s, rfl⟩ := hw
        refine ⟨"str", rfl, ?_⟩
        rw [if_neg (by decide +kernel)]
        refine ⟨_, g0 M, by decide, ?_⟩
        by_cases hf : ∃ f, D.str s = wordW f
        · obtain ⟨f, hf⟩ := hf
          refine ⟨true, in_word hf, ?_⟩
          rw [if_neg (by decide)]
          refine ⟨c, g1 M, _, g0 M, f, by rw [hf], n, c, rfl, Tc, fun hU => ?_, fun hU => ?_⟩
          · obtain ⟨cs, rfl, cnd, crg⟩ := hU
            simp only [if_true, if_false, ite_true, ite_false, Bool.false_eq_true, reduceIte, Bool.not_true, Bool.not_false, List.getElem?_cons_zero, List.getElem?_cons_succ, List.set_cons_zero, List.set_cons_succ, List.map_cons, List.map_nil, List.replicate, List.cons_append, List.nil_append, List.length_cons, List.length_nil, dstart]
            refine ⟨cs.length, by unfold tupI; simp only [lenV, List.length_map], _, g0 M, Tw2 s rfl, by decide +kernel, rfl, rfl, ?_⟩
            have ecor : (5 + if (D.str s).eq (D.str (Str.ofString "three")) = true then 1 else 0 : Int) = (corW f : Nat) := by
              rw [hf]
              cases f with
              | true =>
                have : (wordW true).eq (D.str (Str.ofString "three")) = false := by decide +kernel
                rw [this]; rfl
              | false =>
                have : (wordW false).eq (D.str (Str.ofString "three")) = true := by decide +kernel
                rw [this]; rfl
            rw [ecor, D.eq_int]
            by_cases cl : cs.length = corW f
            · rw [if_neg (by simp [cl])]
              have c6 : cs.length ≤ 6 := by rw [cl]; cases f <;> decide
              refine ⟨y, g2 M, by decide +kernel, ?_⟩
              by_cases hy : ∃ wr, y = .tup wr
              · obtain ⟨wr, rfl⟩ := hy
                obtain ⟨wl100, wt⟩ := Ty.it wr rfl
                have pl10 : (prsW f).length ≤ 10 := by cases f <;> decide
                refine ⟨"tuple", rfl, ?_⟩
                rw [if_neg (by decide +kernel)]
                refine ⟨_, g2 M, wr.length, rfl, (prsW f).length, by simp only [lenV, List.length_map], rfl, rfl, ?_⟩
                rw [D.eq_int]
                by_cases wl : wr.length = (prsW f).length
                · rw [if_neg (by simp [wl])]
                  have pv : ∀ (k : Nat) p, (prsW f)[k]? = some p → ∃ i j : Nat, p = ((i : Int), (j : Int)) ∧ i < corW f ∧ j < corW f := prs_ok f
                  have gc : ∀ (M : Mp) (k : Nat), k < cs.length → dIxV M (tupI cs) (.int (k : Int)) = some (.int (cs.getD k 0)) := fun M k h => atI_at (k := k) rfl (by rw [List.getElem?_map, List.getD_eq_getElem?_getD, List.getElem?_eq_getElem h]; rfl)
                  refine ⟨cs.map .int, rfl, fun p hp => ⟨(prsW f).length, by simp only [lenV, List.length_map], ⟨by omega, by omega⟩, ?_⟩⟩
                  rw [Int.toNat_natCast]
                  refine dForI_of (fun i γ M' => ∃ (ws1 : List (List Int)) (o6 o7 o8 : Option D), γ = [some (.int n), some (.tup (ps.map prD)), some (.tup [.str s, tupI cs, .tup wr]), some (tupI cs), some (.lst ((prsW f).map prD)), some (.ref p), o6, o7, o8] ∧ M' = mset M p (.lst ((cs ++ ws1.flatMap innW).map .int)) ∧ wr.take i = ws1.map tupI ∧ (cs ++ ws1.flatMap innW).Nodup ∧ (∀ (k : Nat) q us, (prsW f)[k]? = some q → ws1[k]? = some us → WayP n ps us (cs.getD q.1.toNat 0) (cs.getD q.2.toNat 0))) ⟨[], _, _, _, rfl, by simp, rfl, by simpa using cnd, fun k q us _ h => by simp at h⟩ ?_ ?_
                  · rintro i e γ M' he ⟨ws1, o6, o7, o8, rfl, rfl, htk, hnd, hwy⟩
                    obtain ⟨hi, rfl⟩ := rgD_get he
                    obtain ⟨r, hr⟩ : ∃ r, wr[i]? = some r := ⟨_, List.getElem?_eq_getElem (by omega)⟩
                    obtain ⟨q, hq⟩ : ∃ q, (prsW f)[i]? = some q := ⟨_, List.getElem?_eq_getElem hi⟩
                    obtain ⟨a, b, rfl, ha, hb⟩ := pv i q hq
                    have w1l : ws1.length = i := by
                      have := congrArg List.length htk
                      rw [List.length_take, List.length_map] at this
                      omega
                    have Tr := wt r (List.mem_of_getElem? hr)
                    have w1m : ∀ (k : Nat) (us : List Int), ws1[k]? = some us → us.length ≤ 60 := fun k us h => by
                      have hk := (List.getElem?_eq_some_iff.mp h).1
                      have h1 : (wr.take i)[k]? = some (tupI us) := by rw [htk, List.getElem?_map, h]; rfl
                      have := ((wt (tupI us) (List.mem_of_mem_take (List.mem_of_getElem? h1))).it _ rfl).1
                      rwa [List.length_map] at this
                    have f1 := inn_len w1m ws1.length (Nat.le_refl _)
                    rw [List.take_length] at f1
                    simp only [dSeq, dIfS, dFor, hName, dInsert, dVar, dC, dOp, dTest, dII, dIC, dFld, dFldS, dMake, dppNil, dppCons, dMerge, dDisp, dCatL, dExtend, dRg1, dLstRg, dChain, dEq, dAnd, dOr, dNot, dNext, dSeq, dDrop, dRet, dIfS, dNever, dFrzS, hName, hNil, hCons, hTup, hSub, dAsg, dNil, dCons, dTup, dLst, dLstM, dIx, dSet, dCall, dwipe, dYes, jSeq, jRng1, jRng2, dCB, dLen, dList, dListM, dTuple, dII2, dAbs, dInt, dBM0, dBM, dAppend, dPop, dPopAt, dAndV, dNotV, dNeg, dIn, dCat, dNoPart, dPart, dSl, dNewT, dIsi, dLc, dFor, dDc, dLenSetG, dLc2, dFrzE, dLcH, dKdIn, dKdIx, jZipM, if_true, if_false, ite_true, ite_false, Bool.false_eq_true, reduceIte, Bool.not_true, Bool.not_false, List.getElem?_cons_zero, List.getElem?_cons_succ, List.set_cons_zero, List.set_cons_succ, List.map_cons, List.map_nil, List.replicate, List.cons_append, List.nil_append, List.length_cons, List.length_nil, dstart]
                    refine ⟨_, g2 _, r, ixT_at (k := i) (by omega) hr, _, ixL_at (k := i) (by omega) (by rw [List.getElem?_map, hq]; rfl), _, ixT_at (k := 0) rfl rfl, _, gc _ a (by omega), _, ixL_at (k := i) (by omega) (by rw [List.getElem?_map, hq]; rfl), _, ixT_at (k := 1) rfl rfl, _, gc _ b (by omega), n, ps, r, _, _, rfl, ok, pl, Tr, fun hW => ?_, fun hW => ?_⟩
                    · obtain ⟨us, rfl, wp⟩ := hW
                      have us60 : us.length ≤ 60 := by have := (Tr.it _ rfl).1; rwa [List.length_map] at this
                      have inl : (innW us).length ≤ 60 := by unfold innW; simp; omega
                      simp only [if_true, if_false, ite_true, ite_false, Bool.false_eq_true, reduceIte, Bool.not_true, Bool.not_false, List.getElem?_cons_zero, List.getElem?_cons_succ, List.set_cons_zero, List.set_cons_succ, List.map_cons, List.map_nil, List.replicate, List.cons_append, List.nil_append, List.length_cons, List.length_nil, dstart, tupI]
                      rw [cut_inn wp.l2]
                      refine dForI_of (fun j γ M5 => ∃ o8 : Option D, γ = [some (.int n), some (.tup (ps.map prD)), some (.tup [.str s, .tup (cs.map .int), .tup wr]), some (.tup (cs.map .int)), some (.lst ((prsW f).map prD)), some (.ref p), some (.int (0 + (i : Int))), some (.tup (us.map .int)), o8] ∧ M5 = mset M p (.lst ((cs ++ ws1.flatMap innW ++ (innW us).take j).map .int)) ∧ (cs ++ ws1.flatMap innW ++ (innW us).take j).Nodup) ⟨_, rfl, by rw [List.take_zero, List.append_nil], by rw [List.take_zero, List.append_nil]; exact hnd⟩ ?_ ?_
                      · rintro j e1 γ M5 he1 ⟨o8', rfl, rfl, nd5⟩
                        obtain ⟨u, hu, rfl⟩ := get_int he1
                        have tl : ((innW us).take j).length ≤ 60 := by rw [List.length_take]; omega
                        simp only [dInsert, dVar, dC, dOp, dTest, dII, dIC, dFld, dFldS, dMake, dppNil, dppCons, dMerge, dDisp, dCatL, dExtend, dRg1, dLstRg, dChain, dEq, dAnd, dOr, dNot, dNext, dSeq, dDrop, dRet, dIfS, dNever, dFrzS, hName, hNil, hCons, hTup, hSub, dAsg, dNil, dCons, dTup, dLst, dLstM, dIx, dSet, dCall, dwipe, dYes, jSeq, jRng1, jRng2, dCB, dLen, dList, dListM, dTuple, dII2, dAbs, dInt, dBM0, dBM, dAppend, dPop, dPopAt, dAndV, dNotV, dNeg, dIn, dCat, dNoPart, dPart, dSl, dNewT, dIsi, dLc, dFor, dDc, dLenSetG, dLc2, dFrzE, dLcH, dKdIn, dKdIx, jZipM, if_true, if_false, ite_true, ite_false, Bool.false_eq_true, reduceIte, Bool.not_true, Bool.not_false, List.getElem?_cons_zero, List.getElem?_cons_succ, List.set_cons_zero, List.set_cons_succ, List.map_cons, List.map_nil, List.replicate, List.cons_append, List.nil_append, List.length_cons, List.length_nil, dstart]
                        refine ⟨_, inL_ref mset_same, ?_⟩
                        by_cases hm : u ∈ cs ++ ws1.flatMap innW ++ (innW us).take j
                        · rw [decide_eq_true hm, if_pos rfl]
                          refine fin_less (mset_le hp) (q2 (bad fun f2 cs2 ws2 e1 e2 e3 hb2 => ?_))
                          have ef := word_inj (hf.symm.trans e1)
                          subst ef
                          have ec := tupI_inj e2
                          subst ec
                          injection e3 with e3
                          subst e3
                          rw [← List.map_take] at htk
                          have ew := tups_inj htk
                          rw [List.getElem?_map, Option.map_eq_some_iff] at hr
                          obtain ⟨us2, hus2, eus⟩ := hr
                          have eus := tupI_inj eus
                          subst eus
                          have hnb := hb2.inn
                          rw [← List.take_append_drop (i + 1) ws2, take_succ_of hus2, ew, List.flatMap_append, List.flatMap_append] at hnb
                          have e7 : [us2].flatMap innW = innW us2 := by simp
                          rw [e7, ← List.take_append_drop (j + 1) (innW us2), take_succ_of hu] at hnb
                          have nn : (cs ++ ws1.flatMap innW ++ (innW us2).take j ++ [u]).Nodup := by
                            refine hnb.sublist ?_
                            simp only [List.append_assoc]
                            refine List.Sublist.append (List.Sublist.refl _) (List.Sublist.append (List.Sublist.refl _) (List.Sublist.append (List.Sublist.refl _) ?_))
                            exact List.singleton_sublist.mpr (by simp)
                          exact (List.nodup_append.mp nn).2.2 u hm u (by simp) rfl
                        · rw [decide_eq_false hm, if_neg (by decide)]
                          simp only [tyD, mset_same]
                          refine ⟨trivial, by rw [List.length_map, List.length_append, List.length_append, sizeLine_eq]; omega, _, rfl, ?_, ?_⟩
                          · rw [mset_mset, take_succ_of hu, ← List.append_assoc, List.map_append (l₁ := _ ++ _ ++ _)]
                            rfl
                          · rw [take_succ_of hu, ← List.append_assoc]
                            exact List.nodup_append.mpr ⟨nd5, by simp, fun x hx y hy e => hm (by rw [← List.mem_singleton.mp hy, ← e]; exact hx)⟩
                      · rintro γ M5 ⟨o8', rfl, rfl, nd5⟩
                        rw [List.length_map, List.take_length] at nd5 ⊢
                        have e7 : (ws1 ++ [us]).flatMap innW = ws1.flatMap innW ++ innW us := by rw [List.flatMap_append]; simp
                        refine ⟨ws1 ++ [us], _, _, _, rfl, by rw [e7, ← List.append_assoc], by rw [take_succ_of hr, htk, List.map_append]; rfl, by rw [e7, ← List.append_assoc]; exact nd5, fun k q us2 hq2 hu2 => ?_⟩
                        by_cases hk : k < i
                        · rw [List.getElem?_append_left (by omega)] at hu2
                          exact hwy k q us2 hq2 hu2
                        · have hkl := (List.getElem?_eq_some_iff.mp hu2).1
                          rw [List.length_append, List.length_singleton] at hkl
                          have : k = i := by omega
                          subst this
                          rw [List.getElem?_append_right (by omega), w1l, Nat.sub_self] at hu2
                          simp only [List.getElem?_cons_zero, Option.some.injEq] at hu2
                          subst hu2
                          rw [hq] at hq2
                          rw [← Option.some.inj hq2]
                          simpa using wp
                    · simp only [if_true, if_false, ite_true, ite_false, Bool.false_eq_true, reduceIte, Bool.not_true, Bool.not_false, List.getElem?_cons_zero, List.getElem?_cons_succ, List.set_cons_zero, List.set_cons_succ, List.map_cons, List.map_nil, List.replicate, List.cons_append, List.nil_append, List.length_cons, List.length_nil, dstart]
                      refine fin_less (mset_le hp) (q2 (bad fun f2 cs2 ws2 e1 e2 e3 hb2 => hW ?_))
                      have ef := word_inj (hf.symm.trans e1)
                      subst ef
                      have ec := tupI_inj e2
                      subst ec
                      injection e3 with e3
                      subst e3
                      rw [List.getElem?_map, Option.map_eq_some_iff] at hr
                      obtain ⟨us2, hus2, rfl⟩ := hr
                      have := hb2.way i _ us2 hq hus2
                      exact ⟨us2, rfl, by simpa using this⟩
                  · rintro γ M' ⟨ws1, o6, o7, o8, rfl, rfl, htk, hnd, hwy⟩
                    rw [rgD_len, ← wl, List.take_length] at htk
                    subst htk
                    rw [List.length_map] at wl
                    simp only [dInsert, dVar, dC, dOp, dTest, dII, dIC, dFld, dFldS, dMake, dppNil, dppCons, dMerge, dDisp, dCatL, dExtend, dRg1, dLstRg, dChain, dEq, dAnd, dOr, dNot, dNext, dSeq, dDrop, dRet, dIfS, dNever, dFrzS, hName, hNil, hCons, hTup, hSub, dAsg, dNil, dCons, dTup, dLst, dLstM, dIx, dSet, dCall, dwipe, dYes, jSeq, jRng1, jRng2, dCB, dLen, dList, dListM, dTuple, dII2, dAbs, dInt, dBM0, dBM, dAppend, dPop, dPopAt, dAndV, dNotV, dNeg, dIn, dCat, dNoPart, dPart, dSl, dNewT, dIsi, dLc, dFor, dDc, dLenSetG, dLc2, dFrzE, dLcH, dKdIn, dKdIx, jZipM, if_true, if_false, ite_true, ite_false, Bool.false_eq_true, reduceIte, Bool.not_true, Bool.not_false, List.getElem?_cons_zero, List.getElem?_cons_succ, List.set_cons_zero, List.set_cons_succ, List.map_cons, List.map_nil, List.replicate, List.cons_append, List.nil_append, List.length_cons, List.length_nil, dstart]
                    exact fin_less (mset_le hp) (q1 ⟨f, cs, ws1, by rw [hf]; rfl, cl, crg, wl, hwy, hnd⟩)
                · rw [if_pos (by simpa using (by omega : ¬ (wr.length : Int) = ((prsW f).length : Int)))]
                  refine fin_self (q2 (bad fun f2 cs2 ws2 e1 e2 e3 hb => wl ?_))
                  have := word_inj (hf.symm.trans e1)
                  subst this
                  injection e3 with e3
                  rw [e3, List.length_map]; exact hb.wl
              · obtain ⟨Tn, hT⟩ := Option.isSome_iff_exists.mp (Ty.ty M)
                refine ⟨Tn, hT, ?_⟩
                rw [ntup Ty.nk (fun l e => hy ⟨l, e⟩) hT, if_pos (by decide)]
                exact fin_self (q2 (bad fun f2 cs2 ws2 e1 e2 e3 hb => hy ⟨_, e3⟩))
            · rw [if_pos (by simpa using (by omega : ¬ (cs.length : Int) = (corW f : Int)))]
              refine fin_self (q2 (bad fun f2 cs2 ws2 e1 e2 e3 hb => cl ?_))
              have := word_inj (hf.symm.trans e1)
              subst this
              rw [tupI_inj e2]; exact hb.cl
          · simp only [if_true, if_false, ite_true, ite_false, Bool.false_eq_true, reduceIte, Bool.not_true, Bool.not_false, List.getElem?_cons_zero, List.getElem?_cons_succ, List.set_cons_zero, List.set_cons_succ, List.map_cons, List.map_nil, List.replicate, List.cons_append, List.nil_append, List.length_cons, List.length_nil, dstart]
            refine fin_self (q2 (bad fun f2 cs2 ws2 e1 e2 e3 hb => hU ⟨cs2, e2, (List.nodup_append.mp hb.inn).1, hb.rg⟩))
        · refine ⟨false, nin_word hf (Tw2 s rfl), ?_⟩
          rw [if_pos (by decide)]
          exact fin_self (q2 (bad fun f2 cs2 ws2 e1 e2 e3 hb => hf ⟨f2, e1⟩))
      · obtain ⟨Tn, hT⟩ := Option.isSome_iff_exists.mp (Tw M)
        refine ⟨Tn, hT, ?_⟩
        rw [nstr_ty (fun s e => hw ⟨s, e⟩) hT, if_pos (by decide)]
        refine fin_self (q2 (bad fun f2 cs2 ws2 e1 e2 e3 hb => hw ?_))
        cases f2 <;> exact ⟨_, e1⟩
    · rw [if_pos (by simp; omega)]
      exact fin_self (q2 fun ⟨f, cs, ws, e, _⟩ => by unfold barD at e; injection e with e; rw [e] at l3; exact l3 rfl)
  · obtain ⟨Tn, hT⟩ := Option.isSome_iff_exists.mp (T.ty M)
    refine ⟨Tn, hT, ?_⟩
    rw [ntup T.nk (fun l e => hx ⟨l, e⟩) hT, if_pos (by decide)]
    exact fin_self (q2 fun ⟨f, cs, ws, e, _⟩ => hx ⟨_, e⟩)
theorem sc__law_odd : FnScope ["_law_dice_here", "_law_size"] ["_law_dice_here", "_law_size"] (defScope s__law_odd) := ⟨rfl, rfl, rfl, by decide +kernel, rfl, by decide +kernel, by decide +kernel⟩
def sp__law_odd : DSp := fun ds M Q _ => ∃ (p : Addr) (n : Int), ds = [.ref p, .int n] ∧ DiL M p ∧ ∀ y M2, Ty y → DiL M2 p → Ext M M2 [p] → Q y M2
theorem c__law_odd (F : DFun K mg "_law_odd" s__law_odd ["_law_dice_here", "_law_size"]) (B : Bn mg) (G : Gs mg) (c__law_draw : DCal P w K mg base CX0 1 "_law_draw" sp__law_draw) : DCal P w K mg base CX0 2 "_law_odd" sp__law_odd := by
  refine dok F sc__law_odd (fun ds M Q E h => (by obtain ⟨_, h⟩ := h; first | (obtain ⟨e, _⟩ := h; subst e; rfl) | (obtain ⟨_, e, _⟩ := h; subst e; rfl) | (obtain ⟨_, _, e, _⟩ := h; subst e; rfl) | (obtain ⟨_, _, _, e, _⟩ := h; subst e; rfl) | (obtain ⟨_, _, _, _, e, _⟩ := h; subst e; rfl) | (obtain ⟨_, _, _, _, _, e, _⟩ := h; subst e; rfl) | (obtain ⟨_, _, _, _, _, _, e, _⟩ := h; subst e; rfl) | (obtain ⟨_, _, _, _, _, _, _, e, _⟩ := h; subst e; rfl) | (obtain ⟨_, _, _, _, _, _, _, _, e, _⟩ := h; subst e; rfl) | (obtain ⟨_, _, _, _, _, _, _, _, _, e, _⟩ := h; subst e; rfl) | (obtain ⟨_, _, _, _, _, _, _, _, _, _, e, _⟩ := h; subst e; rfl) | (obtain ⟨_, _, _, _, _, _, _, _, _, _, _, e, _⟩ := h; subst e; rfl) | (obtain ⟨_, _, _, _, _, _, _, _, _, _, _, _, e, _⟩ := h; subst e; rfl) | (obtain ⟨_, _, _, _, _, _, _, _, _, _, _, _, _, e, _⟩ := h; subst e; rfl) | (obtain ⟨_, _, _, _, _, _, _, _, _, _, _, _, _, _, e, _⟩ := h; subst e; rfl) | (obtain ⟨_, _, _, _, _, _, _, _, _, _, _, _, _, _, _, e, _⟩ := h; subst e; rfl) | (obtain ⟨_, _, _, _, _, _, _, _, _, _, _, _, _, _, _, _, e, _⟩ := h; subst e; rfl) | (obtain ⟨_, _, _, _, _, _, _, _, _, _, _, _, _, _, _, _, _, e, _⟩ := h; subst e; rfl) | (obtain ⟨_, _, _, _, _, _, _, _, _, _, _, _, _, _, _, _, _, _, e, _⟩ := h; subst e; rfl) | (obtain ⟨_, _, _, _, _, _, _, _, _, _, _, _, _, _, _, _, _, _, _, e, _⟩ := h; subst e; rfl) | (obtain ⟨_, _, _, _, _, _, _, _, _, _, _, _, _, _, _, _, _, _, _, _, e, _⟩ := h; subst e; rfl) | (obtain ⟨_, _, _, _, _, _, _, _, _, _, _, _, _, _, _, _, _, _, _, _, _, e, _⟩ := h; subst e; rfl) | (obtain ⟨_, _, _, _, _, _, _, _, _, _, _, _, _, _, _, _, _, _, _, _, _, _, e, _⟩ := h; subst e; rfl) | (obtain ⟨_, _, _, _, _, _, _, _, _, _, _, _, _, _, _, _, _, _, _, _, _, _, _, e, _⟩ := h; subst e; rfl) | (obtain ⟨_, _, _, _, _, _, _, _, _, _, _, _, _, _, _, _, _, _, _, _, _, _, _, _, e, _⟩ := h; subst e; rfl) | (obtain ⟨_, _, _, _, _, _, _, _, _, _, _, _, _, _, _, _, _, _, _, _, _, _, _, _, _, e, _⟩ := h; subst e; rfl))) (fun f cdv A outer s H E F0 hr => ?_)
  have nd := (sc__law_odd).nd
  refine ⟨_, _, (db_one (ds_ret (de_ix hr (de_lst (da_cons de_non (da_cons de_bl (da_cons de_bl (da_cons de_str (da_cons (de_neg de_int) (da_cons (de_var 1) (da_cons (de_pow de_int de_int) (da_cons (de_tup (da_cons de_int da_nil)) (da_cons (de_lst (da_cons de_int da_nil)) (da_cons de_str da_nil))))))))))) (de_call c__law_draw hr (goes0A (E := DXK.no)) (da_cons (de_var 0) (da_cons de_int da_nil)))))), ?_⟩
  rintro ds M Q E ⟨p, n, rfl, hp, q⟩
  simp only [dInsert, dVar, dC, dOp, dTest, dII, dIC, dFld, dFldS, dMake, dppNil, dppCons, dMerge, dDisp, dCatL, dExtend, dRg1, dLstRg, dChain, dEq, dAnd, dOr, dNot, dNext, dSeq, dDrop, dRet, dIfS, dNever, dFrzS, hName, hNil, hCons, hTup, hSub, dAsg, dNil, dCons, dTup, dLst, dLstM, dIx, dSet, dCall, dwipe, dYes, jSeq, jRng1, jRng2, dCB, dLen, dList, dListM, dTuple, dII2, dAbs, dInt, dBM0, dBM, dAppend, dPop, dPopAt, dAndV, dNotV, dNeg, dIn, dCat, dNoPart, dPart, dSl, dNewT, dIsi, dLc, dFor, dDc, dLenSetG, dLc2, dFrzE, dLcH, dKdIn, dKdIx, jZipM, if_true, if_false, ite_true, ite_false, Bool.false_eq_true, reduceIte, Bool.not_true, Bool.not_false, List.getElem?_cons_zero, List.getElem?_cons_succ, List.set_cons_zero, List.set_cons_succ, List.map_cons, List.map_nil, List.replicate, List.cons_append, List.nil_append, List.length_cons, List.length_nil, dstart]
  refine ⟨by unfold CPow; decide +kernel, by decide, by decide, by decide, p, 10, rfl, hp, by decide, by decide, fun r M2 r0 r1 d2 a2 => ?_⟩
  have fin1 : ∀ d : D, Ty d → fin Q d M2 := fun d h => fin_self (q d M2 h d2 a2.ext)
  rcases (by omega : r = 0 ∨ r = 1 ∨ r = 2 ∨ r = 3 ∨ r = 4 ∨ r = 5 ∨ r = 6 ∨ r = 7 ∨ r = 8 ∨ r = 9) with rfl | rfl | rfl | rfl | rfl | rfl | rfl | rfl | rfl | rfl
  · exact ⟨_, ixL_at (k := 0) rfl rfl, fin1 _ fun _ => rfl⟩
  · exact ⟨_, ixL_at (k := 1) rfl rfl, fin1 _ fun _ => rfl⟩
  · exact ⟨_, ixL_at (k := 2) rfl rfl, fin1 _ fun _ => rfl⟩
  · exact ⟨_, ixL_at (k := 3) rfl rfl, fin1 _ fun _ => rfl⟩
  · exact ⟨_, ixL_at (k := 4) rfl rfl, fin1 _ fun _ => rfl⟩
  · exact ⟨_, ixL_at (k := 5) rfl rfl, fin1 _ fun _ => rfl⟩
  · exact ⟨_, ixL_at (k := 6) rfl rfl, fin1 _ fun _ => rfl⟩
  · exact ⟨_, ixL_at (k := 7) rfl rfl, fin1 _ fun _ => rfl⟩
  · exact ⟨_, ixL_at (k := 8) rfl rfl, fin1 _ fun _ => rfl⟩
  · exact ⟨_, ixL_at (k := 9) rfl rfl, fin1 _ fun _ => rfl⟩
theorem sc__law_set : FnScope ["_law_row", "_law_at", "_law_thing"] ["_law_row", "_law_at", "_law_thing"] (defScope s__law_set) := ⟨rfl, rfl, rfl, by decide +kernel, rfl, by decide +kernel, by decide +kernel⟩
def sp__law_set : DSp := fun ds M Q _ => ∃ (xs : List D) (i : Int) (y : D), ds = [.tup xs, .int i, y] ∧ 0 ≤ i ∧ i < xs.length ∧ xs.length ≤ 1000 ∧ Q (.tup (xs.take i.toNat ++ [y] ++ xs.drop (i.toNat + 1))) M
theorem c__law_set (F : DFun K mg "_law_set" s__law_set ["_law_row", "_law_at", "_law_thing"]) (B : Bn mg) (G : Gs mg)  : DCal P w K mg base CX0 1 "_law_set" sp__law_set := by
  refine dok F sc__law_set (fun ds M Q E h => (by obtain ⟨_, h⟩ := h; first | (obtain ⟨e, _⟩ := h; subst e; rfl) | (obtain ⟨_, e, _⟩ := h; subst e; rfl) | (obtain ⟨_, _, e, _⟩ := h; subst e; rfl) | (obtain ⟨_, _, _, e, _⟩ := h; subst e; rfl) | (obtain ⟨_, _, _, _, e, _⟩ := h; subst e; rfl) | (obtain ⟨_, _, _, _, _, e, _⟩ := h; subst e; rfl) | (obtain ⟨_, _, _, _, _, _, e, _⟩ := h; subst e; rfl) | (obtain ⟨_, _, _, _, _, _, _, e, _⟩ := h; subst e; rfl) | (obtain ⟨_, _, _, _, _, _, _, _, e, _⟩ := h; subst e; rfl) | (obtain ⟨_, _, _, _, _, _, _, _, _, e, _⟩ := h; subst e; rfl) | (obtain ⟨_, _, _, _, _, _, _, _, _, _, e, _⟩ := h; subst e; rfl) | (obtain ⟨_, _, _, _, _, _, _, _, _, _, _, e, _⟩ := h; subst e; rfl) | (obtain ⟨_, _, _, _, _, _, _, _, _, _, _, _, e, _⟩ := h; subst e; rfl) | (obtain ⟨_, _, _, _, _, _, _, _, _, _, _, _, _, e, _⟩ := h; subst e; rfl) | (obtain ⟨_, _, _, _, _, _, _, _, _, _, _, _, _, _, e, _⟩ := h; subst e; rfl) | (obtain ⟨_, _, _, _, _, _, _, _, _, _, _, _, _, _, _, e, _⟩ := h; subst e; rfl) | (obtain ⟨_, _, _, _, _, _, _, _, _, _, _, _, _, _, _, _, e, _⟩ := h; subst e; rfl) | (obtain ⟨_, _, _, _, _, _, _, _, _, _, _, _, _, _, _, _, _, e, _⟩ := h; subst e; rfl) | (obtain ⟨_, _, _, _, _, _, _, _, _, _, _, _, _, _, _, _, _, _, e, _⟩ := h; subst e; rfl) | (obtain ⟨_, _, _, _, _, _, _, _, _, _, _, _, _, _, _, _, _, _, _, e, _⟩ := h; subst e; rfl) | (obtain ⟨_, _, _, _, _, _, _, _, _, _, _, _, _, _, _, _, _, _, _, _, e, _⟩ := h; subst e; rfl) | (obtain ⟨_, _, _, _, _, _, _, _, _, _, _, _, _, _, _, _, _, _, _, _, _, e, _⟩ := h; subst e; rfl) | (obtain ⟨_, _, _, _, _, _, _, _, _, _, _, _, _, _, _, _, _, _, _, _, _, _, e, _⟩ := h; subst e; rfl) | (obtain ⟨_, _, _, _, _, _, _, _, _, _, _, _, _, _, _, _, _, _, _, _, _, _, _, e, _⟩ := h; subst e; rfl) | (obtain ⟨_, _, _, _, _, _, _, _, _, _, _, _, _, _, _, _, _, _, _, _, _, _, _, _, e, _⟩ := h; subst e; rfl) | (obtain ⟨_, _, _, _, _, _, _, _, _, _, _, _, _, _, _, _, _, _, _, _, _, _, _, _, _, e, _⟩ := h; subst e; rfl))) (fun f cdv A outer s H E F0 hr => ?_)
  have nd := (sc__law_set).nd
  refine ⟨_, _, (db_one (ds_ret (de_cat (de_cat (de_slice (de_var 0) do_none (do_some (de_var 1))) (de_tup (da_cons (de_var 2) da_nil))) (de_slice (de_var 0) (do_some (de_add (de_var 1) de_int)) do_none)))), ?_⟩
  rintro ds M Q E ⟨xs, i, y, rfl, i0, i1, xl, q⟩
  simp only [dInsert, dVar, dC, dOp, dTest, dII, dIC, dFld, dFldS, dMake, dppNil, dppCons, dMerge, dDisp, dCatL, dExtend, dRg1, dLstRg, dChain, dEq, dAnd, dOr, dNot, dNext, dSeq, dDrop, dRet, dIfS, dNever, dFrzS, hName, hNil, hCons, hTup, hSub, dAsg, dNil, dCons, dTup, dLst, dLstM, dIx, dSet, dCall, dwipe, dYes, jSeq, jRng1, jRng2, dCB, dLen, dList, dListM, dTuple, dII2, dAbs, dInt, dBM0, dBM, dAppend, dPop, dPopAt, dAndV, dNotV, dNeg, dIn, dCat, dNoPart, dPart, dSl, dNewT, dIsi, dLc, dFor, dDc, dLenSetG, dLc2, dFrzE, dLcH, dKdIn, dKdIx, jZipM, if_true, if_false, ite_true, ite_false, Bool.false_eq_true, reduceIte, Bool.not_true, Bool.not_false, List.getElem?_cons_zero, List.getElem?_cons_succ, List.set_cons_zero, List.set_cons_succ, List.map_cons, List.map_nil, List.replicate, List.cons_append, List.nil_append, List.length_cons, List.length_nil, dstart]
  rw [cutTI i0 (by omega), cutDI (i := i + 1) (by omega) (by omega), show (i + 1).toNat = i.toNat + 1 by omega]
  refine ⟨by decide, len_ok (by rw [List.length_take]; omega), len_ok (by rw [List.length_append, List.length_take, List.length_drop]; simp; omega), fin_self q⟩
theorem sc__law_corners_changed : FnScope ["_law_dice_here", "_law_size", "_law_corners", "_law_kind", "_law_at", "_law_other"] ["_law_dice_here", "_law_size", "_law_corners"] (defScope s__law_corners_changed) := ⟨rfl, rfl, rfl, by decide +kernel, rfl, by decide +kernel, by decide +kernel⟩
def sp__law_corners_changed : DSp := fun ds M Q _ => ∃ (p : Addr) (n : Int) (us : List Int), ds = [.ref p, .int n, tupI us] ∧ 1 ≤ n ∧ n ≤ 8 ∧ 2 ≤ us.length ∧ us.length ≤ 8 ∧ DiL M p ∧ ∀ y M2, RowT y → DiL M2 p → Ext M M2 [p] → Q y M2
theorem c__law_corners_changed (F : DFun K mg "_law_corners_changed" s__law_corners_changed ["_law_dice_here", "_law_size", "_law_corners"]) (B : Bn mg) (G : Gs mg) (c__law_draw : DCal P w K mg base CX0 1 "_law_draw" sp__law_draw) (c__law_odd : DCal P w K mg base CX0 2 "_law_odd" sp__law_odd) (c__law_set : DCal P w K mg base CX0 1 "_law_set" sp__law_set) : DCal P w K mg base CX0 3 "_law_corners_changed" sp__law_corners_changed := by
  refine dok F sc__law_corners_changed (fun ds M Q E h => (by obtain ⟨_, h⟩ := h; first | (obtain ⟨e, _⟩ := h; subst e; rfl) | (obtain ⟨_, e, _⟩ := h; subst e; rfl) | (obtain ⟨_, _, e, _⟩ := h; subst e; rfl) | (obtain ⟨_, _, _, e, _⟩ := h; subst e; rfl) | (obtain ⟨_, _, _, _, e, _⟩ := h; subst e; rfl) | (obtain ⟨_, _, _, _, _, e, _⟩ := h; subst e; rfl) | (obtain ⟨_, _, _, _, _, _, e, _⟩ := h; subst e; rfl) | (obtain ⟨_, _, _, _, _, _, _, e, _⟩ := h; subst e; rfl) | (obtain ⟨_, _, _, _, _, _, _, _, e, _⟩ := h; subst e; rfl) | (obtain ⟨_, _, _, _, _, _, _, _, _, e, _⟩ := h; subst e; rfl) | (obtain ⟨_, _, _, _, _, _, _, _, _, _, e, _⟩ := h; subst e; rfl) | (obtain ⟨_, _, _, _, _, _, _, _, _, _, _, e, _⟩ := h; subst e; rfl) | (obtain ⟨_, _, _, _, _, _, _, _, _, _, _, _, e, _⟩ := h; subst e; rfl) | (obtain ⟨_, _, _, _, _, _, _, _, _, _, _, _, _, e, _⟩ := h; subst e; rfl) | (obtain ⟨_, _, _, _, _, _, _, _, _, _, _, _, _, _, e, _⟩ := h; subst e; rfl) | (obtain ⟨_, _, _, _, _, _, _, _, _, _, _, _, _, _, _, e, _⟩ := h; subst e; rfl) | (obtain ⟨_, _, _, _, _, _, _, _, _, _, _, _, _, _, _, _, e, _⟩ := h; subst e; rfl) | (obtain ⟨_, _, _, _, _, _, _, _, _, _, _, _, _, _, _, _, _, e, _⟩ := h; subst e; rfl) | (obtain ⟨_, _, _, _, _, _, _, _, _, _, _, _, _, _, _, _, _, _, e, _⟩ := h; subst e; rfl) | (obtain ⟨_, _, _, _, _, _, _, _, _, _, _, _, _, _, _, _, _, _, _, e, _⟩ := h; subst e; rfl) | (obtain ⟨_, _, _, _, _, _, _, _, _, _, _, _, _, _, _, _, _, _, _, _, e, _⟩ := h; subst e; rfl) | (obtain ⟨_, _, _, _, _, _, _, _, _, _, _, _, _, _, _, _, _, _, _, _, _, e, _⟩ := h; subst e; rfl) | (obtain ⟨_, _, _, _, _, _, _, _, _, _, _, _, _, _, _, _, _, _, _, _, _, _, e, _⟩ := h; subst e; rfl) | (obtain ⟨_, _, _, _, _, _, _, _, _, _, _, _, _, _, _, _, _, _, _, _, _, _, _, e, _⟩ := h; subst e; rfl) | (obtain ⟨_, _, _, _, _, _, _, _, _, _, _, _, _, _, _, _, _, _, _, _, _, _, _, _, e, _⟩ := h; subst e; rfl) | (obtain ⟨_, _, _, _, _, _, _, _, _, _, _, _, _, _, _, _, _, _, _, _, _, _, _, _, _, e, _⟩ := h; subst e; rfl))) (fun f cdv A outer s H E F0 hr => ?_)
  have nd := (sc__law_corners_changed).nd
  refine ⟨_, _, (db_cons (ds_set 3 nd (de_call c__law_draw hr (goes0A (E := DXK.no)) (da_cons (de_var 0) (da_cons de_int da_nil))))
      (db_cons (ds_set 4 nd (de_call c__law_draw hr (goes0A (E := DXK.no)) (da_cons (de_var 0) (da_cons (de_len B.len (da_cons (de_var 2) da_nil)) da_nil))))
      (db_cons (ds_set 5 nd (de_mod (de_bty call_int1 lc_int B.int (da_cons (de_cat (de_add (de_var 4) de_int) (de_call c__law_draw hr (goes0A (E := DXK.no)) (da_cons (de_var 0) (da_cons (de_sub (de_len B.len (da_cons (de_var 2) da_nil)) de_int) da_nil)))) da_nil)) (de_len B.len (da_cons (de_var 2) da_nil))))
      (db_cons (ds_if (dt_eq hr (de_var 3) de_int) (db_one (ds_ret (de_call c__law_set hr (goes0A (E := DXK.no)) (da_cons (de_var 2) (da_cons (de_var 4) (da_cons (de_call c__law_draw hr (goes0A (E := DXK.no)) (da_cons (de_var 0) (da_cons (de_var 1) da_nil))) da_nil)))))) db_nil)
      (db_cons (ds_if (dt_eq hr (de_var 3) de_int) (db_one (ds_ret (de_call c__law_set hr (goes0A (E := DXK.no)) (da_cons (de_var 2) (da_cons (de_var 4) (da_cons (de_call c__law_odd hr (goes0A (E := DXK.no)) (da_cons (de_var 0) (da_cons (de_var 1) da_nil))) da_nil)))))) db_nil)
      (db_cons (ds_if (dt_eq hr (de_var 3) de_int) (db_one (ds_ret (de_call c__law_set hr (goes0A (E := DXK.no)) (da_cons (de_call c__law_set hr (goes0A (E := DXK.no)) (da_cons (de_var 2) (da_cons (de_var 4) (da_cons (de_ix hr (de_var 2) (de_var 5)) da_nil)))) (da_cons (de_var 5) (da_cons (de_ix hr (de_var 2) (de_var 4)) da_nil)))))) db_nil)
      (db_cons (ds_if (dt_eq hr (de_var 3) de_int) (db_one (ds_ret (de_cat (de_slice (de_var 2) do_none (do_some (de_var 4))) (de_slice (de_var 2) (do_some (de_add (de_var 4) de_int)) do_none)))) db_nil)
      (db_cons (ds_if (dt_eq hr (de_var 3) de_int) (db_one (ds_ret (de_cat (de_cat (de_slice (de_var 2) do_none (do_some (de_var 4))) (de_tup (da_cons (de_call c__law_draw hr (goes0A (E := DXK.no)) (da_cons (de_var 0) (da_cons (de_var 1) da_nil))) da_nil))) (de_slice (de_var 2) (do_some (de_var 4)) do_none)))) db_nil)
      (db_one (ds_ret (de_ix hr (de_lst (da_cons (de_bty (call_listA rfl) lc_list B.list (da_cons (de_var 2) da_nil)) (da_cons (de_tup da_nil) (da_cons de_non (da_cons (de_len B.len (da_cons (de_var 2) da_nil)) da_nil))))) (de_call c__law_draw hr (goes0A (E := DXK.no)) (da_cons (de_var 0) (da_cons de_int da_nil)))))))))))))), ?_⟩
  rintro ds M Q E ⟨p, n, us, rfl, n1, n8, u2, u8, hp, q⟩
  simp only [dInsert, dVar, dC, dOp, dTest, dII, dIC, dFld, dFldS, dMake, dppNil, dppCons, dMerge, dDisp, dCatL, dExtend, dRg1, dLstRg, dChain, dEq, dAnd, dOr, dNot, dNext, dSeq, dDrop, dRet, dIfS, dNever, dFrzS, hName, hNil, hCons, hTup, hSub, dAsg, dNil, dCons, dTup, dLst, dLstM, dIx, dSet, dCall, dwipe, dYes, jSeq, jRng1, jRng2, dCB, dLen, dList, dListM, dTuple, dII2, dAbs, dInt, dBM0, dBM, dAppend, dPop, dPopAt, dAndV, dNotV, dNeg, dIn, dCat, dNoPart, dPart, dSl, dNewT, dIsi, dLc, dFor, dDc, dLenSetG, dLc2, dFrzE, dLcH, dKdIn, dKdIx, jZipM, if_true, if_false, ite_true, ite_false, Bool.false_eq_true, reduceIte, Bool.not_true, Bool.not_false, List.getElem?_cons_zero, List.getElem?_cons_succ, List.set_cons_zero, List.set_cons_succ, List.map_cons, List.map_nil, List.replicate, List.cons_append, List.nil_append, List.length_cons, List.length_nil, dstart]
  refine ⟨p, 6, rfl, hp, by decide, by decide, fun k M1 k0 k1 d1 a1 => ⟨us.length, by simp only [tupI, lenV, List.length_map], p, _, rfl, d1, by omega, by omega, fun at_ M2 t0 t1 d2 a2 => ⟨us.length, by simp only [tupI, lenV, List.length_map], p, _, rfl, d2, by omega, by omega, fun c M3 c0 c1 d3 a3 => ?_⟩⟩⟩
  have E3 : Ext M M3 [p] := (a1.ext.trans a2.ext).trans a3.ext
  dsimp only
  refine ⟨us.length, by simp only [tupI, lenV, List.length_map], by omega, ?_⟩
  obtain ⟨w0, w1⟩ := wrap_in (n := us.length) (x := at_) (y := c) (by omega)
  generalize (at_ + 1 + c) % (us.length : Int) = ot at w0 w1 ⊢
  have ml : (us.map D.int).length = us.length := List.length_map _
  refine ⟨rfl, rfl, ?_⟩
  by_cases h0 : k = 0
  · rw [if_pos (eqI_t h0)]
    exact ⟨p, n, rfl, d3, by omega, by omega, fun z M4 z0 z1 d4 a4 => ⟨_, _, _, rfl, t0, by omega, by omega, fin_self (q _ M4 (rowT_tup (by simp; omega) (cut_all (ints_ty us) fun y hy => by rw [List.mem_singleton.mp hy]; exact tyI z)) d4 (E3.trans a4.ext))⟩⟩
  rw [if_neg (by rw [eqI_f h0]; decide)]
  refine ⟨rfl, rfl, ?_⟩
  by_cases h1 : k = 1
  · rw [if_pos (eqI_t h1)]
    exact ⟨p, n, rfl, d3, fun y M4 hy d4 E4 => ⟨_, _, _, rfl, t0, by omega, by omega, fin_self (q _ M4 (rowT_tup (by simp; omega) (cut_all (ints_ty us) fun z hz => by rw [List.mem_singleton.mp hz]; exact hy)) d4 (E3.trans E4))⟩⟩
  rw [if_neg (by rw [eqI_f h1]; decide)]
  refine ⟨rfl, rfl, ?_⟩
  have at1 : ∀ (z : Int), 0 ≤ z → z < us.length → ∀ M, dIxV M (tupI us) (.int z) = some (.int (us.getD z.toNat 0)) := fun z z0 z1 M => ixT_at (k := z.toNat) (by omega) (by rw [List.getElem?_map, at_getD (by omega)]; rfl)
  by_cases h2 : k = 2
  · rw [if_pos (eqI_t h2)]
    refine ⟨_, at1 ot w0 w1 _, _, _, _, rfl, t0, by omega, by omega, ?_⟩
    dsimp only
    have cl1 : ((us.map D.int).take at_.toNat ++ [D.int (us.getD ot.toNat 0)] ++ (us.map D.int).drop (at_.toNat + 1)).length = us.length := by
      rw [List.length_append, List.length_append, List.length_take, List.length_drop]; simp; omega
    exact ⟨_, at1 at_ t0 t1 _, _, _, _, rfl, w0, by omega, by omega, fin_self (q _ M3 (rowT_tup (by simp; omega) (cut_all (cut_all (ints_ty us) fun y hy => by rw [List.mem_singleton.mp hy]; exact tyI _) fun y hy => by rw [List.mem_singleton.mp hy]; exact tyI _)) d3 E3)⟩
  rw [if_neg (by rw [eqI_f h2]; decide)]
  refine ⟨rfl, rfl, ?_⟩
  by_cases h3 : k = 3
  · rw [if_pos (eqI_t h3)]
    simp only [tupI]
    rw [cutTI t0 (by omega), cutDI (i := at_ + 1) (by omega) (by omega)]
    refine ⟨len_ok (by rw [List.length_take, List.length_drop]; omega), fin_self (q _ M3 (rowT_tup (by simp; omega) ?_) d3 E3)⟩
    have := cut_all (ints_ty us) (i := at_.toNat) (j := (at_ + 1).toNat) (m := []) fun y hy => by cases hy
    rwa [List.append_nil] at this
  rw [if_neg (by rw [eqI_f h3]; decide)]
  refine ⟨rfl, rfl, ?_⟩
  by_cases h4 : k = 4
  · rw [if_pos (eqI_t h4)]
    simp only [tupI]
    rw [cutTI t0 (by omega), cutDI t0 (by omega)]
    refine ⟨p, n, rfl, d3, by omega, by omega, fun z M4 z0 z1 d4 a4 => ⟨by decide, len_ok (by rw [List.length_take]; simp; omega), len_ok (by rw [List.length_append, List.length_take, List.length_drop]; simp; omega), fin_self (q _ M4 (rowT_tup (by simp; omega) (cut_all (ints_ty us) fun y hy => by rw [List.mem_singleton.mp hy]; exact tyI z)) d4 (E3.trans a4.ext))⟩⟩
  rw [if_neg (by rw [eqI_f h4]; decide)]
  refine ⟨us.map .int, rfl, by decide, us.length, by simp only [tupI, lenV, List.length_map], by decide, p, 4, rfl, d3, by decide, by decide, fun r M4 r0 r1 d4 a4 => ?_⟩
  have fin2 : ∀ d : D, RowT d → fin Q d M4 := fun d h => fin_self (q d M4 h d4 (E3.trans a4.ext))
  rcases (by omega : r = 0 ∨ r = 1 ∨ r = 2 ∨ r = 3) with rfl | rfl | rfl | rfl
  · exact ⟨_, ixL_at (k := 0) rfl rfl, fin2 _ (rowT_of (fun _ => rfl) (fun l e => by cases e) fun l e => by cases e)⟩
  · exact ⟨_, ixL_at (k := 1) rfl rfl, fin2 _ (rowT_tup (by decide) fun y hy => by cases hy)⟩
  · exact ⟨_, ixL_at (k := 2) rfl rfl, fin2 _ (rowT_of (fun _ => rfl) (fun l e => by cases e) fun l e => by cases e)⟩
  · exact ⟨_, ixL_at (k := 3) rfl rfl, fin2 _ (rowT_int _)⟩
theorem sc__law_way_changed : FnScope ["_law_dice_here", "_law_size", "_law_way", "_law_kind", "_law_place", "_law_content"] ["_law_dice_here", "_law_size", "_law_way"] (defScope s__law_way_changed) := ⟨rfl, rfl, rfl, by decide +kernel, rfl, by decide +kernel, by decide +kernel⟩
def sp__law_way_changed : DSp := fun ds M Q _ => ∃ (p : Addr) (n : Int) (us : List Int), ds = [.ref p, .int n, tupI us] ∧ 1 ≤ n ∧ n ≤ 8 ∧ 2 ≤ us.length ∧ us.length ≤ 8 ∧ DiL M p ∧ ∀ y M2, RowT y → DiL M2 p → Ext M M2 [p] → Q y M2
theorem c__law_way_changed (F : DFun K mg "_law_way_changed" s__law_way_changed ["_law_dice_here", "_law_size", "_law_way"]) (B : Bn mg) (G : Gs mg) (c__law_draw : DCal P w K mg base CX0 1 "_law_draw" sp__law_draw) (c__law_odd : DCal P w K mg base CX0 2 "_law_odd" sp__law_odd) (c__law_set : DCal P w K mg base CX0 1 "_law_set" sp__law_set) : DCal P w K mg base CX0 3 "_law_way_changed" sp__law_way_changed := by
  refine dok F sc__law_way_changed (fun ds M Q E h => (by obtain ⟨_, h⟩ := h; first | (obtain ⟨e, _⟩ := h; subst e; rfl) | (obtain ⟨_, e, _⟩ := h; subst e; rfl) | (obtain ⟨_, _, e, _⟩ := h; subst e; rfl) | (obtain ⟨_, _, _, e, _⟩ := h; subst e; rfl) | (obtain ⟨_, _, _, _, e, _⟩ := h; subst e; rfl) | (obtain ⟨_, _, _, _, _, e, _⟩ := h; subst e; rfl) | (obtain ⟨_, _, _, _, _, _, e, _⟩ := h; subst e; rfl) | (obtain ⟨_, _, _, _, _, _, _, e, _⟩ := h; subst e; rfl) | (obtain ⟨_, _, _, _, _, _, _, _, e, _⟩ := h; subst e; rfl) | (obtain ⟨_, _, _, _, _, _, _, _, _, e, _⟩ := h; subst e; rfl) | (obtain ⟨_, _, _, _, _, _, _, _, _, _, e, _⟩ := h; subst e; rfl) | (obtain ⟨_, _, _, _, _, _, _, _, _, _, _, e, _⟩ := h; subst e; rfl) | (obtain ⟨_, _, _, _, _, _, _, _, _, _, _, _, e, _⟩ := h; subst e; rfl) | (obtain ⟨_, _, _, _, _, _, _, _, _, _, _, _, _, e, _⟩ := h; subst e; rfl) | (obtain ⟨_, _, _, _, _, _, _, _, _, _, _, _, _, _, e, _⟩ := h; subst e; rfl) | (obtain ⟨_, _, _, _, _, _, _, _, _, _, _, _, _, _, _, e, _⟩ := h; subst e; rfl) | (obtain ⟨_, _, _, _, _, _, _, _, _, _, _, _, _, _, _, _, e, _⟩ := h; subst e; rfl) | (obtain ⟨_, _, _, _, _, _, _, _, _, _, _, _, _, _, _, _, _, e, _⟩ := h; subst e; rfl) | (obtain ⟨_, _, _, _, _, _, _, _, _, _, _, _, _, _, _, _, _, _, e, _⟩ := h; subst e; rfl) | (obtain ⟨_, _, _, _, _, _, _, _, _, _, _, _, _, _, _, _, _, _, _, e, _⟩ := h; subst e; rfl) | (obtain ⟨_, _, _, _, _, _, _, _, _, _, _, _, _, _, _, _, _, _, _, _, e, _⟩ := h; subst e; rfl) | (obtain ⟨_, _, _, _, _, _, _, _, _, _, _, _, _, _, _, _, _, _, _, _, _, e, _⟩ := h; subst e; rfl) | (obtain ⟨_, _, _, _, _, _, _, _, _, _, _, _, _, _, _, _, _, _, _, _, _, _, e, _⟩ := h; subst e; rfl) | (obtain ⟨_, _, _, _, _, _, _, _, _, _, _, _, _, _, _, _, _, _, _, _, _, _, _, e, _⟩ := h; subst e; rfl) | (obtain ⟨_, _, _, _, _, _, _, _, _, _, _, _, _, _, _, _, _, _, _, _, _, _, _, _, e, _⟩ := h; subst e; rfl) | (obtain ⟨_, _, _, _, _, _, _, _, _, _, _, _, _, _, _, _, _, _, _, _, _, _, _, _, _, e, _⟩ := h; subst e; rfl))) (fun f cdv A outer s H E F0 hr => ?_)
  have nd := (sc__law_way_changed).nd
  refine ⟨_, _, (db_cons (ds_set 3 nd (de_call c__law_draw hr (goes0A (E := DXK.no)) (da_cons (de_var 0) (da_cons de_int da_nil))))
      (db_cons (ds_set 4 nd (de_call c__law_draw hr (goes0A (E := DXK.no)) (da_cons (de_var 0) (da_cons (de_len B.len (da_cons (de_var 2) da_nil)) da_nil))))
      (db_cons (ds_set 5 nd (de_call c__law_draw hr (goes0A (E := DXK.no)) (da_cons (de_var 0) (da_cons (de_var 1) da_nil))))
      (db_cons (ds_if (dt_eq hr (de_var 3) de_int) (db_one (ds_ret (de_revT (de_var 2)))) db_nil)
      (db_cons (ds_if (dt_eq hr (de_var 3) de_int) (db_one (ds_ret (de_call c__law_set hr (goes0A (E := DXK.no)) (da_cons (de_var 2) (da_cons (de_var 4) (da_cons (de_var 5) da_nil)))))) db_nil)
      (db_cons (ds_if (dt_eq hr (de_var 3) de_int) (db_one (ds_ret (de_call c__law_set hr (goes0A (E := DXK.no)) (da_cons (de_var 2) (da_cons (de_var 4) (da_cons (de_call c__law_odd hr (goes0A (E := DXK.no)) (da_cons (de_var 0) (da_cons (de_var 1) da_nil))) da_nil)))))) db_nil)
      (db_cons (ds_if (dt_eq hr (de_var 3) de_int) (db_one (ds_ret (de_cat (de_slice (de_var 2) do_none (do_some (de_var 4))) (de_slice (de_var 2) (do_some (de_add (de_var 4) de_int)) do_none)))) db_nil)
      (db_cons (ds_if (dt_eq hr (de_var 3) de_int) (db_one (ds_ret (de_cat (de_cat (de_slice (de_var 2) do_none (do_some (de_var 4))) (de_tup (da_cons (de_var 5) da_nil))) (de_slice (de_var 2) (do_some (de_var 4)) do_none)))) db_nil)
      (db_one (ds_ret (de_ix hr (de_lst (da_cons (de_bty (call_listA rfl) lc_list B.list (da_cons (de_var 2) da_nil)) (da_cons (de_tup da_nil) (da_cons de_non (da_cons (de_slice (de_var 2) do_none (do_some de_int)) (da_cons de_str (da_cons (de_var 5) da_nil))))))) (de_call c__law_draw hr (goes0A (E := DXK.no)) (da_cons (de_var 0) (da_cons de_int da_nil)))))))))))))), ?_⟩
  rintro ds M Q E ⟨p, n, us, rfl, n1, n8, u2, u8, hp, q⟩
  simp only [dInsert, dVar, dC, dOp, dTest, dII, dIC, dFld, dFldS, dMake, dppNil, dppCons, dMerge, dDisp, dCatL, dExtend, dRg1, dLstRg, dChain, dEq, dAnd, dOr, dNot, dNext, dSeq, dDrop, dRet, dIfS, dNever, dFrzS, hName, hNil, hCons, hTup, hSub, dAsg, dNil, dCons, dTup, dLst, dLstM, dIx, dSet, dCall, dwipe, dYes, jSeq, jRng1, jRng2, dCB, dLen, dList, dListM, dTuple, dII2, dAbs, dInt, dBM0, dBM, dAppend, dPop, dPopAt, dAndV, dNotV, dNeg, dIn, dCat, dNoPart, dPart, dSl, dNewT, dIsi, dLc, dFor, dDc, dLenSetG, dLc2, dFrzE, dLcH, dKdIn, dKdIx, jZipM, if_true, if_false, ite_true, ite_false, Bool.false_eq_true, reduceIte, Bool.not_true, Bool.not_false, List.getElem?_cons_zero, List.getElem?_cons_succ, List.set_cons_zero, List.set_cons_succ, List.map_cons, List.map_nil, List.replicate, List.cons_append, List.nil_append, List.length_cons, List.length_nil, dstart, dRevT, dVar]
  refine ⟨p, 6, rfl, hp, by decide, by decide, fun k M1 k0 k1 d1 a1 => ⟨us.length, by simp only [tupI, lenV, List.length_map], p, _, rfl, d1, by omega, by omega, fun at_ M2 t0 t1 d2 a2 => ⟨p, n, rfl, d2, by omega, by omega, fun c M3 c0 c1 d3 a3 => ?_⟩⟩⟩
  have E3 : Ext M M3 [p] := (a1.ext.trans a2.ext).trans a3.ext
  have fin1 : ∀ d : D, RowT d → fin Q d M3 := fun d h => fin_self (q d M3 h d3 E3)
  have ml : (us.map D.int).length = us.length := List.length_map _
  refine ⟨rfl, rfl, ?_⟩
  by_cases h0 : k = 0
  · rw [if_pos (eqI_t h0)]
    refine ⟨_, rfl, ?_⟩
    rw [← List.map_reverse]
    exact fin1 _ (rowT_ints (by rw [List.length_reverse]; omega))
  rw [if_neg (by rw [eqI_f h0]; decide)]
  refine ⟨rfl, rfl, ?_⟩
  by_cases h1 : k = 1
  · rw [if_pos (eqI_t h1)]
    exact ⟨_, _, _, rfl, t0, by omega, by omega, fin1 _ (rowT_tup (by simp; omega) (cut_all (ints_ty us) fun y hy => by rw [List.mem_singleton.mp hy]; exact tyI c))⟩
  rw [if_neg (by rw [eqI_f h1]; decide)]
  refine ⟨rfl, rfl, ?_⟩
  by_cases h2 : k = 2
  · rw [if_pos (eqI_t h2)]
    exact ⟨p, n, rfl, d3, fun y M4 hy d4 E4 => ⟨_, _, _, rfl, t0, by omega, by omega, fin_self (q _ M4 (rowT_tup (by simp; omega) (cut_all (ints_ty us) fun z hz => by rw [List.mem_singleton.mp hz]; exact hy)) d4 (E3.trans E4))⟩⟩
  rw [if_neg (by rw [eqI_f h2]; decide)]
  refine ⟨rfl, rfl, ?_⟩
  by_cases h3 : k = 3
  · rw [if_pos (eqI_t h3)]
    simp only [tupI]
    rw [cutTI t0 (by omega), cutDI (i := at_ + 1) (by omega) (by omega)]
    refine ⟨len_ok (by rw [List.length_take, List.length_drop]; omega), fin1 _ (rowT_tup (by simp; omega) ?_)⟩
    have := cut_all (ints_ty us) (i := at_.toNat) (j := (at_ + 1).toNat) (m := []) fun y hy => by cases hy
    rwa [List.append_nil] at this
  rw [if_neg (by rw [eqI_f h3]; decide)]
  refine ⟨rfl, rfl, ?_⟩
  by_cases h4 : k = 4
  · rw [if_pos (eqI_t h4)]
    simp only [tupI]
    rw [cutTI t0 (by omega), cutDI t0 (by omega)]
    refine ⟨by decide, len_ok (by rw [List.length_take]; omega), len_ok (by rw [List.length_append, List.length_take, List.length_drop]; simp; omega), fin1 _ (rowT_tup (by simp; omega) (cut_all (ints_ty us) fun y hy => by rw [List.mem_singleton.mp hy]; exact tyI c))⟩
  rw [if_neg (by rw [eqI_f h4]; decide)]
  simp only [tupI]
  rw [cutTI (i := 1) (by decide) (by omega)]
  refine ⟨us.map .int, rfl, by decide, by decide, p, 6, rfl, d3, by decide, by decide, fun r M4 r0 r1 d4 a4 => ?_⟩
  have fin2 : ∀ d : D, RowT d → fin Q d M4 := fun d h => fin_self (q d M4 h d4 (E3.trans a4.ext))
  rcases (by omega : r = 0 ∨ r = 1 ∨ r = 2 ∨ r = 3 ∨ r = 4 ∨ r = 5) with rfl | rfl | rfl | rfl | rfl | rfl
  · exact ⟨_, ixL_at (k := 0) rfl rfl, fin2 _ (rowT_of (fun _ => rfl) (fun l e => by cases e) fun l e => by cases e)⟩
  · exact ⟨_, ixL_at (k := 1) rfl rfl, fin2 _ (rowT_tup (by decide) fun y hy => by cases hy)⟩
  · exact ⟨_, ixL_at (k := 2) rfl rfl, fin2 _ (rowT_of (fun _ => rfl) (fun l e => by cases e) fun l e => by cases e)⟩
  · exact ⟨_, ixL_at (k := 3) rfl rfl, fin2 _ (rowT_tup (by simp; omega) fun y hy => ints_ty us y (List.mem_of_mem_take hy))⟩
  · exact ⟨_, ixL_at (k := 4) rfl rfl, fin2 _ (rowT_of (fun _ => rfl) (fun l e => by cases e) fun l e => by cases e)⟩
  · exact ⟨_, ixL_at (k := 5) rfl rfl, fin2 _ (rowT_int c)⟩
theorem sc__law_ways_changed : FnScope ["_law_dice_here", "_law_size", "_law_ways", "_law_kind", "_law_at", "_law_other"] ["_law_dice_here", "_law_size", "_law_ways"] (defScope s__law_ways_changed) := ⟨rfl, rfl, rfl, by decide +kernel, rfl, by decide +kernel, by decide +kernel⟩
def sp__law_ways_changed : DSp := fun ds M Q _ => ∃ (p : Addr) (n : Int) (ws : List (List Int)), ds = [.ref p, .int n, .tup (ws.map tupI)] ∧ 1 ≤ n ∧ n ≤ 8 ∧ 2 ≤ ws.length ∧ ws.length ≤ 10 ∧ (∀ us ∈ ws, 2 ≤ us.length ∧ us.length ≤ 8) ∧ DiL M p ∧ ∀ y M2, RowsT y → DiL M2 p → Ext M M2 [p] → Q y M2
theorem c__law_ways_changed (F : DFun K mg "_law_ways_changed" s__law_ways_changed ["_law_dice_here", "_law_size", "_law_ways"]) (B : Bn mg) (G : Gs mg) (c__law_draw : DCal P w K mg base CX0 1 "_law_draw" sp__law_draw) (c__law_set : DCal P w K mg base CX0 1 "_law_set" sp__law_set) (c__law_way_changed : DCal P w K mg base CX0 3 "_law_way_changed" sp__law_way_changed) : DCal P w K mg base CX0 4 "_law_ways_changed" sp__law_ways_changed := by
  refine dok F sc__law_ways_changed (fun ds M Q E h => (by obtain ⟨_, h⟩ := h; first | (obtain ⟨e, _⟩ := h; subst e; rfl) | (obtain ⟨_, e, _⟩ := h; subst e; rfl) | (obtain ⟨_, _, e, _⟩ := h; subst e; rfl) | (obtain ⟨_, _, _, e, _⟩ := h; subst e; rfl) | (obtain ⟨_, _, _, _, e, _⟩ := h; subst e; rfl) | (obtain ⟨_, _, _, _, _, e, _⟩ := h; subst e; rfl) | (obtain ⟨_, _, _, _, _, _, e, _⟩ := h; subst e; rfl) | (obtain ⟨_, _, _, _, _, _, _, e, _⟩ := h; subst e; rfl) | (obtain ⟨_, _, _, _, _, _, _, _, e, _⟩ := h; subst e; rfl) | (obtain ⟨_, _, _, _, _, _, _, _, _, e, _⟩ := h; subst e; rfl) | (obtain ⟨_, _, _, _, _, _, _, _, _, _, e, _⟩ := h; subst e; rfl) | (obtain ⟨_, _, _, _, _, _, _, _, _, _, _, e, _⟩ := h; subst e; rfl) | (obtain ⟨_, _, _, _, _, _, _, _, _, _, _, _, e, _⟩ := h; subst e; rfl) | (obtain ⟨_, _, _, _, _, _, _, _, _, _, _, _, _, e, _⟩ := h; subst e; rfl) | (obtain ⟨_, _, _, _, _, _, _, _, _, _, _, _, _, _, e, _⟩ := h; subst e; rfl) | (obtain ⟨_, _, _, _, _, _, _, _, _, _, _, _, _, _, _, e, _⟩ := h; subst e; rfl) | (obtain ⟨_, _, _, _, _, _, _, _, _, _, _, _, _, _, _, _, e, _⟩ := h; subst e; rfl) | (obtain ⟨_, _, _, _, _, _, _, _, _, _, _, _, _, _, _, _, _, e, _⟩ := h; subst e; rfl) | (obtain ⟨_, _, _, _, _, _, _, _, _, _, _, _, _, _, _, _, _, _, e, _⟩ := h; subst e; rfl) | (obtain ⟨_, _, _, _, _, _, _, _, _, _, _, _, _, _, _, _, _, _, _, e, _⟩ := h; subst e; rfl) | (obtain ⟨_, _, _, _, _, _, _, _, _, _, _, _, _, _, _, _, _, _, _, _, e, _⟩ := h; subst e; rfl) | (obtain ⟨_, _, _, _, _, _, _, _, _, _, _, _, _, _, _, _, _, _, _, _, _, e, _⟩ := h; subst e; rfl) | (obtain ⟨_, _, _, _, _, _, _, _, _, _, _, _, _, _, _, _, _, _, _, _, _, _, e, _⟩ := h; subst e; rfl) | (obtain ⟨_, _, _, _, _, _, _, _, _, _, _, _, _, _, _, _, _, _, _, _, _, _, _, e, _⟩ := h; subst e; rfl) | (obtain ⟨_, _, _, _, _, _, _, _, _, _, _, _, _, _, _, _, _, _, _, _, _, _, _, _, e, _⟩ := h; subst e; rfl) | (obtain ⟨_, _, _, _, _, _, _, _, _, _, _, _, _, _, _, _, _, _, _, _, _, _, _, _, _, e, _⟩ := h; subst e; rfl))) (fun f cdv A outer s H E F0 hr => ?_)
  have nd := (sc__law_ways_changed).nd
  refine ⟨_, _, (db_cons (ds_set 3 nd (de_call c__law_draw hr (goes0A (E := DXK.no)) (da_cons (de_var 0) (da_cons de_int da_nil))))
      (db_cons (ds_set 4 nd (de_call c__law_draw hr (goes0A (E := DXK.no)) (da_cons (de_var 0) (da_cons (de_len B.len (da_cons (de_var 2) da_nil)) da_nil))))
      (db_cons (ds_set 5 nd (de_mod (de_bty call_int1 lc_int B.int (da_cons (de_cat (de_add (de_var 4) de_int) (de_call c__law_draw hr (goes0A (E := DXK.no)) (da_cons (de_var 0) (da_cons (de_sub (de_len B.len (da_cons (de_var 2) da_nil)) de_int) da_nil)))) da_nil)) (de_len B.len (da_cons (de_var 2) da_nil))))
      (db_cons (ds_if (dt_eq hr (de_var 3) de_int) (db_one (ds_ret (de_call c__law_set hr (goes0A (E := DXK.no)) (da_cons (de_call c__law_set hr (goes0A (E := DXK.no)) (da_cons (de_var 2) (da_cons (de_var 4) (da_cons (de_ix hr (de_var 2) (de_var 5)) da_nil)))) (da_cons (de_var 5) (da_cons (de_ix hr (de_var 2) (de_var 4)) da_nil)))))) db_nil)
      (db_cons (ds_if (dt_eq hr (de_var 3) de_int) (db_one (ds_ret (de_cat (de_slice (de_var 2) do_none (do_some (de_var 4))) (de_slice (de_var 2) (do_some (de_add (de_var 4) de_int)) do_none)))) db_nil)
      (db_cons (ds_if (dt_eq hr (de_var 3) de_int) (db_one (ds_ret (de_cat (de_cat (de_slice (de_var 2) do_none (do_some (de_var 4))) (de_tup (da_cons (de_ix hr (de_var 2) (de_var 5)) da_nil))) (de_slice (de_var 2) (do_some (de_var 4)) do_none)))) db_nil)
      (db_cons (ds_if (dt_eq hr (de_var 3) de_int) (db_one (ds_ret (de_ix hr (de_lst (da_cons (de_bty (call_listA rfl) lc_list B.list (da_cons (de_var 2) da_nil)) (da_cons (de_tup da_nil) (da_cons de_non (da_cons (de_len B.len (da_cons (de_var 2) da_nil)) (da_cons (de_ix hr (de_var 2) de_int) da_nil)))))) (de_call c__law_draw hr (goes0A (E := DXK.no)) (da_cons (de_var 0) (da_cons de_int da_nil)))))) db_nil)
      (db_one (ds_ret (de_call c__law_set hr (goes0A (E := DXK.no)) (da_cons (de_var 2) (da_cons (de_var 4) (da_cons (de_call c__law_way_changed hr (goes0A (E := DXK.no)) (da_cons (de_var 0) (da_cons (de_var 1) (da_cons (de_ix hr (de_var 2) (de_var 4)) da_nil)))) da_nil))))))))))))), ?_⟩
  rintro ds M Q E ⟨p, n, ws, rfl, n1, n8, w2, w10, wu, hp, q⟩
  simp only [dInsert, dVar, dC, dOp, dTest, dII, dIC, dFld, dFldS, dMake, dppNil, dppCons, dMerge, dDisp, dCatL, dExtend, dRg1, dLstRg, dChain, dEq, dAnd, dOr, dNot, dNext, dSeq, dDrop, dRet, dIfS, dNever, dFrzS, hName, hNil, hCons, hTup, hSub, dAsg, dNil, dCons, dTup, dLst, dLstM, dIx, dSet, dCall, dwipe, dYes, jSeq, jRng1, jRng2, dCB, dLen, dList, dListM, dTuple, dII2, dAbs, dInt, dBM0, dBM, dAppend, dPop, dPopAt, dAndV, dNotV, dNeg, dIn, dCat, dNoPart, dPart, dSl, dNewT, dIsi, dLc, dFor, dDc, dLenSetG, dLc2, dFrzE, dLcH, dKdIn, dKdIx, jZipM, if_true, if_false, ite_true, ite_false, Bool.false_eq_true, reduceIte, Bool.not_true, Bool.not_false, List.getElem?_cons_zero, List.getElem?_cons_succ, List.set_cons_zero, List.set_cons_succ, List.map_cons, List.map_nil, List.replicate, List.cons_append, List.nil_append, List.length_cons, List.length_nil, dstart]
  refine ⟨p, 8, rfl, hp, by decide, by decide, fun k M1 k0 k1 d1 a1 => ⟨ws.length, by simp only [lenV, List.length_map], p, _, rfl, d1, by omega, by omega, fun at_ M2 t0 t1 d2 a2 => ⟨ws.length, by simp only [lenV, List.length_map], p, _, rfl, d2, by omega, by omega, fun c M3 c0 c1 d3 a3 => ?_⟩⟩⟩
  have E3 : Ext M M3 [p] := (a1.ext.trans a2.ext).trans a3.ext
  dsimp only
  refine ⟨ws.length, by simp only [lenV, List.length_map], by omega, ?_⟩
  obtain ⟨o0, o1⟩ := wrap_in (n := ws.length) (x := at_) (y := c) (by omega)
  generalize (at_ + 1 + c) % (ws.length : Int) = ot at o0 o1 ⊢
  have ml : (ws.map tupI).length = ws.length := List.length_map _
  have at1 : ∀ (z : Int), 0 ≤ z → z < ws.length → ∃ us, us ∈ ws ∧ ∀ M, dIxV M (.tup (ws.map tupI)) (.int z) = some (tupI us) := fun z z0 z1 => by
    obtain ⟨us, hu⟩ : ∃ us, ws[z.toNat]? = some us := ⟨_, List.getElem?_eq_getElem (by omega)⟩
    exact ⟨us, List.mem_of_getElem? hu, fun M => ixT_at (k := z.toNat) (by omega) (by rw [List.getElem?_map, hu]; rfl)⟩
  obtain ⟨ua, uam, ga⟩ := at1 at_ t0 t1
  obtain ⟨uo, uom, go⟩ := at1 ot o0 o1
  obtain ⟨uz, uzm, gz⟩ := at1 0 (by decide) (by omega)
  have ra : RowT (tupI ua) := rowT_ints (by have := wu ua uam; omega)
  have ro : RowT (tupI uo) := rowT_ints (by have := wu uo uom; omega)
  refine ⟨rfl, rfl, ?_⟩
  by_cases h0 : k = 0
  · rw [if_pos (eqI_t h0)]
    refine ⟨_, go _, _, _, _, rfl, t0, by omega, by omega, ?_⟩
    dsimp only
    have cl1 : ((ws.map tupI).take at_.toNat ++ [tupI uo] ++ (ws.map tupI).drop (at_.toNat + 1)).length = ws.length := by
      rw [List.length_append, List.length_append, List.length_take, List.length_drop]; simp; omega
    exact ⟨_, ga _, _, _, _, rfl, o0, by omega, by omega, fin_self (q _ M3 (rowsT_tup (by simp; omega) (cut_all (cut_all (rows_ty wu) fun y hy => by rw [List.mem_singleton.mp hy]; exact ro) fun y hy => by rw [List.mem_singleton.mp hy]; exact ra)) d3 E3)⟩
  rw [if_neg (by rw [eqI_f h0]; decide)]
  refine ⟨rfl, rfl, ?_⟩
  by_cases h1 : k = 1
  · rw [if_pos (eqI_t h1), cutTI t0 (by omega), cutDI (i := at_ + 1) (by omega) (by omega)]
    refine ⟨len_ok (by rw [List.length_take, List.length_drop]; omega), fin_self (q _ M3 (rowsT_tup (by simp; omega) ?_) d3 E3)⟩
    have := cut_all (rows_ty wu) (i := at_.toNat) (j := (at_ + 1).toNat) (m := []) fun y hy => by cases hy
    rwa [List.append_nil] at this
  rw [if_neg (by rw [eqI_f h1]; decide)]
  refine ⟨rfl, rfl, ?_⟩
  by_cases h2 : k = 2
  · rw [if_pos (eqI_t h2), cutTI t0 (by omega), cutDI t0 (by omega)]
    refine ⟨_, go _, by decide, len_ok (by rw [List.length_take]; simp; omega), len_ok (by rw [List.length_append, List.length_take, List.length_drop]; simp; omega), fin_self (q _ M3 (rowsT_tup (by simp; omega) (cut_all (rows_ty wu) fun y hy => by rw [List.mem_singleton.mp hy]; exact ro)) d3 E3)⟩
  rw [if_neg (by rw [eqI_f h2]; decide)]
  refine ⟨rfl, rfl, ?_⟩
  by_cases h3 : k = 3
  · rw [if_pos (eqI_t h3)]
    refine ⟨ws.map tupI, rfl, by decide, ws.length, by simp only [lenV, List.length_map], _, gz _, by decide, p, 5, rfl, d3, by decide, by decide, fun r M4 r0 r1 d4 a4 => ?_⟩
    have fin2 : ∀ d : D, RowsT d → fin Q d M4 := fun d h => fin_self (q d M4 h d4 (E3.trans a4.ext))
    rcases (by omega : r = 0 ∨ r = 1 ∨ r = 2 ∨ r = 3 ∨ r = 4) with rfl | rfl | rfl | rfl | rfl
    · exact ⟨_, ixL_at (k := 0) rfl rfl, fin2 _ (rowsT_of (fun _ => rfl) (fun l e => by cases e) fun l e => by cases e)⟩
    · exact ⟨_, ixL_at (k := 1) rfl rfl, fin2 _ (rowsT_tup (by decide) fun y hy => by cases hy)⟩
    · exact ⟨_, ixL_at (k := 2) rfl rfl, fin2 _ (rowsT_of (fun _ => rfl) (fun l e => by cases e) fun l e => by cases e)⟩
    · exact ⟨_, ixL_at (k := 3) rfl rfl, fin2 _ (rowsT_of (tyI _) (fun l e => by cases e) fun l e => by cases e)⟩
    · exact ⟨_, ixL_at (k := 4) rfl rfl, fin2 _ (rowsT_ints (by have := wu uz uzm; omega))⟩
  rw [if_neg (by rw [eqI_f h3]; decide)]
  have lua := wu ua uam
  exact ⟨_, ga _, p, n, ua, rfl, n1, n8, lua.1, lua.2, d3, fun y M4 hy d4 E4 => ⟨_, _, _, rfl, t0, by omega, by omega, fin_self (q _ M4 (rowsT_tup (by simp; omega) (cut_all (rows_ty wu) fun z hz => by rw [List.mem_singleton.mp hz]; exact hy)) d4 (E3.trans E4))⟩⟩
theorem sc__law_spoiled : FnScope ["_law_dice_here", "_law_size", "_law_paper", "_law_word", "_law_corners", "_law_ways", "_law_kind", "_law_words", "_law_wholes"] ["_law_dice_here", "_law_size", "_law_paper"] (defScope s__law_spoiled) := ⟨rfl, rfl, rfl, by decide +kernel, rfl, by decide +kernel, by decide +kernel⟩
def sp__law_spoiled : DSp := fun ds M Q _ => ∃ (p : Addr) (n : Int) (f : Bool) (cs : List Int) (ws : List (List Int)), ds = [.ref p, .int n, barD f cs ws] ∧ 1 ≤ n ∧ n ≤ 8 ∧ 2 ≤ cs.length ∧ cs.length ≤ 8 ∧ 2 ≤ ws.length ∧ ws.length ≤ 10 ∧ (∀ us ∈ ws, 2 ≤ us.length ∧ us.length ≤ 8) ∧ DiL M p ∧ ∀ y M2, ThW y → DiL M2 p → Ext M M2 [p] → Q y M2
theorem c__law_spoiled (F : DFun K mg "_law_spoiled" s__law_spoiled ["_law_dice_here", "_law_size", "_law_paper"]) (B : Bn mg) (G : Gs mg) (c__law_corners_changed : DCal P w K mg base CX0 3 "_law_corners_changed" sp__law_corners_changed) (c__law_draw : DCal P w K mg base CX0 1 "_law_draw" sp__law_draw) (c__law_ways_changed : DCal P w K mg base CX0 4 "_law_ways_changed" sp__law_ways_changed) : DCal P w K mg base CX0 5 "_law_spoiled" sp__law_spoiled := by
  refine dok F sc__law_spoiled (fun ds M Q E h => (by obtain ⟨_, h⟩ := h; first | (obtain ⟨e, _⟩ := h; subst e; rfl) | (obtain ⟨_, e, _⟩ := h; subst e; rfl) | (obtain ⟨_, _, e, _⟩ := h; subst e; rfl) | (obtain ⟨_, _, _, e, _⟩ := h; subst e; rfl) | (obtain ⟨_, _, _, _, e, _⟩ := h; subst e; rfl) | (obtain ⟨_, _, _, _, _, e, _⟩ := h; subst e; rfl) | (obtain ⟨_, _, _, _, _, _, e, _⟩ := h; subst e; rfl) | (obtain ⟨_, _, _, _, _, _, _, e, _⟩ := h; subst e; rfl) | (obtain ⟨_, _, _, _, _, _, _, _, e, _⟩ := h; subst e; rfl) | (obtain ⟨_, _, _, _, _, _, _, _, _, e, _⟩ := h; subst e; rfl) | (obtain ⟨_, _, _, _, _, _, _, _, _, _, e, _⟩ := h; subst e; rfl) | (obtain ⟨_, _, _, _, _, _, _, _, _, _, _, e, _⟩ := h; subst e; rfl) | (obtain ⟨_, _, _, _, _, _, _, _, _, _, _, _, e, _⟩ := h; subst e; rfl) | (obtain ⟨_, _, _, _, _, _, _, _, _, _, _, _, _, e, _⟩ := h; subst e; rfl) | (obtain ⟨_, _, _, _, _, _, _, _, _, _, _, _, _, _, e, _⟩ := h; subst e; rfl) | (obtain ⟨_, _, _, _, _, _, _, _, _, _, _, _, _, _, _, e, _⟩ := h; subst e; rfl) | (obtain ⟨_, _, _, _, _, _, _, _, _, _, _, _, _, _, _, _, e, _⟩ := h; subst e; rfl) | (obtain ⟨_, _, _, _, _, _, _, _, _, _, _, _, _, _, _, _, _, e, _⟩ := h; subst e; rfl) | (obtain ⟨_, _, _, _, _, _, _, _, _, _, _, _, _, _, _, _, _, _, e, _⟩ := h; subst e; rfl) | (obtain ⟨_, _, _, _, _, _, _, _, _, _, _, _, _, _, _, _, _, _, _, e, _⟩ := h; subst e; rfl) | (obtain ⟨_, _, _, _, _, _, _, _, _, _, _, _, _, _, _, _, _, _, _, _, e, _⟩ := h; subst e; rfl) | (obtain ⟨_, _, _, _, _, _, _, _, _, _, _, _, _, _, _, _, _, _, _, _, _, e, _⟩ := h; subst e; rfl) | (obtain ⟨_, _, _, _, _, _, _, _, _, _, _, _, _, _, _, _, _, _, _, _, _, _, e, _⟩ := h; subst e; rfl) | (obtain ⟨_, _, _, _, _, _, _, _, _, _, _, _, _, _, _, _, _, _, _, _, _, _, _, e, _⟩ := h; subst e; rfl) | (obtain ⟨_, _, _, _, _, _, _, _, _, _, _, _, _, _, _, _, _, _, _, _, _, _, _, _, e, _⟩ := h; subst e; rfl) | (obtain ⟨_, _, _, _, _, _, _, _, _, _, _, _, _, _, _, _, _, _, _, _, _, _, _, _, _, e, _⟩ := h; subst e; rfl))) (fun f cdv A outer s H E F0 hr => ?_)
  have nd := (sc__law_spoiled).nd
  refine ⟨_, _, (db_cons (ds_asg (de_var 2) (dg_tup (n := 3) rfl (dgs_cons (dg_name 3 nd) (dgs_cons (dg_name 4 nd) (dgs_cons (dg_name 5 nd) dgs_nil)))))
      (db_cons (ds_set 6 nd (de_call c__law_draw hr (goes0A (E := DXK.no)) (da_cons (de_var 0) (da_cons de_int da_nil))))
      (db_cons (ds_if (dt_eq hr (de_var 6) de_int) (db_cons (ds_set 7 nd (de_lst (da_cons de_str (da_cons de_str (da_cons de_str (da_cons de_str (da_cons de_str (da_cons de_non (da_cons de_int (da_cons (de_tup (da_cons de_str da_nil)) da_nil))))))))))
      (db_one (ds_ret (de_tup (da_cons (de_ix hr (de_var 7) (de_call c__law_draw hr (goes0A (E := DXK.no)) (da_cons (de_var 0) (da_cons de_int da_nil)))) (da_cons (de_var 4) (da_cons (de_var 5) da_nil))))))) db_nil)
      (db_cons (ds_if (dt_eq hr (de_var 6) de_int) (db_cons (ds_set 8 nd (de_lst (da_cons (de_bty (call_listA rfl) lc_list B.list (da_cons (de_var 2) da_nil)) (da_cons (de_tup da_nil) (da_cons de_non (da_cons (de_var 3) (da_cons (de_tup (da_cons (de_var 3) (da_cons (de_var 4) da_nil))) (da_cons (de_cat (de_var 2) (de_tup (da_cons de_int da_nil))) (da_cons (de_tup (da_cons (de_var 2) da_nil)) (da_cons (de_frzA (de_disp (dpp_cons de_str de_int dpp_nil))) (da_cons de_int (da_cons de_bl da_nil))))))))))))
      (db_one (ds_ret (de_ix hr (de_var 8) (de_call c__law_draw hr (goes0A (E := DXK.no)) (da_cons (de_var 0) (da_cons de_int da_nil))))))) db_nil)
      (db_cons (ds_if (dt_eq hr (de_var 6) de_int) (db_one (ds_ret (de_tup (da_cons (de_var 3) (da_cons (de_call c__law_corners_changed hr (goes0A (E := DXK.no)) (da_cons (de_var 0) (da_cons (de_var 1) (da_cons (de_var 4) da_nil)))) (da_cons (de_var 5) da_nil)))))) db_nil)
      (db_one (ds_ret (de_tup (da_cons (de_var 3) (da_cons (de_var 4) (da_cons (de_call c__law_ways_changed hr (goes0A (E := DXK.no)) (da_cons (de_var 0) (da_cons (de_var 1) (da_cons (de_var 5) da_nil)))) da_nil))))))))))), ?_⟩
  rintro ds M Q E ⟨p, n, f, cs, ws, rfl, n1, n8, c2, c8, w2, w10, wu, hp, q⟩
  refine dSeq_then (fun γ' M' => γ' = [some (.ref p), some (.int n), some (barD f cs ws), some (wordW f), some (tupI cs), some (.tup (ws.map tupI)), none, none, none] ∧ M' = M) (fun nx hn => ?_) (fun γ1 M1 h => ?_)
  · simp only [barD, dInsert, dVar, dC, dOp, dTest, dII, dIC, dFld, dFldS, dMake, dppNil, dppCons, dMerge, dDisp, dCatL, dExtend, dRg1, dLstRg, dChain, dEq, dAnd, dOr, dNot, dNext, dSeq, dDrop, dRet, dIfS, dNever, dFrzS, hName, hNil, hCons, hTup, hSub, dAsg, dNil, dCons, dTup, dLst, dLstM, dIx, dSet, dCall, dwipe, dYes, jSeq, jRng1, jRng2, dCB, dLen, dList, dListM, dTuple, dII2, dAbs, dInt, dBM0, dBM, dAppend, dPop, dPopAt, dAndV, dNotV, dNeg, dIn, dCat, dNoPart, dPart, dSl, dNewT, dIsi, dLc, dFor, dDc, dLenSetG, dLc2, dFrzE, dLcH, dKdIn, dKdIx, jZipM, if_true, if_false, ite_true, ite_false, Bool.false_eq_true, reduceIte, Bool.not_true, Bool.not_false, List.getElem?_cons_zero, List.getElem?_cons_succ, List.set_cons_zero, List.set_cons_succ, List.map_cons, List.map_nil, List.replicate, List.cons_append, List.nil_append, List.length_cons, List.length_nil, dstart]
    exact ⟨trivial, hn _ _ ⟨rfl, rfl⟩⟩
  obtain ⟨rfl, rfl⟩ := h
  have Rc : RowT (tupI cs) := rowT_ints (by omega)
  have Rw : RowsT (.tup (ws.map tupI)) := rowsT_tup (by rw [List.length_map]; omega) (rows_ty wu)
  have Wt : Ty (wordW f) := by cases f <;> exact fun _ => rfl
  have Wok : ∀ s, wordW f = .str s → (D.str s).ok 60 = true := fun s e => by rw [← e]; cases f <;> decide +kernel
  refine dSeq_then (fun γ' M' => ∃ k : Int, γ' = [some (.ref p), some (.int n), some (barD f cs ws), some (wordW f), some (tupI cs), some (.tup (ws.map tupI)), some (.int k), none, none] ∧ 0 ≤ k ∧ k < 6 ∧ DiL M' p ∧ Ext M1 M' [p]) (fun nx hn => ?_) (fun γ2 M2 h => ?_)
  · simp only [dInsert, dVar, dC, dOp, dTest, dII, dIC, dFld, dFldS, dMake, dppNil, dppCons, dMerge, dDisp, dCatL, dExtend, dRg1, dLstRg, dChain, dEq, dAnd, dOr, dNot, dNext, dSeq, dDrop, dRet, dIfS, dNever, dFrzS, hName, hNil, hCons, hTup, hSub, dAsg, dNil, dCons, dTup, dLst, dLstM, dIx, dSet, dCall, dwipe, dYes, jSeq, jRng1, jRng2, dCB, dLen, dList, dListM, dTuple, dII2, dAbs, dInt, dBM0, dBM, dAppend, dPop, dPopAt, dAndV, dNotV, dNeg, dIn, dCat, dNoPart, dPart, dSl, dNewT, dIsi, dLc, dFor, dDc, dLenSetG, dLc2, dFrzE, dLcH, dKdIn, dKdIx, jZipM, if_true, if_false, ite_true, ite_false, Bool.false_eq_true, reduceIte, Bool.not_true, Bool.not_false, List.getElem?_cons_zero, List.getElem?_cons_succ, List.set_cons_zero, List.set_cons_succ, List.map_cons, List.map_nil, List.replicate, List.cons_append, List.nil_append, List.length_cons, List.length_nil, dstart]
    exact ⟨p, 6, rfl, hp, by decide, by decide, fun k M2 k0 k1 d2 a2 => hn _ _ ⟨k, rfl, k0, k1, d2, a2.ext⟩⟩
  obtain ⟨k, rfl, k0, k1, d2, E2⟩ := h
  refine dSeq_then (fun γ' M' => γ' = [some (.ref p), some (.int n), some (barD f cs ws), some (wordW f), some (tupI cs), some (.tup (ws.map tupI)), some (.int k), none, none] ∧ M' = M2) (fun nx hn => ?_) (fun γ3 M3 h => ?_)
  · simp only [dIfS, dTest, dOp, dEq, dVar, dC, if_true, if_false, ite_true, ite_false, Bool.false_eq_true, reduceIte, Bool.not_true, Bool.not_false, List.getElem?_cons_zero, List.getElem?_cons_succ, List.set_cons_zero, List.set_cons_succ, List.map_cons, List.map_nil, List.replicate, List.cons_append, List.nil_append, List.length_cons, List.length_nil, dstart]
    refine ⟨rfl, rfl, ?_⟩
    by_cases h0 : k = 0
    · rw [if_pos (eqI_t h0)]
      refine dSeq_then (fun γ' M' => γ' = [some (.ref p), some (.int n), some (barD f cs ws), some (wordW f), some (tupI cs), some (.tup (ws.map tupI)), some (.int k), some (.lst [.str (Str.ofString "five"), .str (Str.ofString "three"), .str (Str.ofString "Five"), .str (Str.ofString ""), .str (Str.ofString "four"), .non, .int 5, .tup [.str (Str.ofString "five")]]), none] ∧ M' = M2) (fun nx hn => ?_) (fun γ3 M3 h => ?_)
      · simp only [dInsert, dVar, dC, dOp, dTest, dII, dIC, dFld, dFldS, dMake, dppNil, dppCons, dMerge, dDisp, dCatL, dExtend, dRg1, dLstRg, dChain, dEq, dAnd, dOr, dNot, dNext, dSeq, dDrop, dRet, dIfS, dNever, dFrzS, hName, hNil, hCons, hTup, hSub, dAsg, dNil, dCons, dTup, dLst, dLstM, dIx, dSet, dCall, dwipe, dYes, jSeq, jRng1, jRng2, dCB, dLen, dList, dListM, dTuple, dII2, dAbs, dInt, dBM0, dBM, dAppend, dPop, dPopAt, dAndV, dNotV, dNeg, dIn, dCat, dNoPart, dPart, dSl, dNewT, dIsi, dLc, dFor, dDc, dLenSetG, dLc2, dFrzE, dLcH, dKdIn, dKdIx, jZipM, if_true, if_false, ite_true, ite_false, Bool.false_eq_true, reduceIte, Bool.not_true, Bool.not_false, List.getElem?_cons_zero, List.getElem?_cons_succ, List.set_cons_zero, List.set_cons_succ, List.map_cons, List.map_nil, List.replicate, List.cons_append, List.nil_append, List.length_cons, List.length_nil, dstart]
        exact ⟨by decide, by decide, hn _ _ ⟨rfl, rfl⟩⟩
      obtain ⟨rfl, rfl⟩ := h
      simp only [dInsert, dVar, dC, dOp, dTest, dII, dIC, dFld, dFldS, dMake, dppNil, dppCons, dMerge, dDisp, dCatL, dExtend, dRg1, dLstRg, dChain, dEq, dAnd, dOr, dNot, dNext, dSeq, dDrop, dRet, dIfS, dNever, dFrzS, hName, hNil, hCons, hTup, hSub, dAsg, dNil, dCons, dTup, dLst, dLstM, dIx, dSet, dCall, dwipe, dYes, jSeq, jRng1, jRng2, dCB, dLen, dList, dListM, dTuple, dII2, dAbs, dInt, dBM0, dBM, dAppend, dPop, dPopAt, dAndV, dNotV, dNeg, dIn, dCat, dNoPart, dPart, dSl, dNewT, dIsi, dLc, dFor, dDc, dLenSetG, dLc2, dFrzE, dLcH, dKdIn, dKdIx, jZipM, if_true, if_false, ite_true, ite_false, Bool.false_eq_true, reduceIte, Bool.not_true, Bool.not_false, List.getElem?_cons_zero, List.getElem?_cons_succ, List.set_cons_zero, List.set_cons_succ, List.map_cons, List.map_nil, List.replicate, List.cons_append, List.nil_append, List.length_cons, List.length_nil, dstart]
      refine ⟨p, 8, rfl, d2, by decide, by decide, fun r M4 r0 r1 d4 a4 => ?_⟩
      have fin2 : ∀ w : D, Ty w → (∀ s, w = .str s → (D.str s).ok 60 = true) → fin Q (.tup [w, tupI cs, .tup (ws.map tupI)]) M4 := fun w h h' => fin_self (q _ M4 (thW_tup h h' Rc Rw) d4 (E2.trans a4.ext))
      have sok : ∀ s s' : Str, (D.str s).ok 60 = true → D.str s = .str s' → (D.str s').ok 60 = true := fun s s' h e => by rw [← e]; exact h
      dsimp only
      rcases (by omega : r = 0 ∨ r = 1 ∨ r = 2 ∨ r = 3 ∨ r = 4 ∨ r = 5 ∨ r = 6 ∨ r = 7) with rfl | rfl | rfl | rfl | rfl | rfl | rfl | rfl
      · exact ⟨_, ixL_at (k := 0) rfl rfl, by decide, fin2 _ (fun _ => rfl) fun s e => sok _ _ (by decide +kernel) e⟩
      · exact ⟨_, ixL_at (k := 1) rfl rfl, by decide, fin2 _ (fun _ => rfl) fun s e => sok _ _ (by decide +kernel) e⟩
      · exact ⟨_, ixL_at (k := 2) rfl rfl, by decide, fin2 _ (fun _ => rfl) fun s e => sok _ _ (by decide +kernel) e⟩
      · exact ⟨_, ixL_at (k := 3) rfl rfl, by decide, fin2 _ (fun _ => rfl) fun s e => sok _ _ (by decide +kernel) e⟩
      · exact ⟨_, ixL_at (k := 4) rfl rfl, by decide, fin2 _ (fun _ => rfl) fun s e => sok _ _ (by decide +kernel) e⟩
      · exact ⟨_, ixL_at (k := 5) rfl rfl, by decide, fin2 _ (fun _ => rfl) fun s e => by cases e⟩
      · exact ⟨_, ixL_at (k := 6) rfl rfl, by decide, fin2 _ (fun _ => rfl) fun s e => by cases e⟩
      · exact ⟨_, ixL_at (k := 7) rfl rfl, by decide, fin2 _ (fun _ => rfl) fun s e => by cases e⟩
    · rw [if_neg (by rw [eqI_f h0]; decide)]
      exact hn _ _ ⟨rfl, rfl⟩
  obtain ⟨rfl, rfl⟩ := h
  refine dSeq_then (fun γ' M' => γ' = [some (.ref p), some (.int n), some (barD f cs ws), some (wordW f), some (tupI cs), some (.tup (ws.map tupI)), some (.int k), none, none] ∧ M' = M3) (fun nx hn => ?_) (fun γ3 M4 h => ?_)
  · simp only [dIfS, dTest, dOp, dEq, dVar, dC, if_true, if_false, ite_true, ite_false, Bool.false_eq_true, reduceIte, Bool.not_true, Bool.not_false, List.getElem?_cons_zero, List.getElem?_cons_succ, List.set_cons_zero, List.set_cons_succ, List.map_cons, List.map_nil, List.replicate, List.cons_append, List.nil_append, List.length_cons, List.length_nil, dstart]
    refine ⟨rfl, rfl, ?_⟩
    by_cases h0 : k = 1
    · rw [if_pos (eqI_t h0)]
      simp only [barD, dInsert, dVar, dC, dOp, dTest, dII, dIC, dFld, dFldS, dMake, dppNil, dppCons, dMerge, dDisp, dCatL, dExtend, dRg1, dLstRg, dChain, dEq, dAnd, dOr, dNot, dNext, dSeq, dDrop, dRet, dIfS, dNever, dFrzS, hName, hNil, hCons, hTup, hSub, dAsg, dNil, dCons, dTup, dLst, dLstM, dIx, dSet, dCall, dwipe, dYes, jSeq, jRng1, jRng2, dCB, dLen, dList, dListM, dTuple, dII2, dAbs, dInt, dBM0, dBM, dAppend, dPop, dPopAt, dAndV, dNotV, dNeg, dIn, dCat, dNoPart, dPart, dSl, dNewT, dIsi, dLc, dFor, dDc, dLenSetG, dLc2, dFrzE, dLcH, dKdIn, dKdIx, jZipM, if_true, if_false, ite_true, ite_false, Bool.false_eq_true, reduceIte, Bool.not_true, Bool.not_false, List.getElem?_cons_zero, List.getElem?_cons_succ, List.set_cons_zero, List.set_cons_succ, List.map_cons, List.map_nil, List.replicate, List.cons_append, List.nil_append, List.length_cons, List.length_nil, dstart]
      refine ⟨_, rfl, by decide, by decide, by decide, by decide, by decide, fun a ha => ⟨_, rfl, fun _ => ⟨by decide, .dk [.inr (Str.ofString "five")] [.int 0], mdel (DL.mset M3 a (.dK (dput [] (.inr (Str.ofString "five")) (.int 0)))) a, by simp only [frzV, mset_same]; rfl, by decide, ?_⟩⟩⟩
      have pa := d2.some ha
      have ha1 := E2.fresh (by simpa using pa) ha
      refine ⟨p, 10, rfl, (d2.mset pa).mdel pa, by decide, by decide, fun r M5 r0 r1 d5 a5 => ?_⟩
      have E5 : Ext M1 M5 [p] := ((E2.mset ha1).mdel ha1).trans a5.ext
      have fin2 : ∀ w : D, ThW w → fin Q w M5 := fun w h => fin_self (q _ M5 h d5 E5)
      dsimp only
      have no3 : ∀ l : List D, l.length ≠ 3 → ∀ w c y, D.tup l ≠ .tup [w, c, y] := fun l hl w c y e => by
        injection e with e
        rw [e] at hl
        exact hl rfl
      rcases (by omega : r = 0 ∨ r = 1 ∨ r = 2 ∨ r = 3 ∨ r = 4 ∨ r = 5 ∨ r = 6 ∨ r = 7 ∨ r = 8 ∨ r = 9) with rfl | rfl | rfl | rfl | rfl | rfl | rfl | rfl | rfl | rfl
      · exact ⟨_, ixL_at (k := 0) rfl rfl, fin2 _ (thW_of (fun _ => rfl) (fun l e => by cases e) fun w c y e => by cases e)⟩
      · exact ⟨_, ixL_at (k := 1) rfl rfl, fin2 _ (thW_of (fun _ => rfl) (fun l e => by cases e) (no3 _ (by simp)))⟩
      · exact ⟨_, ixL_at (k := 2) rfl rfl, fin2 _ (thW_of (fun _ => rfl) (fun l e => by cases e) fun w c y e => by cases e)⟩
      · exact ⟨_, ixL_at (k := 3) rfl rfl, fin2 _ (thW_of Wt (fun l e => by cases f <;> cases e) fun w c y e => by cases f <;> cases e)⟩
      · exact ⟨_, ixL_at (k := 4) rfl rfl, fin2 _ (thW_of (fun _ => rfl) (fun l e => by cases e) (no3 _ (by simp)))⟩
      · exact ⟨_, ixL_at (k := 5) rfl rfl, fin2 _ (thW_of (fun _ => rfl) (fun l e => by cases e) (no3 _ (by simp)))⟩
      · exact ⟨_, ixL_at (k := 6) rfl rfl, fin2 _ (thW_of (fun _ => rfl) (fun l e => by cases e) (no3 _ (by simp)))⟩
      · exact ⟨_, ixL_at (k := 7) rfl rfl, fin2 _ (thW_of (fun _ => rfl) (fun l e => by cases e) fun w c y e => by cases e)⟩
      · exact ⟨_, ixL_at (k := 8) rfl rfl, fin2 _ (thW_of (fun _ => rfl) (fun l e => by cases e) fun w c y e => by cases e)⟩
      · exact ⟨_, ixL_at (k := 9) rfl rfl, fin2 _ (thW_of (fun _ => rfl) (fun l e => by cases e) fun w c y e => by cases e)⟩
    · rw [if_neg (by rw [eqI_f h0]; decide)]
      exact hn _ _ ⟨rfl, rfl⟩
  obtain ⟨rfl, rfl⟩ := h
  refine dSeq_then (fun γ' M' => γ' = [some (.ref p), some (.int n), some (barD f cs ws), some (wordW f), some (tupI cs), some (.tup (ws.map tupI)), some (.int k), none, none] ∧ M' = M4) (fun nx hn => ?_) (fun γ3 M5 h => ?_)
  · simp only [dIfS, dTest, dOp, dEq, dVar, dC, if_true, if_false, ite_true, ite_false, Bool.false_eq_true, reduceIte, Bool.not_true, Bool.not_false, List.getElem?_cons_zero, List.getElem?_cons_succ, List.set_cons_zero, List.set_cons_succ, List.map_cons, List.map_nil, List.replicate, List.cons_append, List.nil_append, List.length_cons, List.length_nil, dstart]
    refine ⟨rfl, rfl, ?_⟩
    by_cases h0 : k = 2
    · rw [if_pos (eqI_t h0)]
      simp only [dInsert, dVar, dC, dOp, dTest, dII, dIC, dFld, dFldS, dMake, dppNil, dppCons, dMerge, dDisp, dCatL, dExtend, dRg1, dLstRg, dChain, dEq, dAnd, dOr, dNot, dNext, dSeq, dDrop, dRet, dIfS, dNever, dFrzS, hName, hNil, hCons, hTup, hSub, dAsg, dNil, dCons, dTup, dLst, dLstM, dIx, dSet, dCall, dwipe, dYes, jSeq, jRng1, jRng2, dCB, dLen, dList, dListM, dTuple, dII2, dAbs, dInt, dBM0, dBM, dAppend, dPop, dPopAt, dAndV, dNotV, dNeg, dIn, dCat, dNoPart, dPart, dSl, dNewT, dIsi, dLc, dFor, dDc, dLenSetG, dLc2, dFrzE, dLcH, dKdIn, dKdIx, jZipM, if_true, if_false, ite_true, ite_false, Bool.false_eq_true, reduceIte, Bool.not_true, Bool.not_false, List.getElem?_cons_zero, List.getElem?_cons_succ, List.set_cons_zero, List.set_cons_succ, List.map_cons, List.map_nil, List.replicate, List.cons_append, List.nil_append, List.length_cons, List.length_nil, dstart]
      exact ⟨p, n, cs, rfl, n1, n8, c2, c8, d2, fun y M6 hy d6 E6 => ⟨by decide, fin_self (q _ M6 (thW_tup Wt Wok hy Rw) d6 (E2.trans E6))⟩⟩
    · rw [if_neg (by rw [eqI_f h0]; decide)]
      exact hn _ _ ⟨rfl, rfl⟩
  obtain ⟨rfl, rfl⟩ := h
  simp only [dInsert, dVar, dC, dOp, dTest, dII, dIC, dFld, dFldS, dMake, dppNil, dppCons, dMerge, dDisp, dCatL, dExtend, dRg1, dLstRg, dChain, dEq, dAnd, dOr, dNot, dNext, dSeq, dDrop, dRet, dIfS, dNever, dFrzS, hName, hNil, hCons, hTup, hSub, dAsg, dNil, dCons, dTup, dLst, dLstM, dIx, dSet, dCall, dwipe, dYes, jSeq, jRng1, jRng2, dCB, dLen, dList, dListM, dTuple, dII2, dAbs, dInt, dBM0, dBM, dAppend, dPop, dPopAt, dAndV, dNotV, dNeg, dIn, dCat, dNoPart, dPart, dSl, dNewT, dIsi, dLc, dFor, dDc, dLenSetG, dLc2, dFrzE, dLcH, dKdIn, dKdIx, jZipM, if_true, if_false, ite_true, ite_false, Bool.false_eq_true, reduceIte, Bool.not_true, Bool.not_false, List.getElem?_cons_zero, List.getElem?_cons_succ, List.set_cons_zero, List.set_cons_succ, List.map_cons, List.map_nil, List.replicate, List.cons_append, List.nil_append, List.length_cons, List.length_nil, dstart]
  exact ⟨p, n, ws, rfl, n1, n8, w2, w10, wu, d2, fun y M6 hy d6 E6 => ⟨by decide, fin_self (q _ M6 (thW_tup Wt Wok Rc hy) d6 (E2.trans E6))⟩⟩
theorem sc__law_struck : FnScope ["_law_dice_here", "_law_ties", "_law_paper", "_law_way", "_law_at", "_law_gone", "_law_tie"] ["_law_dice_here", "_law_ties", "_law_paper"] (defScope s__law_struck) := ⟨rfl, rfl, rfl, by decide +kernel, rfl, by decide +kernel, by decide +kernel⟩
def sp__law_struck : DSp := fun ds M Q _ => ∃ (p : Addr) (n : Int) (ps : List (Int × Int)) (f : Bool) (cs : List Int) (ws : List (List Int)), ds = [.ref p, .tup (ps.map prD), barD f cs ws] ∧ DiL M p ∧ PrsOk n ps ∧ ps.length ≤ 1000 ∧ 1 ≤ ws.length ∧ ws.length ≤ 10 ∧ (∀ us ∈ ws, 2 ≤ us.length ∧ us.length ≤ 8) ∧ ∀ (us : List Int) (j : Nat) a b M2, us ∈ ws → us[j]? = some a → us[j + 1]? = some b → DiL M2 p → Ext M M2 [p] → Q (.tup ((ps.filter fun r => decide (r ≠ nrm a b)).map prD)) M2
theorem c__law_struck (F : DFun K mg "_law_struck" s__law_struck ["_law_dice_here", "_law_ties", "_law_paper"]) (B : Bn mg) (G : Gs mg) (c__law_draw : DCal P w K mg base CX0 1 "_law_draw" sp__law_draw) (c__law_pair : DCal P w K mg base CX0 1 "_law_pair" sp__law_pair) : DCal P w K mg base CX0 2 "_law_struck" sp__law_struck := by
  refine dok F sc__law_struck (fun ds M Q E h => (by obtain ⟨_, h⟩ := h; first | (obtain ⟨e, _⟩ := h; subst e; rfl) | (obtain ⟨_, e, _⟩ := h; subst e; rfl) | (obtain ⟨_, _, e, _⟩ := h; subst e; rfl) | (obtain ⟨_, _, _, e, _⟩ := h; subst e; rfl) | (obtain ⟨_, _, _, _, e, _⟩ := h; subst e; rfl) | (obtain ⟨_, _, _, _, _, e, _⟩ := h; subst e; rfl) | (obtain ⟨_, _, _, _, _, _, e, _⟩ := h; subst e; rfl) | (obtain ⟨_, _, _, _, _, _, _, e, _⟩ := h; subst e; rfl) | (obtain ⟨_, _, _, _, _, _, _, _, e, _⟩ := h; subst e; rfl) | (obtain ⟨_, _, _, _, _, _, _, _, _, e, _⟩ := h; subst e; rfl) | (obtain ⟨_, _, _, _, _, _, _, _, _, _, e, _⟩ := h; subst e; rfl) | (obtain ⟨_, _, _, _, _, _, _, _, _, _, _, e, _⟩ := h; subst e; rfl) | (obtain ⟨_, _, _, _, _, _, _, _, _, _, _, _, e, _⟩ := h; subst e; rfl) | (obtain ⟨_, _, _, _, _, _, _, _, _, _, _, _, _, e, _⟩ := h; subst e; rfl) | (obtain ⟨_, _, _, _, _, _, _, _, _, _, _, _, _, _, e, _⟩ := h; subst e; rfl) | (obtain ⟨_, _, _, _, _, _, _, _, _, _, _, _, _, _, _, e, _⟩ := h; subst e; rfl) | (obtain ⟨_, _, _, _, _, _, _, _, _, _, _, _, _, _, _, _, e, _⟩ := h; subst e; rfl) | (obtain ⟨_, _, _, _, _, _, _, _, _, _, _, _, _, _, _, _, _, e, _⟩ := h; subst e; rfl) | (obtain ⟨_, _, _, _, _, _, _, _, _, _, _, _, _, _, _, _, _, _, e, _⟩ := h; subst e; rfl) | (obtain ⟨_, _, _, _, _, _, _, _, _, _, _, _, _, _, _, _, _, _, _, e, _⟩ := h; subst e; rfl) | (obtain ⟨_, _, _, _, _, _, _, _, _, _, _, _, _, _, _, _, _, _, _, _, e, _⟩ := h; subst e; rfl) | (obtain ⟨_, _, _, _, _, _, _, _, _, _, _, _, _, _, _, _, _, _, _, _, _, e, _⟩ := h; subst e; rfl) | (obtain ⟨_, _, _, _, _, _, _, _, _, _, _, _, _, _, _, _, _, _, _, _, _, _, e, _⟩ := h; subst e; rfl) | (obtain ⟨_, _, _, _, _, _, _, _, _, _, _, _, _, _, _, _, _, _, _, _, _, _, _, e, _⟩ := h; subst e; rfl) | (obtain ⟨_, _, _, _, _, _, _, _, _, _, _, _, _, _, _, _, _, _, _, _, _, _, _, _, e, _⟩ := h; subst e; rfl) | (obtain ⟨_, _, _, _, _, _, _, _, _, _, _, _, _, _, _, _, _, _, _, _, _, _, _, _, _, e, _⟩ := h; subst e; rfl))) (fun f cdv A outer s H E F0 hr => ?_)
  have nd := (sc__law_struck).nd
  refine ⟨_, _, (db_cons (ds_set 3 nd (de_ix hr (de_ix hr (de_var 2) de_int) (de_call c__law_draw hr (goes0A (E := DXK.no)) (da_cons (de_var 0) (da_cons (de_len B.len (da_cons (de_ix hr (de_var 2) de_int) da_nil)) da_nil)))))
      (db_cons (ds_set 4 nd (de_call c__law_draw hr (goes0A (E := DXK.no)) (da_cons (de_var 0) (da_cons (de_sub (de_len B.len (da_cons (de_var 3) da_nil)) de_int) da_nil))))
      (db_cons (ds_set 5 nd (de_call c__law_pair hr (goes0A (E := DXK.no)) (da_cons (de_ix hr (de_var 3) (de_var 4)) (da_cons (de_ix hr (de_var 3) (de_add (de_var 4) de_int)) da_nil))))
      (db_one (ds_ret (de_bty call_tuple_of lc_tuple B.tuple (da_cons (dx_lc (own := [("_law_tie", 6)]) rfl nd (di_seq (de_var 1)) (blkOk_by (N := ["_law_dice_here", "_law_ties", "_law_paper", "_law_way", "_law_at", "_law_gone", "_law_tie"]) (sc := defScope s__law_struck) (by decide +kernel)) (fun _ _ _ _ _ => ⟨_, (dg_name 6 nd), (gw_name (by decide))⟩) (fun _ _ _ _ _ => ⟨_, (dts_one (dt_ne hr (de_var 6) (de_var 5)))⟩) (fun _ _ _ _ _ => ⟨_, (de_var 6)⟩)) da_nil))))))), ?_⟩
  rintro ds M Q E ⟨p, n, ps, f, cs, ws, rfl, hp, ok, pl, w1, w10, wu, q⟩
  simp only [barD, dInsert, dVar, dC, dOp, dTest, dII, dIC, dFld, dFldS, dMake, dppNil, dppCons, dMerge, dDisp, dCatL, dExtend, dRg1, dLstRg, dChain, dEq, dAnd, dOr, dNot, dNext, dSeq, dDrop, dRet, dIfS, dNever, dFrzS, hName, hNil, hCons, hTup, hSub, dAsg, dNil, dCons, dTup, dLst, dLstM, dIx, dSet, dCall, dwipe, dYes, jSeq, jRng1, jRng2, dCB, dLen, dList, dListM, dTuple, dII2, dAbs, dInt, dBM0, dBM, dAppend, dPop, dPopAt, dAndV, dNotV, dNeg, dIn, dCat, dNoPart, dPart, dSl, dNewT, dIsi, dLc, dFor, dDc, dLenSetG, dLc2, dFrzE, dLcH, dKdIn, dKdIx, jZipM, if_true, if_false, ite_true, ite_false, Bool.false_eq_true, reduceIte, Bool.not_true, Bool.not_false, List.getElem?_cons_zero, List.getElem?_cons_succ, List.set_cons_zero, List.set_cons_succ, List.map_cons, List.map_nil, List.replicate, List.cons_append, List.nil_append, List.length_cons, List.length_nil, dstart]
  have g2 : ∀ M, dIxV M (.tup [wordW f, tupI cs, .tup (ws.map tupI)]) (.int 2) = some (.tup (ws.map tupI)) := fun M => ixT_at (k := 2) rfl rfl
  refine ⟨_, g2 _, _, g2 _, ws.length, by simp only [lenV, List.length_map], p, _, rfl, hp, by omega, by omega, fun r M2 r0 r1 d2 a2 => ?_⟩
  obtain ⟨us, hu⟩ : ∃ us, ws[r.toNat]? = some us := ⟨_, List.getElem?_eq_getElem (by omega)⟩
  have um := List.mem_of_getElem? hu
  have ul := wu us um
  refine ⟨tupI us, ixT_at (k := r.toNat) (by omega) (by rw [List.getElem?_map, hu]; rfl), us.length, by simp only [tupI, lenV, List.length_map], p, _, rfl, d2, by omega, by omega, fun j M3 j0 j1 d3 a3 => ?_⟩
  obtain ⟨a, ha⟩ : ∃ a, us[j.toNat]? = some a := ⟨_, List.getElem?_eq_getElem (by omega)⟩
  obtain ⟨b, hb⟩ : ∃ b, us[j.toNat + 1]? = some b := ⟨_, List.getElem?_eq_getElem (by omega)⟩
  refine ⟨.int a, ixT_at (k := j.toNat) (by omega) (by rw [List.getElem?_map, ha]; rfl), .int b, ixT_at (k := j.toNat + 1) (by omega) (by rw [List.getElem?_map, hb]; rfl), a, b, rfl, len_ok (by rw [List.length_map]; omega), ?_⟩
  have q2 := q us j.toNat a b M3 um ha hb d3 (a2.ext.trans a3.ext)
  refine ⟨fun i acc M' => acc = ((ps.take i).filter fun r => decide (r ≠ nrm a b)).map prD ∧ M' = M3, ⟨rfl, rfl⟩, ?_, ?_⟩
  · rintro i e acc M' he ⟨rfl, rfl⟩
    obtain ⟨w, hw, rfl⟩ := get_pr he
    simp only [dInsert, dVar, dC, dOp, dTest, dII, dIC, dFld, dFldS, dMake, dppNil, dppCons, dMerge, dDisp, dCatL, dExtend, dRg1, dLstRg, dChain, dEq, dAnd, dOr, dNot, dNext, dSeq, dDrop, dRet, dIfS, dNever, dFrzS, hName, hNil, hCons, hTup, hSub, dAsg, dNil, dCons, dTup, dLst, dLstM, dIx, dSet, dCall, dwipe, dYes, jSeq, jRng1, jRng2, dCB, dLen, dList, dListM, dTuple, dII2, dAbs, dInt, dBM0, dBM, dAppend, dPop, dPopAt, dAndV, dNotV, dNeg, dIn, dCat, dNoPart, dPart, dSl, dNewT, dIsi, dLc, dFor, dDc, dLenSetG, dLc2, dFrzE, dLcH, dKdIn, dKdIx, jZipM, if_true, if_false, ite_true, ite_false, Bool.false_eq_true, reduceIte, Bool.not_true, Bool.not_false, List.getElem?_cons_zero, List.getElem?_cons_succ, List.set_cons_zero, List.set_cons_succ, List.map_cons, List.map_nil, List.replicate, List.cons_append, List.nil_append, List.length_cons, List.length_nil, dstart]
    refine ⟨okL_int [w.1, w.2] 59, okL_int [_, _] 59, ?_⟩
    rw [show (if b < a then b else a, if a < b then b else a) = nrm a b from rfl, prD_eq, take_succ_of hw, List.filter_append]
    by_cases e : w = nrm a b
    · rw [if_neg (by simp [e])]
      refine ⟨?_, trivial⟩
      rw [List.filter_cons_of_neg (by simp [e]), List.filter_nil, List.append_nil]
    · rw [if_pos (by simp [e])]
      refine ⟨?_, trivial⟩
      rw [List.filter_cons_of_pos (by simp [e]), List.filter_nil, List.map_append]
      rfl
  · rintro acc M' ⟨rfl, rfl⟩
    rw [List.length_map, List.take_length]
    exact fin_self q2
theorem sc__law_turned : FnScope ["_law_dice_here", "_law_paper", "_law_word", "_law_corners", "_law_ways", "_law_found", "_law_way", "_law_row", "_law_sides", "_law_first", "_law_one", "_law_two"] ["_law_dice_here", "_law_paper"] (defScope s__law_turned) := ⟨rfl, rfl, rfl, by decide +kernel, rfl, by decide +kernel, by decide +kernel⟩
def sp__law_turned : DSp := fun ds M Q _ => ∃ (p : Addr) (n : Int) (ps : List (Int × Int)) (f : Bool) (cs : List Int) (ws : List (List Int)), ds = [.ref p, barD f cs ws] ∧ DiL M p ∧ n ≤ 8 ∧ BarP n ps f cs ws ∧ ∀ cs2 ws2 M2, BarP n ps f cs2 ws2 → (StrOk n ps ws → StrOk n ps ws2) → DiL M2 p → Ext M M2 [p] → Q (barD f cs2 ws2) M2
theorem c__law_turned (F : DFun K mg "_law_turned" s__law_turned ["_law_dice_here", "_law_paper"]) (B : Bn mg) (G : Gs mg) (c__law_draw : DCal P w K mg base CX0 1 "_law_draw" sp__law_draw) (c__law_pairs : DCal P w K mg base CX0 1 "_law_pairs" sp__law_pairs) (c__law_shuffled : DCal P w K mg base CX0 2 "_law_shuffled" sp__law_shuffled) : DCal P w K mg base CX0 3 "_law_turned" sp__law_turned := by
  refine dok F sc__law_turned (fun ds M Q E h => (by obtain ⟨_, h⟩ := h; first | (obtain ⟨e, _⟩ := h; subst e; rfl) | (obtain ⟨_, e, _⟩ := h; subst e; rfl) | (obtain ⟨_, _, e, _⟩ := h; subst e; rfl) | (obtain ⟨_, _, _, e, _⟩ := h; subst e; rfl) | (obtain ⟨_, _, _, _, e, _⟩ := h; subst e; rfl) | (obtain ⟨_, _, _, _, _, e, _⟩ := h; subst e; rfl) | (obtain ⟨_, _, _, _, _, _, e, _⟩ := h; subst e; rfl) | (obtain ⟨_, _, _, _, _, _, _, e, _⟩ := h; subst e; rfl) | (obtain ⟨_, _, _, _, _, _, _, _, e, _⟩ := h; subst e; rfl) | (obtain ⟨_, _, _, _, _, _, _, _, _, e, _⟩ := h; subst e; rfl) | (obtain ⟨_, _, _, _, _, _, _, _, _, _, e, _⟩ := h; subst e; rfl) | (obtain ⟨_, _, _, _, _, _, _, _, _, _, _, e, _⟩ := h; subst e; rfl) | (obtain ⟨_, _, _, _, _, _, _, _, _, _, _, _, e, _⟩ := h; subst e; rfl) | (obtain ⟨_, _, _, _, _, _, _, _, _, _, _, _, _, e, _⟩ := h; subst e; rfl) | (obtain ⟨_, _, _, _, _, _, _, _, _, _, _, _, _, _, e, _⟩ := h; subst e; rfl) | (obtain ⟨_, _, _, _, _, _, _, _, _, _, _, _, _, _, _, e, _⟩ := h; subst e; rfl) | (obtain ⟨_, _, _, _, _, _, _, _, _, _, _, _, _, _, _, _, e, _⟩ := h; subst e; rfl) | (obtain ⟨_, _, _, _, _, _, _, _, _, _, _, _, _, _, _, _, _, e, _⟩ := h; subst e; rfl) | (obtain ⟨_, _, _, _, _, _, _, _, _, _, _, _, _, _, _, _, _, _, e, _⟩ := h; subst e; rfl) | (obtain ⟨_, _, _, _, _, _, _, _, _, _, _, _, _, _, _, _, _, _, _, e, _⟩ := h; subst e; rfl) | (obtain ⟨_, _, _, _, _, _, _, _, _, _, _, _, _, _, _, _, _, _, _, _, e, _⟩ := h; subst e; rfl) | (obtain ⟨_, _, _, _, _, _, _, _, _, _, _, _, _, _, _, _, _, _, _, _, _, e, _⟩ := h; subst e; rfl) | (obtain ⟨_, _, _, _, _, _, _, _, _, _, _, _, _, _, _, _, _, _, _, _, _, _, e, _⟩ := h; subst e; rfl) | (obtain ⟨_, _, _, _, _, _, _, _, _, _, _, _, _, _, _, _, _, _, _, _, _, _, _, e, _⟩ := h; subst e; rfl) | (obtain ⟨_, _, _, _, _, _, _, _, _, _, _, _, _, _, _, _, _, _, _, _, _, _, _, _, e, _⟩ := h; subst e; rfl) | (obtain ⟨_, _, _, _, _, _, _, _, _, _, _, _, _, _, _, _, _, _, _, _, _, _, _, _, _, e, _⟩ := h; subst e; rfl))) (fun f cdv A outer s H E F0 hr => ?_)
  have nd := (sc__law_turned).nd
  refine ⟨_, _, (db_cons (ds_asg (de_var 1) (dg_tup (n := 3) rfl (dgs_cons (dg_name 2 nd) (dgs_cons (dg_name 3 nd) (dgs_cons (dg_name 4 nd) dgs_nil)))))
      (db_cons (ds_set 5 nd de_newT)
      (db_cons (ds_for PassesOwn.never rfl (di_seq (de_var 4)) (dg_name 6 nd) (db_cons (ds_put hr (de_var 5) (de_tup (da_cons (de_ix hr (de_var 6) de_int) (da_cons (de_ix hr (de_var 6) (de_neg de_int)) da_nil))) (de_var 6))
      (db_one (ds_put hr (de_var 5) (de_tup (da_cons (de_ix hr (de_var 6) (de_neg de_int)) (da_cons (de_ix hr (de_var 6) de_int) da_nil))) (de_revT (de_var 6))))))
      (db_cons (ds_set 7 nd (de_call c__law_shuffled hr (goes0A (E := DXK.no)) (da_cons (de_var 0) (da_cons (de_var 3) da_nil))))
      (db_cons (ds_if (dt_eq hr (de_var 2) de_str) (db_cons (ds_set 8 nd (de_lst (da_cons (de_call c__law_shuffled hr (goes0A (E := DXK.no)) (da_cons (de_var 0) (da_cons (de_slice (de_var 3) do_none (do_some de_int)) da_nil))) (da_cons (de_call c__law_shuffled hr (goes0A (E := DXK.no)) (da_cons (de_var 0) (da_cons (de_slice (de_var 3) (do_some de_int) do_none) da_nil))) da_nil))))
      (db_cons (ds_set 9 nd (de_call c__law_draw hr (goes0A (E := DXK.no)) (da_cons (de_var 0) (da_cons de_int da_nil))))
      (db_one (ds_set 7 nd (de_cat (de_ix hr (de_var 8) (de_var 9)) (de_ix hr (de_var 8) (de_sub de_int (de_var 9)))))))) db_nil)
      (db_one (ds_ret (de_tup (da_cons (de_var 2) (da_cons (de_var 7) (da_cons (de_bty call_tuple_of lc_tuple B.tuple (da_cons (dx_lc (own := [("_law_one", 10), ("_law_two", 11)]) rfl nd (di_seq (de_call c__law_pairs hr (goes0A (E := DXK.no)) (da_cons (de_var 2) da_nil))) (blkOk_by (N := ["_law_dice_here", "_law_paper", "_law_word", "_law_corners", "_law_ways", "_law_found", "_law_way", "_law_row", "_law_sides", "_law_first", "_law_one", "_law_two"]) (sc := defScope s__law_turned) (by decide +kernel)) (fun _ _ _ _ _ => ⟨_, (dg_tup (n := 2) rfl (dgs_cons (dg_name 10 nd) (dgs_cons (dg_name 11 nd) dgs_nil))), (gw_tup (gws_cons gm_name (gm_cons gm_name gm_nil) (gw_name (by decide)) (gws_cons gm_name gm_nil (gw_name (by decide)) gws_nil)))⟩) (fun _ _ _ _ _ => ⟨_, dts_nil⟩) (fun _ _ _ _ _ => ⟨_, (de_ix hr (de_var 5) (de_tup (da_cons (de_ix hr (de_var 7) (de_var 10)) (da_cons (de_ix hr (de_var 7) (de_var 11)) da_nil))))⟩)) da_nil)) da_nil))))))))))), ?_⟩
  rintro ds M Q E ⟨p, n, ps, f, cs, ws, rfl, hp, n8, B, q⟩
  have nd := (List.nodup_append.mp B.inn).1
  have cl := B.cl
  have c56 : corW f = 5 ∨ corW f = 6 := by cases f <;> decide
  have wl10 : (prsW f).length ≤ 10 := by cases f <;> decide
  refine dSeq_then (fun γ' M' => γ' = [some (.ref p), some (barD f cs ws), some (wordW f), some (tupI cs), some (.tup (ws.map tupI)), none, none, none, none, none, none, none] ∧ M' = M) (fun nx hn => ?_) (fun γ1 M1 h => ?_)
  · simp only [barD, dInsert, dVar, dC, dOp, dTest, dII, dIC, dFld, dFldS, dMake, dppNil, dppCons, dMerge, dDisp, dCatL, dExtend, dRg1, dLstRg, dChain, dEq, dAnd, dOr, dNot, dNext, dSeq, dDrop, dRet, dIfS, dNever, dFrzS, hName, hNil, hCons, hTup, hSub, dAsg, dNil, dCons, dTup, dLst, dLstM, dIx, dSet, dCall, dwipe, dYes, jSeq, jRng1, jRng2, dCB, dLen, dList, dListM, dTuple, dII2, dAbs, dInt, dBM0, dBM, dAppend, dPop, dPopAt, dAndV, dNotV, dNeg, dIn, dCat, dNoPart, dPart, dSl, dNewT, dIsi, dLc, dFor, dDc, dLenSetG, dLc2, dFrzE, dLcH, dKdIn, dKdIx, jZipM, if_true, if_false, ite_true, ite_false, Bool.false_eq_true, reduceIte, Bool.not_true, Bool.not_false, List.getElem?_cons_zero, List.getElem?_cons_succ, List.set_cons_zero, List.set_cons_succ, List.map_cons, List.map_nil, List.replicate, List.cons_append, List.nil_append, List.length_cons, List.length_nil, dstart]
    exact ⟨trivial, hn _ _ ⟨rfl, rfl⟩⟩
  obtain ⟨rfl, rfl⟩ := h
  refine dSeq_then (fun γ' M' => ∃ d, γ' = [some (.ref p), some (barD f cs ws), some (wordW f), some (tupI cs), some (.tup (ws.map tupI)), some (.ref d), none, none, none, none, none, none] ∧ M1 d = none ∧ M' = mset M1 d (.dT [])) (fun nx hn => ?_) (fun γ2 M2 h => ?_)
  · simp only [dInsert, dVar, dC, dOp, dTest, dII, dIC, dFld, dFldS, dMake, dppNil, dppCons, dMerge, dDisp, dCatL, dExtend, dRg1, dLstRg, dChain, dEq, dAnd, dOr, dNot, dNext, dSeq, dDrop, dRet, dIfS, dNever, dFrzS, hName, hNil, hCons, hTup, hSub, dAsg, dNil, dCons, dTup, dLst, dLstM, dIx, dSet, dCall, dwipe, dYes, jSeq, jRng1, jRng2, dCB, dLen, dList, dListM, dTuple, dII2, dAbs, dInt, dBM0, dBM, dAppend, dPop, dPopAt, dAndV, dNotV, dNeg, dIn, dCat, dNoPart, dPart, dSl, dNewT, dIsi, dLc, dFor, dDc, dLenSetG, dLc2, dFrzE, dLcH, dKdIn, dKdIx, jZipM, if_true, if_false, ite_true, ite_false, Bool.false_eq_true, reduceIte, Bool.not_true, Bool.not_false, List.getElem?_cons_zero, List.getElem?_cons_succ, List.set_cons_zero, List.set_cons_succ, List.map_cons, List.map_nil, List.replicate, List.cons_append, List.nil_append, List.length_cons, List.length_nil, dstart]
    exact fun d hd => hn _ _ ⟨d, rfl, hd, rfl⟩
  obtain ⟨d, rfl, hd, rfl⟩ := h
  refine dSeq_then (fun γ' M' => ∃ (o6 : Option D) (kvs : List (List Key × D)), γ' = [some (.ref p), some (barD f cs ws), some (wordW f), some (tupI cs), some (.tup (ws.map tupI)), some (.ref d), o6, none, none, none, none, none] ∧ TurnI f cs ws (prsW f).length kvs ∧ M' = mset M1 d (.dT kvs)) (fun nx hn => ?_) (fun γ3 M3 h => ?_)
  · simp only [dFor, jSeq, dVar, hName, if_true, if_false, ite_true, ite_false, Bool.false_eq_true, reduceIte, Bool.not_true, Bool.not_false, List.getElem?_cons_zero, List.getElem?_cons_succ, List.set_cons_zero, List.set_cons_succ, List.map_cons, List.map_nil, List.replicate, List.cons_append, List.nil_append, List.length_cons, List.length_nil, dstart]
    refine dForI_of (fun i γ M' => ∃ (o6 : Option D) (kvs : List (List Key × D)), γ = [some (.ref p), some (barD f cs ws), some (wordW f), some (tupI cs), some (.tup (ws.map tupI)), some (.ref d), o6, none, none, none, none, none] ∧ TurnI f cs ws i kvs ∧ M' = mset M1 d (.dT kvs)) ⟨none, [], rfl, ⟨by simp, fun k p us h => by omega⟩, rfl⟩ ?_ ?_
    · rintro i e γ M' he ⟨o6, kvs, rfl, T, rfl⟩
      rw [List.getElem?_map, Option.map_eq_some_iff] at he
      obtain ⟨us, hu, rfl⟩ := he
      obtain ⟨w, hw⟩ : ∃ w, (prsW f)[i]? = some w := ⟨_, List.getElem?_eq_getElem (by have := (List.getElem?_eq_some_iff.mp hu).1; have := B.wl; omega)⟩
      have W := B.way i w us hw hu
      simp only [dInsert, dVar, dC, dOp, dTest, dII, dIC, dFld, dFldS, dMake, dppNil, dppCons, dMerge, dDisp, dCatL, dExtend, dRg1, dLstRg, dChain, dEq, dAnd, dOr, dNot, dNext, dSeq, dDrop, dRet, dIfS, dNever, dFrzS, hName, hNil, hCons, hTup, hSub, dAsg, dNil, dCons, dTup, dLst, dLstM, dIx, dSet, dCall, dwipe, dYes, jSeq, jRng1, jRng2, dCB, dLen, dList, dListM, dTuple, dII2, dAbs, dInt, dBM0, dBM, dAppend, dPop, dPopAt, dAndV, dNotV, dNeg, dIn, dCat, dNoPart, dPart, dSl, dNewT, dIsi, dLc, dFor, dDc, dLenSetG, dLc2, dFrzE, dLcH, dKdIn, dKdIx, jZipM, if_true, if_false, ite_true, ite_false, Bool.false_eq_true, reduceIte, Bool.not_true, Bool.not_false, List.getElem?_cons_zero, List.getElem?_cons_succ, List.set_cons_zero, List.set_cons_succ, List.map_cons, List.map_nil, List.replicate, List.cons_append, List.nil_append, List.length_cons, List.length_nil, dstart]
      have g0 : ∀ M, dIxV M (tupI us) (.int 0) = some (.int (cs.getD w.1.toNat 0)) := fun M => ixT_at (k := 0) rfl (by rw [List.getElem?_map, W.hd]; rfl)
      have gl : ∀ M, dIxV M (tupI us) (.int (-1)) = some (.int (cs.getD w.2.toNat 0)) := fun M => by
        have l2 := W.l2
        show atI (us.map D.int) (-1) = _
        unfold atI
        rw [List.length_map, show ixN us.length (-1) = some (us.length - 1) from by unfold ixN; rw [if_neg (by decide), if_pos (by omega)]; congr 1; omega]
        simp only [Option.bind_some, List.getElem?_map, W.tl, Option.map_some]
      have st : ∀ (M0 : Mp) (kv : List (List Key × D)) (x y : Int) (v : D), M0 d = some (.dT kv) → kv.length ≤ 1000 → dStore M0 d (.tup [.int x, .int y]) v = some (DL.mset M0 d (.dT (dput kv (kkP x y) v))) := fun M0 kv x y v h1 h2 => by
        simp only [dStore, h1, keysOf, keyOf, Option.bind_some]
        rw [if_pos (len_lt (by omega))]
        rfl
      have tl := T.1
      have il := (List.getElem?_eq_some_iff.mp hw).1
      refine ⟨_, g0 _, _, gl _, by decide, _, st _ kvs _ _ _ mset_same (by omega), us.map .int, rfl, _, gl _, _, g0 _, by decide, _, st _ _ _ _ _ mset_same (by have := dput_len (k := kkP (cs.getD w.1.toNat 0) (cs.getD w.2.toNat 0)) (d := tupI us) (l := kvs); omega), _, _, rfl, turn_put cl nd T hw hu, ?_⟩
      rw [mset_mset, mset_mset]
      unfold tupI
      rw [List.map_reverse]
    · rintro γ M' ⟨o6, kvs, rfl, T, rfl⟩
      rw [List.length_map, B.wl] at T
      exact hn _ _ ⟨o6, kvs, rfl, T, rfl⟩
  obtain ⟨o6, kvs, rfl, T, rfl⟩ := h
  have dp : DiL (mset M1 d (.dT kvs)) p := hp.mset (hp.some hd)
  refine dSeq_then (fun γ' M' => ∃ (row : List Int), γ' = [some (.ref p), some (barD f cs ws), some (wordW f), some (tupI cs), some (.tup (ws.map tupI)), some (.ref d), o6, some (tupI row), none, none, none, none] ∧ row.Perm cs ∧ DiL M' p ∧ Ext (mset M1 d (.dT kvs)) M' [p]) (fun nx hn => ?_) (fun γ4 M4 h => ?_)
  · simp only [tupI, dInsert, dVar, dC, dOp, dTest, dII, dIC, dFld, dFldS, dMake, dppNil, dppCons, dMerge, dDisp, dCatL, dExtend, dRg1, dLstRg, dChain, dEq, dAnd, dOr, dNot, dNext, dSeq, dDrop, dRet, dIfS, dNever, dFrzS, hName, hNil, hCons, hTup, hSub, dAsg, dNil, dCons, dTup, dLst, dLstM, dIx, dSet, dCall, dwipe, dYes, jSeq, jRng1, jRng2, dCB, dLen, dList, dListM, dTuple, dII2, dAbs, dInt, dBM0, dBM, dAppend, dPop, dPopAt, dAndV, dNotV, dNeg, dIn, dCat, dNoPart, dPart, dSl, dNewT, dIsi, dLc, dFor, dDc, dLenSetG, dLc2, dFrzE, dLcH, dKdIn, dKdIx, jZipM, if_true, if_false, ite_true, ite_false, Bool.false_eq_true, reduceIte, Bool.not_true, Bool.not_false, List.getElem?_cons_zero, List.getElem?_cons_succ, List.set_cons_zero, List.set_cons_succ, List.map_cons, List.map_nil, List.replicate, List.cons_append, List.nil_append, List.length_cons, List.length_nil, dstart]
    refine ⟨p, _, _, rfl, rfl, dp, by rw [List.length_map]; omega, fun ms M2 d2 E2 pm => ?_⟩
    obtain ⟨row, rfl, P⟩ := perm_mapD pm
    exact hn _ _ ⟨row, rfl, P, d2, E2⟩
  obtain ⟨row, rfl, P, d4, E4⟩ := h
  refine dSeq_then (fun γ' M' => ∃ (o8 o9 : Option D) (row : List Int), γ' = [some (.ref p), some (barD f cs ws), some (wordW f), some (tupI cs), some (.tup (ws.map tupI)), some (.ref d), o6, some (tupI row), o8, o9, none, none] ∧ RowOk f cs row ∧ DiL M' p ∧ Ext (mset M1 d (.dT kvs)) M' [p]) (fun nx hn => ?_) (fun γ5 M5 h => ?_)
  · have e : (wordW f).eq (.str (Str.ofString "three")) = !f := by cases f <;> decide +kernel
    simp only [dInsert, dVar, dC, dOp, dTest, dII, dIC, dFld, dFldS, dMake, dppNil, dppCons, dMerge, dDisp, dCatL, dExtend, dRg1, dLstRg, dChain, dEq, dAnd, dOr, dNot, dNext, dSeq, dDrop, dRet, dIfS, dNever, dFrzS, hName, hNil, hCons, hTup, hSub, dAsg, dNil, dCons, dTup, dLst, dLstM, dIx, dSet, dCall, dwipe, dYes, jSeq, jRng1, jRng2, dCB, dLen, dList, dListM, dTuple, dII2, dAbs, dInt, dBM0, dBM, dAppend, dPop, dPopAt, dAndV, dNotV, dNeg, dIn, dCat, dNoPart, dPart, dSl, dNewT, dIsi, dLc, dFor, dDc, dLenSetG, dLc2, dFrzE, dLcH, dKdIn, dKdIx, jZipM, if_true, if_false, ite_true, ite_false, Bool.false_eq_true, reduceIte, Bool.not_true, Bool.not_false, List.getElem?_cons_zero, List.getElem?_cons_succ, List.set_cons_zero, List.set_cons_succ, List.map_cons, List.map_nil, List.replicate, List.cons_append, List.nil_append, List.length_cons, List.length_nil, dstart, tupI]
    refine ⟨by cases f <;> decide +kernel, by decide +kernel, ?_⟩
    rw [e]
    cases f with
    | true =>
      simp only [Bool.not_true, Bool.false_eq_true, if_false]
      exact hn _ _ ⟨none, none, row, rfl, ⟨P, fun h => by cases h⟩, d4, E4⟩
    | false =>
      simp only [Bool.not_false, if_true]
      have cl6 : cs.length = 6 := cl
      have c1 : cutD (cs.map D.int) none (some 3) = (cs.take 3).map .int := by
        have := cutD_takeB (xs := cs.map D.int) (k := 3) (by rw [List.length_map]; omega)
        rw [List.map_take]
        exact this
      have c2 : cutD (cs.map D.int) (some 3) none = (cs.drop 3).map .int := by
        have := cutD_dropB (xs := cs.map D.int) (k := 3) (by rw [List.length_map]; omega)
        rw [List.map_drop]
        exact this
      rw [c1, c2]
      refine ⟨p, _, _, rfl, rfl, d4, by rw [List.length_map, List.length_take]; omega, fun ms M6 d6 E6 pm => ?_⟩
      obtain ⟨A, rfl, PA⟩ := perm_mapD pm
      refine ⟨p, _, _, rfl, rfl, d6, by rw [List.length_map, List.length_drop]; omega, fun ms M7 d7 E7 pm => ⟨by decide, ?_⟩⟩
      obtain ⟨C, rfl, PC⟩ := perm_mapD pm
      obtain ⟨R1, R2⟩ := two_sides cl6 PA PC
      have la : A.length ≤ 3 := by rw [PA.length_eq, List.length_take]; omega
      have lc : C.length ≤ 6 := by rw [PC.length_eq, List.length_drop]; omega
      refine ⟨p, 2, rfl, d7, by decide, by decide, fun r M8 r0 r1 d8 a8 => ?_⟩
      have E8 := ((E4.trans E6).trans E7).trans a8.ext
      rcases (by omega : r = 0 ∨ r = 1) with rfl | rfl
      · refine ⟨_, ixL_at (k := 0) rfl rfl, _, ixL_at (k := 1) rfl rfl, ?_⟩
        simp only [← List.map_append]
        exact ⟨len_ok (by simp only [List.length_map]; omega), hn _ _ ⟨_, _, A ++ C, rfl, R1, d8, E8⟩⟩
      · refine ⟨_, ixL_at (k := 1) rfl rfl, _, ixL_at (k := 0) rfl rfl, ?_⟩
        simp only [← List.map_append]
        exact ⟨len_ok (by simp only [List.length_map]; omega), hn _ _ ⟨_, _, C ++ A, rfl, R2, d8, E8⟩⟩
  obtain ⟨o8, o9, row, rfl, R, d5, E5⟩ := h
  simp only [dInsert, dVar, dC, dOp, dTest, dII, dIC, dFld, dFldS, dMake, dppNil, dppCons, dMerge, dDisp, dCatL, dExtend, dRg1, dLstRg, dChain, dEq, dAnd, dOr, dNot, dNext, dSeq, dDrop, dRet, dIfS, dNever, dFrzS, hName, hNil, hCons, hTup, hSub, dAsg, dNil, dCons, dTup, dLst, dLstM, dIx, dSet, dCall, dwipe, dYes, jSeq, jRng1, jRng2, dCB, dLen, dList, dListM, dTuple, dII2, dAbs, dInt, dBM0, dBM, dAppend, dPop, dPopAt, dAndV, dNotV, dNeg, dIn, dCat, dNoPart, dPart, dSl, dNewT, dIsi, dLc, dFor, dDc, dLenSetG, dLc2, dFrzE, dLcH, dKdIn, dKdIx, jZipM, if_true, if_false, ite_true, ite_false, Bool.false_eq_true, reduceIte, Bool.not_true, Bool.not_false, List.getElem?_cons_zero, List.getElem?_cons_succ, List.set_cons_zero, List.set_cons_succ, List.map_cons, List.map_nil, List.replicate, List.cons_append, List.nil_append, List.length_cons, List.length_nil, dstart]
  refine ⟨f, rfl, len_ok (by rw [List.length_map]; omega), ?_⟩
  have D5 : M5 d = some (.dT kvs) := E5 d _ (by simpa using hp.some hd) mset_same
  refine ⟨fun i acc M' => ∃ ws2 : List (List Int), acc = ws2.map tupI ∧ ws2.length = i ∧ (∀ (k : Nat) p v, (prsW f)[k]? = some p → ws2[k]? = some v → EdgeW f cs ws (row.getD p.1.toNat 0) (row.getD p.2.toNat 0) v) ∧ M' = M5, ⟨[], rfl, rfl, fun k p v _ h => by simp at h, rfl⟩, ?_, ?_⟩
  · rintro i e acc M' he ⟨ws2, rfl, wl, ed, rfl⟩
    obtain ⟨w, hw, rfl⟩ := get_pr he
    simp only [prD, dInsert, dVar, dC, dOp, dTest, dII, dIC, dFld, dFldS, dMake, dppNil, dppCons, dMerge, dDisp, dCatL, dExtend, dRg1, dLstRg, dChain, dEq, dAnd, dOr, dNot, dNext, dSeq, dDrop, dRet, dIfS, dNever, dFrzS, hName, hNil, hCons, hTup, hSub, dAsg, dNil, dCons, dTup, dLst, dLstM, dIx, dSet, dCall, dwipe, dYes, jSeq, jRng1, jRng2, dCB, dLen, dList, dListM, dTuple, dII2, dAbs, dInt, dBM0, dBM, dAppend, dPop, dPopAt, dAndV, dNotV, dNeg, dIn, dCat, dNoPart, dPart, dSl, dNewT, dIsi, dLc, dFor, dDc, dLenSetG, dLc2, dFrzE, dLcH, dKdIn, dKdIx, jZipM, if_true, if_false, ite_true, ite_false, Bool.false_eq_true, reduceIte, Bool.not_true, Bool.not_false, List.getElem?_cons_zero, List.getElem?_cons_succ, List.set_cons_zero, List.set_cons_succ, List.map_cons, List.map_nil, List.replicate, List.cons_append, List.nil_append, List.length_cons, List.length_nil, dstart]
    obtain ⟨x1, x2, we, hx1, hx2⟩ := prs_ok f i _ hw
    have rl : row.length = corW f := by rw [R.1.length_eq]; exact cl
    have look : ∀ x y v, dval kvs (kkP x y) = some v → dIxV M' (.ref d) (.tup [.int x, .int y]) = some v := fun x y v h => by
      simp only [dIxV, dLook, D5, keysOf, keyOf, Option.bind_some, Option.map_some]
      unfold kkP at h
      rw [h]
      rfl
    obtain ⟨k2, q2, hq, hor⟩ := edge_ex cl nd R hw
    obtain ⟨vs, hvs⟩ : ∃ vs, ws[k2]? = some vs := ⟨_, List.getElem?_eq_getElem (by rw [B.wl]; exact (List.getElem?_eq_some_iff.mp hq).1)⟩
    obtain ⟨t1, t2⟩ := T.2 k2 q2 vs (List.getElem?_eq_some_iff.mp hq).1 hq hvs
    have ext : ∀ v : List Int, EdgeW f cs ws (row.getD w.1.toNat 0) (row.getD w.2.toNat 0) v → ∀ (k : Nat) (p : Int × Int) (v' : List Int), (prsW f)[k]? = some p → (ws2 ++ [v])[k]? = some v' → EdgeW f cs ws (row.getD p.1.toNat 0) (row.getD p.2.toNat 0) v' := fun v hv k p v' hp hv' => by
      rcases Nat.lt_or_ge k ws2.length with l | l
      · rw [List.getElem?_append_left l] at hv'
        exact ed k p v' hp hv'
      · have kl := (List.getElem?_eq_some_iff.mp hv').1
        rw [List.length_append, List.length_singleton] at kl
        have ke : k = ws2.length := by omega
        rw [ke, List.getElem?_append_right (Nat.le_refl _), Nat.sub_self] at hv'
        have ve : v = v' := by simpa using hv'
        rw [ke, wl] at hp
        have pe := Option.some.inj (hw.symm.trans hp)
        rw [← ve, ← pe]
        exact hv
    have r1 : dIxV M' (tupI row) (.int w.1) = some (.int (row.getD w.1.toNat 0)) := ixT_at (k := w.1.toNat) (by rw [we]; simp) (by rw [List.getElem?_map, at_getD (by rw [rl, we]; simpa using hx1)]; rfl)
    have r2 : dIxV M' (tupI row) (.int w.2) = some (.int (row.getD w.2.toNat 0)) := ixT_at (k := w.2.toNat) (by rw [we]; simp) (by rw [List.getElem?_map, at_getD (by rw [rl, we]; simpa using hx2)]; rfl)
    refine ⟨trivial, _, r1, _, r2, by decide, ?_⟩
    rcases hor with ⟨o1, o2⟩ | ⟨o1, o2⟩
    · exact ⟨tupI vs, look _ _ _ (by rw [o1, o2]; exact t1), ws2 ++ [vs], by rw [List.map_append]; rfl, by rw [List.length_append, wl]; rfl, ext vs ⟨k2, q2, vs, hq, hvs, .inl ⟨o1, o2, rfl⟩⟩, trivial⟩
    · exact ⟨tupI vs.reverse, look _ _ _ (by rw [o1, o2]; exact t2), ws2 ++ [vs.reverse], by rw [List.map_append]; rfl, by rw [List.length_append, wl]; rfl, ext vs.reverse ⟨k2, q2, vs, hq, hvs, .inr ⟨o1, o2, rfl⟩⟩, trivial⟩
  · rintro acc M' ⟨ws2, rfl, wl, ed, rfl⟩
    rw [List.length_map] at wl
    obtain ⟨B2, S2⟩ := bar_turn B R.1 wl ed
    have q2 := q row ws2 _ B2 S2 d5 (((Ext.refl M1 [p]).mset hd).trans E5)
    unfold barD tupI at q2
    simp only [tupI]
    exact ⟨by decide, fin_self q2⟩
theorem sc_is_integer : FnScope ["thing"] ["thing"] (defScope s_is_integer) := ⟨rfl, rfl, rfl, by decide +kernel, rfl, by decide +kernel, by decide +kernel⟩
def sp_is_integer : DSp := fun ds M Q _ => ∃ d, ds = [d] ∧ (tyN M d).isSome = true ∧ Q (.bl d.isInt) M
theorem c_is_integer (F : DFun K mg "is_integer" s_is_integer ["thing"]) (B : Bn mg) (G : Gs mg)  : DCal P w K mg base CX0 1 "is_integer" sp_is_integer := by
  refine dok F sc_is_integer (fun ds M Q E h => (by obtain ⟨_, h⟩ := h; first | (obtain ⟨e, _⟩ := h; subst e; rfl) | (obtain ⟨_, e, _⟩ := h; subst e; rfl) | (obtain ⟨_, _, e, _⟩ := h; subst e; rfl) | (obtain ⟨_, _, _, e, _⟩ := h; subst e; rfl) | (obtain ⟨_, _, _, _, e, _⟩ := h; subst e; rfl) | (obtain ⟨_, _, _, _, _, e, _⟩ := h; subst e; rfl) | (obtain ⟨_, _, _, _, _, _, e, _⟩ := h; subst e; rfl) | (obtain ⟨_, _, _, _, _, _, _, e, _⟩ := h; subst e; rfl) | (obtain ⟨_, _, _, _, _, _, _, _, e, _⟩ := h; subst e; rfl) | (obtain ⟨_, _, _, _, _, _, _, _, _, e, _⟩ := h; subst e; rfl) | (obtain ⟨_, _, _, _, _, _, _, _, _, _, e, _⟩ := h; subst e; rfl) | (obtain ⟨_, _, _, _, _, _, _, _, _, _, _, e, _⟩ := h; subst e; rfl) | (obtain ⟨_, _, _, _, _, _, _, _, _, _, _, _, e, _⟩ := h; subst e; rfl) | (obtain ⟨_, _, _, _, _, _, _, _, _, _, _, _, _, e, _⟩ := h; subst e; rfl) | (obtain ⟨_, _, _, _, _, _, _, _, _, _, _, _, _, _, e, _⟩ := h; subst e; rfl) | (obtain ⟨_, _, _, _, _, _, _, _, _, _, _, _, _, _, _, e, _⟩ := h; subst e; rfl) | (obtain ⟨_, _, _, _, _, _, _, _, _, _, _, _, _, _, _, _, e, _⟩ := h; subst e; rfl) | (obtain ⟨_, _, _, _, _, _, _, _, _, _, _, _, _, _, _, _, _, e, _⟩ := h; subst e; rfl) | (obtain ⟨_, _, _, _, _, _, _, _, _, _, _, _, _, _, _, _, _, _, e, _⟩ := h; subst e; rfl) | (obtain ⟨_, _, _, _, _, _, _, _, _, _, _, _, _, _, _, _, _, _, _, e, _⟩ := h; subst e; rfl) | (obtain ⟨_, _, _, _, _, _, _, _, _, _, _, _, _, _, _, _, _, _, _, _, e, _⟩ := h; subst e; rfl) | (obtain ⟨_, _, _, _, _, _, _, _, _, _, _, _, _, _, _, _, _, _, _, _, _, e, _⟩ := h; subst e; rfl) | (obtain ⟨_, _, _, _, _, _, _, _, _, _, _, _, _, _, _, _, _, _, _, _, _, _, e, _⟩ := h; subst e; rfl) | (obtain ⟨_, _, _, _, _, _, _, _, _, _, _, _, _, _, _, _, _, _, _, _, _, _, _, e, _⟩ := h; subst e; rfl) | (obtain ⟨_, _, _, _, _, _, _, _, _, _, _, _, _, _, _, _, _, _, _, _, _, _, _, _, e, _⟩ := h; subst e; rfl) | (obtain ⟨_, _, _, _, _, _, _, _, _, _, _, _, _, _, _, _, _, _, _, _, _, _, _, _, _, e, _⟩ := h; subst e; rfl))) (fun f cdv A outer s H E F0 hr => ?_)
  have nd := (sc_is_integer).nd
  refine ⟨_, _, (db_one (ds_ret (de_and (de_isi B.isinstance (da_cons (de_var 0) (da_cons (de_ty (n := "int") B.int) da_nil))) (de_one (de_not (de_isi B.isinstance (da_cons (de_var 0) (da_cons (de_ty (n := "bool") B.bool) da_nil)))))))), ?_⟩
  rintro ds M Q E ⟨d, rfl, h, q⟩
  simp only [dInsert, dVar, dC, dOp, dTest, dII, dIC, dFld, dFldS, dMake, dppNil, dppCons, dMerge, dDisp, dCatL, dExtend, dRg1, dLstRg, dChain, dEq, dAnd, dOr, dNot, dNext, dSeq, dDrop, dRet, dIfS, dNever, dFrzS, hName, hNil, hCons, hTup, hSub, dAsg, dNil, dCons, dTup, dLst, dLstM, dIx, dSet, dCall, dwipe, dYes, jSeq, jRng1, jRng2, dCB, dLen, dList, dListM, dTuple, dII2, dAbs, dInt, dBM0, dBM, dAppend, dPop, dPopAt, dAndV, dNotV, dNeg, dIn, dCat, dNoPart, dPart, dSl, dNewT, dIsi, dLc, dFor, dDc, dLenSetG, dLc2, dFrzE, dLcH, dKdIn, dKdIx, jZipM, if_true, if_false, ite_true, ite_false, Bool.false_eq_true, reduceIte, Bool.not_true, Bool.not_false, List.getElem?_cons_zero, List.getElem?_cons_succ, List.set_cons_zero, List.set_cons_succ, List.map_cons, List.map_nil, List.replicate, List.cons_append, List.nil_append, List.length_cons, List.length_nil, dstart]
  obtain ⟨T, hT⟩ := Option.isSome_iff_exists.mp h
  obtain ⟨e1, e2⟩ := ty_int hT
  refine ⟨by decide +kernel, T, hT, ?_⟩
  rw [e1]
  cases d <;> first
    | exact ⟨by decide +kernel, T, hT, by rw [e2]; exact fin_self q⟩
    | exact fin_self q
theorem sc_is_within : FnScope ["thing", "least", "most"] ["thing", "least", "most"] (defScope s_is_within) := ⟨rfl, rfl, rfl, by decide +kernel, rfl, by decide +kernel, by decide +kernel⟩
def sp_is_within : DSp := fun ds M Q _ => ∃ d a b, ds = [d, .int a, .int b] ∧ (tyN M d).isSome = true ∧ Q (.bl (d.within a b)) M
theorem c_is_within (F : DFun K mg "is_within" s_is_within ["thing", "least", "most"]) (B : Bn mg) (G : Gs mg) (c_is_integer : DCal P w K mg base CX0 1 "is_integer" sp_is_integer) : DCal P w K mg base CX0 2 "is_within" sp_is_within := by
  refine dok F sc_is_within (fun ds M Q E h => (by obtain ⟨_, h⟩ := h; first | (obtain ⟨e, _⟩ := h; subst e; rfl) | (obtain ⟨_, e, _⟩ := h; subst e; rfl) | (obtain ⟨_, _, e, _⟩ := h; subst e; rfl) | (obtain ⟨_, _, _, e, _⟩ := h; subst e; rfl) | (obtain ⟨_, _, _, _, e, _⟩ := h; subst e; rfl) | (obtain ⟨_, _, _, _, _, e, _⟩ := h; subst e; rfl) | (obtain ⟨_, _, _, _, _, _, e, _⟩ := h; subst e; rfl) | (obtain ⟨_, _, _, _, _, _, _, e, _⟩ := h; subst e; rfl) | (obtain ⟨_, _, _, _, _, _, _, _, e, _⟩ := h; subst e; rfl) | (obtain ⟨_, _, _, _, _, _, _, _, _, e, _⟩ := h; subst e; rfl) | (obtain ⟨_, _, _, _, _, _, _, _, _, _, e, _⟩ := h; subst e; rfl) | (obtain ⟨_, _, _, _, _, _, _, _, _, _, _, e, _⟩ := h; subst e; rfl) | (obtain ⟨_, _, _, _, _, _, _, _, _, _, _, _, e, _⟩ := h; subst e; rfl) | (obtain ⟨_, _, _, _, _, _, _, _, _, _, _, _, _, e, _⟩ := h; subst e; rfl) | (obtain ⟨_, _, _, _, _, _, _, _, _, _, _, _, _, _, e, _⟩ := h; subst e; rfl) | (obtain ⟨_, _, _, _, _, _, _, _, _, _, _, _, _, _, _, e, _⟩ := h; subst e; rfl) | (obtain ⟨_, _, _, _, _, _, _, _, _, _, _, _, _, _, _, _, e, _⟩ := h; subst e; rfl) | (obtain ⟨_, _, _, _, _, _, _, _, _, _, _, _, _, _, _, _, _, e, _⟩ := h; subst e; rfl) | (obtain ⟨_, _, _, _, _, _, _, _, _, _, _, _, _, _, _, _, _, _, e, _⟩ := h; subst e; rfl) | (obtain ⟨_, _, _, _, _, _, _, _, _, _, _, _, _, _, _, _, _, _, _, e, _⟩ := h; subst e; rfl) | (obtain ⟨_, _, _, _, _, _, _, _, _, _, _, _, _, _, _, _, _, _, _, _, e, _⟩ := h; subst e; rfl) | (obtain ⟨_, _, _, _, _, _, _, _, _, _, _, _, _, _, _, _, _, _, _, _, _, e, _⟩ := h; subst e; rfl) | (obtain ⟨_, _, _, _, _, _, _, _, _, _, _, _, _, _, _, _, _, _, _, _, _, _, e, _⟩ := h; subst e; rfl) | (obtain ⟨_, _, _, _, _, _, _, _, _, _, _, _, _, _, _, _, _, _, _, _, _, _, _, e, _⟩ := h; subst e; rfl) | (obtain ⟨_, _, _, _, _, _, _, _, _, _, _, _, _, _, _, _, _, _, _, _, _, _, _, _, e, _⟩ := h; subst e; rfl) | (obtain ⟨_, _, _, _, _, _, _, _, _, _, _, _, _, _, _, _, _, _, _, _, _, _, _, _, _, e, _⟩ := h; subst e; rfl))) (fun f cdv A outer s H E F0 hr => ?_)
  have nd := (sc_is_within).nd
  refine ⟨_, _, (db_one (ds_ret (de_and (de_call c_is_integer hr (goes0A (E := DXK.no)) (da_cons (de_var 0) da_nil)) (de_one (de_chain op_le (l2_II fun _ _ _ => .bl _) op_le (l2_II fun _ _ _ => .bl _) (de_var 1) (de_var 0) (de_var 2)))))), ?_⟩
  rintro ds M Q E ⟨d, a, b, rfl, h, q⟩
  simp only [dInsert, dVar, dC, dOp, dTest, dII, dIC, dFld, dFldS, dMake, dppNil, dppCons, dMerge, dDisp, dCatL, dExtend, dRg1, dLstRg, dChain, dEq, dAnd, dOr, dNot, dNext, dSeq, dDrop, dRet, dIfS, dNever, dFrzS, hName, hNil, hCons, hTup, hSub, dAsg, dNil, dCons, dTup, dLst, dLstM, dIx, dSet, dCall, dwipe, dYes, jSeq, jRng1, jRng2, dCB, dLen, dList, dListM, dTuple, dII2, dAbs, dInt, dBM0, dBM, dAppend, dPop, dPopAt, dAndV, dNotV, dNeg, dIn, dCat, dNoPart, dPart, dSl, dNewT, dIsi, dLc, dFor, dDc, dLenSetG, dLc2, dFrzE, dLcH, dKdIn, dKdIx, jZipM, if_true, if_false, ite_true, ite_false, Bool.false_eq_true, reduceIte, Bool.not_true, Bool.not_false, List.getElem?_cons_zero, List.getElem?_cons_succ, List.set_cons_zero, List.set_cons_succ, List.map_cons, List.map_nil, List.replicate, List.cons_append, List.nil_append, List.length_cons, List.length_nil, dstart]
  refine ⟨d, rfl, h, ?_⟩
  cases d with
  | int i =>
    simp only [D.isInt, if_true, D.within] at q ⊢
    by_cases e : a ≤ i
    · simp only [e, decide_true, Bool.true_and] at q ⊢; exact fin_self q
    · simp only [e, decide_false, Bool.false_and] at q ⊢; exact fin_self q
  | _ => exact fin_self q
theorem sc_is_index : FnScope ["thing", "many"] ["thing", "many"] (defScope s_is_index) := ⟨rfl, rfl, rfl, by decide +kernel, rfl, by decide +kernel, by decide +kernel⟩
def sp_is_index : DSp := fun ds M Q _ => ∃ d n, ds = [d, .int n] ∧ (tyN M d).isSome = true ∧ Q (.bl (d.within 0 (n - 1))) M
theorem c_is_index (F : DFun K mg "is_index" s_is_index ["thing", "many"]) (B : Bn mg) (G : Gs mg) (c_is_within : DCal P w K mg base CX0 2 "is_within" sp_is_within) : DCal P w K mg base CX0 3 "is_index" sp_is_index := by
  refine dok F sc_is_index (fun ds M Q E h => (by obtain ⟨_, h⟩ := h; first | (obtain ⟨e, _⟩ := h; subst e; rfl) | (obtain ⟨_, e, _⟩ := h; subst e; rfl) | (obtain ⟨_, _, e, _⟩ := h; subst e; rfl) | (obtain ⟨_, _, _, e, _⟩ := h; subst e; rfl) | (obtain ⟨_, _, _, _, e, _⟩ := h; subst e; rfl) | (obtain ⟨_, _, _, _, _, e, _⟩ := h; subst e; rfl) | (obtain ⟨_, _, _, _, _, _, e, _⟩ := h; subst e; rfl) | (obtain ⟨_, _, _, _, _, _, _, e, _⟩ := h; subst e; rfl) | (obtain ⟨_, _, _, _, _, _, _, _, e, _⟩ := h; subst e; rfl) | (obtain ⟨_, _, _, _, _, _, _, _, _, e, _⟩ := h; subst e; rfl) | (obtain ⟨_, _, _, _, _, _, _, _, _, _, e, _⟩ := h; subst e; rfl) | (obtain ⟨_, _, _, _, _, _, _, _, _, _, _, e, _⟩ := h; subst e; rfl) | (obtain ⟨_, _, _, _, _, _, _, _, _, _, _, _, e, _⟩ := h; subst e; rfl) | (obtain ⟨_, _, _, _, _, _, _, _, _, _, _, _, _, e, _⟩ := h; subst e; rfl) | (obtain ⟨_, _, _, _, _, _, _, _, _, _, _, _, _, _, e, _⟩ := h; subst e; rfl) | (obtain ⟨_, _, _, _, _, _, _, _, _, _, _, _, _, _, _, e, _⟩ := h; subst e; rfl) | (obtain ⟨_, _, _, _, _, _, _, _, _, _, _, _, _, _, _, _, e, _⟩ := h; subst e; rfl) | (obtain ⟨_, _, _, _, _, _, _, _, _, _, _, _, _, _, _, _, _, e, _⟩ := h; subst e; rfl) | (obtain ⟨_, _, _, _, _, _, _, _, _, _, _, _, _, _, _, _, _, _, e, _⟩ := h; subst e; rfl) | (obtain ⟨_, _, _, _, _, _, _, _, _, _, _, _, _, _, _, _, _, _, _, e, _⟩ := h; subst e; rfl) | (obtain ⟨_, _, _, _, _, _, _, _, _, _, _, _, _, _, _, _, _, _, _, _, e, _⟩ := h; subst e; rfl) | (obtain ⟨_, _, _, _, _, _, _, _, _, _, _, _, _, _, _, _, _, _, _, _, _, e, _⟩ := h; subst e; rfl) | (obtain ⟨_, _, _, _, _, _, _, _, _, _, _, _, _, _, _, _, _, _, _, _, _, _, e, _⟩ := h; subst e; rfl) | (obtain ⟨_, _, _, _, _, _, _, _, _, _, _, _, _, _, _, _, _, _, _, _, _, _, _, e, _⟩ := h; subst e; rfl) | (obtain ⟨_, _, _, _, _, _, _, _, _, _, _, _, _, _, _, _, _, _, _, _, _, _, _, _, e, _⟩ := h; subst e; rfl) | (obtain ⟨_, _, _, _, _, _, _, _, _, _, _, _, _, _, _, _, _, _, _, _, _, _, _, _, _, e, _⟩ := h; subst e; rfl))) (fun f cdv A outer s H E F0 hr => ?_)
  have nd := (sc_is_index).nd
  refine ⟨_, _, (db_one (ds_ret (de_call c_is_within hr (goes0A (E := DXK.no)) (da_cons (de_var 0) (da_cons de_int (da_cons (de_sub (de_var 1) de_int) da_nil)))))), ?_⟩
  rintro ds M Q E ⟨d, n, rfl, h, q⟩
  simp only [dInsert, dVar, dC, dOp, dTest, dII, dIC, dFld, dFldS, dMake, dppNil, dppCons, dMerge, dDisp, dCatL, dExtend, dRg1, dLstRg, dChain, dEq, dAnd, dOr, dNot, dNext, dSeq, dDrop, dRet, dIfS, dNever, dFrzS, hName, hNil, hCons, hTup, hSub, dAsg, dNil, dCons, dTup, dLst, dLstM, dIx, dSet, dCall, dwipe, dYes, jSeq, jRng1, jRng2, dCB, dLen, dList, dListM, dTuple, dII2, dAbs, dInt, dBM0, dBM, dAppend, dPop, dPopAt, dAndV, dNotV, dNeg, dIn, dCat, dNoPart, dPart, dSl, dNewT, dIsi, dLc, dFor, dDc, dLenSetG, dLc2, dFrzE, dLcH, dKdIn, dKdIx, jZipM, if_true, if_false, ite_true, ite_false, Bool.false_eq_true, reduceIte, Bool.not_true, Bool.not_false, List.getElem?_cons_zero, List.getElem?_cons_succ, List.set_cons_zero, List.set_cons_succ, List.map_cons, List.map_nil, List.replicate, List.cons_append, List.nil_append, List.length_cons, List.length_nil, dstart]
  exact ⟨d, 0, n - 1, rfl, h, fin_self q⟩
theorem sc_are_unlike : FnScope ["book", "thing", "content"] ["book", "thing"] (defScope s_are_unlike) := ⟨rfl, rfl, rfl, by decide +kernel, rfl, by decide +kernel, by decide +kernel⟩
def sp_are_unlike (C_TB : Addr) : DSp := fun ds M Q _ => ∃ b n ps d x, ds = [.ref b, x] ∧ BookAt C_TB M b n ps d ∧ RowT x ∧ (UnlA n x → Q (.bl true) M) ∧ (¬ UnlA n x → Q (.bl false) M)
theorem c_are_unlike {C_TB : Addr} (F : DFun K mg "are_unlike" s_are_unlike ["book", "thing"]) (B : Bn mg) (G : Gs mg) (TB : Cl_TB K mg C_TB) (c_is_index : DCal P w K mg base CX0 3 "is_index" sp_is_index) : DCal P w K mg base CX0 4 "are_unlike" (sp_are_unlike C_TB) := by
  refine dok F sc_are_unlike (fun ds M Q E h => (by obtain ⟨_, h⟩ := h; first | (obtain ⟨e, _⟩ := h; subst e; rfl) | (obtain ⟨_, e, _⟩ := h; subst e; rfl) | (obtain ⟨_, _, e, _⟩ := h; subst e; rfl) | (obtain ⟨_, _, _, e, _⟩ := h; subst e; rfl) | (obtain ⟨_, _, _, _, e, _⟩ := h; subst e; rfl) | (obtain ⟨_, _, _, _, _, e, _⟩ := h; subst e; rfl) | (obtain ⟨_, _, _, _, _, _, e, _⟩ := h; subst e; rfl) | (obtain ⟨_, _, _, _, _, _, _, e, _⟩ := h; subst e; rfl) | (obtain ⟨_, _, _, _, _, _, _, _, e, _⟩ := h; subst e; rfl) | (obtain ⟨_, _, _, _, _, _, _, _, _, e, _⟩ := h; subst e; rfl) | (obtain ⟨_, _, _, _, _, _, _, _, _, _, e, _⟩ := h; subst e; rfl) | (obtain ⟨_, _, _, _, _, _, _, _, _, _, _, e, _⟩ := h; subst e; rfl) | (obtain ⟨_, _, _, _, _, _, _, _, _, _, _, _, e, _⟩ := h; subst e; rfl) | (obtain ⟨_, _, _, _, _, _, _, _, _, _, _, _, _, e, _⟩ := h; subst e; rfl) | (obtain ⟨_, _, _, _, _, _, _, _, _, _, _, _, _, _, e, _⟩ := h; subst e; rfl) | (obtain ⟨_, _, _, _, _, _, _, _, _, _, _, _, _, _, _, e, _⟩ := h; subst e; rfl) | (obtain ⟨_, _, _, _, _, _, _, _, _, _, _, _, _, _, _, _, e, _⟩ := h; subst e; rfl) | (obtain ⟨_, _, _, _, _, _, _, _, _, _, _, _, _, _, _, _, _, e, _⟩ := h; subst e; rfl) | (obtain ⟨_, _, _, _, _, _, _, _, _, _, _, _, _, _, _, _, _, _, e, _⟩ := h; subst e; rfl) | (obtain ⟨_, _, _, _, _, _, _, _, _, _, _, _, _, _, _, _, _, _, _, e, _⟩ := h; subst e; rfl) | (obtain ⟨_, _, _, _, _, _, _, _, _, _, _, _, _, _, _, _, _, _, _, _, e, _⟩ := h; subst e; rfl) | (obtain ⟨_, _, _, _, _, _, _, _, _, _, _, _, _, _, _, _, _, _, _, _, _, e, _⟩ := h; subst e; rfl) | (obtain ⟨_, _, _, _, _, _, _, _, _, _, _, _, _, _, _, _, _, _, _, _, _, _, e, _⟩ := h; subst e; rfl) | (obtain ⟨_, _, _, _, _, _, _, _, _, _, _, _, _, _, _, _, _, _, _, _, _, _, _, e, _⟩ := h; subst e; rfl) | (obtain ⟨_, _, _, _, _, _, _, _, _, _, _, _, _, _, _, _, _, _, _, _, _, _, _, _, e, _⟩ := h; subst e; rfl) | (obtain ⟨_, _, _, _, _, _, _, _, _, _, _, _, _, _, _, _, _, _, _, _, _, _, _, _, _, e, _⟩ := h; subst e; rfl))) (fun f cdv A outer s H E F0 hr => ?_)
  have nd := (sc_are_unlike).nd
  refine ⟨_, _, (db_cons (ds_if (DW.dt (dw_or (dt_not (dt_val (de_isi B.isinstance (da_cons (de_var 1) (da_cons (de_ty (n := "tuple") B.tuple) da_nil))))) (dw_or1 (dt_not (dt_val (de_blt (cr_all rfl) lc_flags B.all (da_cons (dx_lc (own := [("content", 2)]) rfl nd (di_seq (de_var 1)) (blkOk_by (N := ["book", "thing", "content"]) (sc := defScope s_are_unlike) (by decide +kernel)) (fun _ _ _ _ _ => ⟨_, (dg_name 2 nd), (gw_name (by decide))⟩) (fun _ _ _ _ _ => ⟨_, dts_nil⟩) (fun _ _ _ _ _ => ⟨_, (de_call c_is_index hr (goes0A (E := DXK.no)) (da_cons (de_var 2) (da_cons (de_fld TB.cl TB.n_kept_size (de_var 0)) da_nil)))⟩)) da_nil))))))) (db_one (ds_ret de_bl)) db_nil)
      (db_one (ds_ret (de_eq hr (de_lenSetG B.len B.set (de_var 1)) (de_len B.len (da_cons (de_var 1) da_nil)))))), ?_⟩
  rintro ds M Q E ⟨b, n, ps, d, x, rfl, B, T, q1, q2⟩
  by_cases hx : ∃ l, x = .tup l
  · obtain ⟨l, rfl⟩ := hx
    obtain ⟨ll, ly⟩ := T.it l rfl
    simp only [dInsert, dVar, dC, dOp, dTest, dII, dIC, dFld, dFldS, dMake, dppNil, dppCons, dMerge, dDisp, dCatL, dExtend, dRg1, dLstRg, dChain, dEq, dAnd, dOr, dNot, dNext, dSeq, dDrop, dRet, dIfS, dNever, dFrzS, hName, hNil, hCons, hTup, hSub, dAsg, dNil, dCons, dTup, dLst, dLstM, dIx, dSet, dCall, dwipe, dYes, jSeq, jRng1, jRng2, dCB, dLen, dList, dListM, dTuple, dII2, dAbs, dInt, dBM0, dBM, dAppend, dPop, dPopAt, dAndV, dNotV, dNeg, dIn, dCat, dNoPart, dPart, dSl, dNewT, dIsi, dLc, dFor, dDc, dLenSetG, dLc2, dFrzE, dLcH, dKdIn, dKdIx, jZipM, if_true, if_false, ite_true, ite_false, Bool.false_eq_true, reduceIte, Bool.not_true, Bool.not_false, List.getElem?_cons_zero, List.getElem?_cons_succ, List.set_cons_zero, List.set_cons_succ, List.map_cons, List.map_nil, List.replicate, List.cons_append, List.nil_append, List.length_cons, List.length_nil, dstart, B.ob]
    refine ⟨by decide +kernel, "tuple", rfl, ?_⟩
    rw [if_neg (by decide +kernel)]
    refine ⟨len_ok (by omega), dLcI_map (fun e => .bl (e.within 0 (n - 1))) (fun i e he Q2 q3 => ?_) ⟨_, map_blsA _ _, ?_⟩⟩
    · simp only [dInsert, dVar, dC, dOp, dTest, dII, dIC, dFld, dFldS, dMake, dppNil, dppCons, dMerge, dDisp, dCatL, dExtend, dRg1, dLstRg, dChain, dEq, dAnd, dOr, dNot, dNext, dSeq, dDrop, dRet, dIfS, dNever, dFrzS, hName, hNil, hCons, hTup, hSub, dAsg, dNil, dCons, dTup, dLst, dLstM, dIx, dSet, dCall, dwipe, dYes, jSeq, jRng1, jRng2, dCB, dLen, dList, dListM, dTuple, dII2, dAbs, dInt, dBM0, dBM, dAppend, dPop, dPopAt, dAndV, dNotV, dNeg, dIn, dCat, dNoPart, dPart, dSl, dNewT, dIsi, dLc, dFor, dDc, dLenSetG, dLc2, dFrzE, dLcH, dKdIn, dKdIx, jZipM, if_true, if_false, ite_true, ite_false, Bool.false_eq_true, reduceIte, Bool.not_true, Bool.not_false, List.getElem?_cons_zero, List.getElem?_cons_succ, List.set_cons_zero, List.set_cons_succ, List.map_cons, List.map_nil, List.replicate, List.cons_append, List.nil_append, List.length_cons, List.length_nil, dstart, B.ob]
      exact ⟨trivial, .int n, rfl, e, n, rfl, ly e (List.mem_of_getElem? he) M, q3⟩
    · dsimp only
      by_cases hi : (l.map fun e => e.within 0 (n - 1)).all id = true
      · rw [if_neg (by rw [hi]; decide)]
        obtain ⟨us, rfl, hu⟩ := within_all hi
        rw [List.length_map] at ll
        refine ⟨us, rfl, by omega, fun c cl cn => ⟨us.length, by simp only [lenV, List.length_map], rfl, rfl, ?_⟩⟩
        rw [D.eq_int]
        by_cases nd : us.Nodup
        · have e1 := cn.mpr nd
          rw [e1, beq_self_eq_true]
          exact fin_self (q1 ⟨us, rfl, nd, hu⟩)
        · have e1 : ¬ c = us.length := fun z => nd (cn.mp z)
          rw [beq_eq_false_iff_ne.mpr (by omega)]
          refine fin_self (q2 fun ⟨vs, e, nd2, _⟩ => nd ?_)
          rw [show us = vs from tupI_inj e]; exact nd2
      · rw [if_pos (by simp [hi])]
        refine fin_self (q2 fun ⟨vs, e, _, hv⟩ => hi ?_)
        injection e with e
        rw [e]
        exact all_within hv
  · obtain ⟨Tn, hT⟩ := Option.isSome_iff_exists.mp (T.ty M)
    simp only [dInsert, dVar, dC, dOp, dTest, dII, dIC, dFld, dFldS, dMake, dppNil, dppCons, dMerge, dDisp, dCatL, dExtend, dRg1, dLstRg, dChain, dEq, dAnd, dOr, dNot, dNext, dSeq, dDrop, dRet, dIfS, dNever, dFrzS, hName, hNil, hCons, hTup, hSub, dAsg, dNil, dCons, dTup, dLst, dLstM, dIx, dSet, dCall, dwipe, dYes, jSeq, jRng1, jRng2, dCB, dLen, dList, dListM, dTuple, dII2, dAbs, dInt, dBM0, dBM, dAppend, dPop, dPopAt, dAndV, dNotV, dNeg, dIn, dCat, dNoPart, dPart, dSl, dNewT, dIsi, dLc, dFor, dDc, dLenSetG, dLc2, dFrzE, dLcH, dKdIn, dKdIx, jZipM, if_true, if_false, ite_true, ite_false, Bool.false_eq_true, reduceIte, Bool.not_true, Bool.not_false, List.getElem?_cons_zero, List.getElem?_cons_succ, List.set_cons_zero, List.set_cons_succ, List.map_cons, List.map_nil, List.replicate, List.cons_append, List.nil_append, List.length_cons, List.length_nil, dstart]
    refine ⟨by decide +kernel, Tn, hT, ?_⟩
    rw [ntup T.nk (fun l e => hx ⟨l, e⟩) hT, if_pos (by decide)]
    exact fin_self (q2 fun ⟨us, e, _⟩ => hx ⟨_, e⟩)
theorem sc_tied_of : FnScope ["book"] ["book"] (defScope s_tied_of) := ⟨rfl, rfl, rfl, by decide +kernel, rfl, by decide +kernel, by decide +kernel⟩
def sp_tied_of (C_TB : Addr) : DSp := fun ds M Q _ => ∃ p n ps d, ds = [.ref p] ∧ BookAt C_TB M p n ps d ∧ Q (.lst (rowsD n ps)) M
theorem c_tied_of {C_TB : Addr} (F : DFun K mg "tied_of" s_tied_of ["book"]) (B : Bn mg) (G : Gs mg) (TB : Cl_TB K mg C_TB) : DCal P w K mg base CX0 1 "tied_of" (sp_tied_of C_TB) := by
  refine dok F sc_tied_of (fun ds M Q E h => (by obtain ⟨_, h⟩ := h; first | (obtain ⟨e, _⟩ := h; subst e; rfl) | (obtain ⟨_, e, _⟩ := h; subst e; rfl) | (obtain ⟨_, _, e, _⟩ := h; subst e; rfl) | (obtain ⟨_, _, _, e, _⟩ := h; subst e; rfl) | (obtain ⟨_, _, _, _, e, _⟩ := h; subst e; rfl) | (obtain ⟨_, _, _, _, _, e, _⟩ := h; subst e; rfl) | (obtain ⟨_, _, _, _, _, _, e, _⟩ := h; subst e; rfl) | (obtain ⟨_, _, _, _, _, _, _, e, _⟩ := h; subst e; rfl) | (obtain ⟨_, _, _, _, _, _, _, _, e, _⟩ := h; subst e; rfl) | (obtain ⟨_, _, _, _, _, _, _, _, _, e, _⟩ := h; subst e; rfl) | (obtain ⟨_, _, _, _, _, _, _, _, _, _, e, _⟩ := h; subst e; rfl) | (obtain ⟨_, _, _, _, _, _, _, _, _, _, _, e, _⟩ := h; subst e; rfl) | (obtain ⟨_, _, _, _, _, _, _, _, _, _, _, _, e, _⟩ := h; subst e; rfl) | (obtain ⟨_, _, _, _, _, _, _, _, _, _, _, _, _, e, _⟩ := h; subst e; rfl) | (obtain ⟨_, _, _, _, _, _, _, _, _, _, _, _, _, _, e, _⟩ := h; subst e; rfl) | (obtain ⟨_, _, _, _, _, _, _, _, _, _, _, _, _, _, _, e, _⟩ := h; subst e; rfl) | (obtain ⟨_, _, _, _, _, _, _, _, _, _, _, _, _, _, _, _, e, _⟩ := h; subst e; rfl) | (obtain ⟨_, _, _, _, _, _, _, _, _, _, _, _, _, _, _, _, _, e, _⟩ := h; subst e; rfl) | (obtain ⟨_, _, _, _, _, _, _, _, _, _, _, _, _, _, _, _, _, _, e, _⟩ := h; subst e; rfl) | (obtain ⟨_, _, _, _, _, _, _, _, _, _, _, _, _, _, _, _, _, _, _, e, _⟩ := h; subst e; rfl) | (obtain ⟨_, _, _, _, _, _, _, _, _, _, _, _, _, _, _, _, _, _, _, _, e, _⟩ := h; subst e; rfl) | (obtain ⟨_, _, _, _, _, _, _, _, _, _, _, _, _, _, _, _, _, _, _, _, _, e, _⟩ := h; subst e; rfl) | (obtain ⟨_, _, _, _, _, _, _, _, _, _, _, _, _, _, _, _, _, _, _, _, _, _, e, _⟩ := h; subst e; rfl) | (obtain ⟨_, _, _, _, _, _, _, _, _, _, _, _, _, _, _, _, _, _, _, _, _, _, _, e, _⟩ := h; subst e; rfl) | (obtain ⟨_, _, _, _, _, _, _, _, _, _, _, _, _, _, _, _, _, _, _, _, _, _, _, _, e, _⟩ := h; subst e; rfl) | (obtain ⟨_, _, _, _, _, _, _, _, _, _, _, _, _, _, _, _, _, _, _, _, _, _, _, _, _, e, _⟩ := h; subst e; rfl))) (fun f cdv A outer s H E F0 hr => ?_)
  have nd := (sc_tied_of).nd
  refine ⟨_, _, (db_one (ds_ret (de_ix hr (de_fld TB.cl TB.n_kept_facts (de_var 0)) de_str))), ?_⟩
  rintro ds M Q E ⟨p, n, ps, d, rfl, W, q⟩
  simp only [dInsert, dVar, dC, dOp, dTest, dII, dIC, dFld, dFldS, dMake, dppNil, dppCons, dMerge, dDisp, dCatL, dExtend, dRg1, dLstRg, dChain, dEq, dAnd, dOr, dNot, dNext, dSeq, dDrop, dRet, dIfS, dNever, dFrzS, hName, hNil, hCons, hTup, hSub, dAsg, dNil, dCons, dTup, dLst, dLstM, dIx, dSet, dCall, dwipe, dYes, jSeq, jRng1, jRng2, dCB, dLen, dList, dListM, dTuple, dII2, dAbs, dInt, dBM0, dBM, dAppend, dPop, dPopAt, dAndV, dNotV, dNeg, dIn, dCat, dNoPart, dPart, dSl, dNewT, dIsi, dLc, dFor, dDc, dLenSetG, dLc2, dFrzE, dLcH, dKdIn, dKdIx, jZipM, if_true, if_false, ite_true, ite_false, Bool.false_eq_true, reduceIte, Bool.not_true, Bool.not_false, List.getElem?_cons_zero, List.getElem?_cons_succ, List.set_cons_zero, List.set_cons_succ, List.map_cons, List.map_nil, List.replicate, List.cons_append, List.nil_append, List.length_cons, List.length_nil, dstart, W.ob]
  exact ⟨trivial, .ref d, fb_facts n ps d, .lst (rowsD n ps), by rw [ix_dK W.fc, dval_cons, if_pos rfl], fin_self q⟩
theorem sc_is_way : FnScope ["book", "thing", "corners", "pair", "content", "at"] ["book", "thing", "corners", "pair"] (defScope s_is_way) := ⟨rfl, rfl, rfl, by decide +kernel, rfl, by decide +kernel, by decide +kernel⟩
def sp_is_way (C_TB : Addr) : DSp := fun ds M Q _ => ∃ b n ps d x, ∃ (cs : List Int) (i j : Nat), ds = [.ref b, x, tupI cs, .tup [.int (i : Int), .int (j : Int)]] ∧ BookAt C_TB M b n ps d ∧ RowT x ∧ cs.length ≤ 100 ∧ i < cs.length ∧ j < cs.length ∧ ((∃ us, x = tupI us ∧ WayP n ps us (cs.getD i 0) (cs.getD j 0) ∧ ∀ u ∈ innW us, u ∉ cs) → Q (.bl true) M) ∧ (¬ (∃ us, x = tupI us ∧ WayP n ps us (cs.getD i 0) (cs.getD j 0) ∧ ∀ u ∈ innW us, u ∉ cs) → Q (.bl false) M)
theorem c_is_way {C_TB : Addr} (F : DFun K mg "is_way" s_is_way ["book", "thing", "corners", "pair"]) (B : Bn mg) (G : Gs mg) (c_are_unlike : DCal P w K mg base CX0 4 "are_unlike" (sp_are_unlike C_TB)) (c_tied_of : DCal P w K mg base CX0 1 "tied_of" (sp_tied_of C_TB)) : DCal P w K mg base CX0 5 "is_way" (sp_is_way C_TB) := by
  refine dok F sc_is_way (fun ds M Q E h => (by obtain ⟨_, h⟩ := h; first | (obtain ⟨e, _⟩ := h; subst e; rfl) | (obtain ⟨_, e, _⟩ := h; subst e; rfl) | (obtain ⟨_, _, e, _⟩ := h; subst e; rfl) | (obtain ⟨_, _, _, e, _⟩ := h; subst e; rfl) | (obtain ⟨_, _, _, _, e, _⟩ := h; subst e; rfl) | (obtain ⟨_, _, _, _, _, e, _⟩ := h; subst e; rfl) | (obtain ⟨_, _, _, _, _, _, e, _⟩ := h; subst e; rfl) | (obtain ⟨_, _, _, _, _, _, _, e, _⟩ := h; subst e; rfl) | (obtain ⟨_, _, _, _, _, _, _, _, e, _⟩ := h; subst e; rfl) | (obtain ⟨_, _, _, _, _, _, _, _, _, e, _⟩ := h; subst e; rfl) | (obtain ⟨_, _, _, _, _, _, _, _, _, _, e, _⟩ := h; subst e; rfl) | (obtain ⟨_, _, _, _, _, _, _, _, _, _, _, e, _⟩ := h; subst e; rfl) | (obtain ⟨_, _, _, _, _, _, _, _, _, _, _, _, e, _⟩ := h; subst e; rfl) | (obtain ⟨_, _, _, _, _, _, _, _, _, _, _, _, _, e, _⟩ := h; subst e; rfl) | (obtain ⟨_, _, _, _, _, _, _, _, _, _, _, _, _, _, e, _⟩ := h; subst e; rfl) | (obtain ⟨_, _, _, _, _, _, _, _, _, _, _, _, _, _, _, e, _⟩ := h; subst e; rfl) | (obtain ⟨_, _, _, _, _, _, _, _, _, _, _, _, _, _, _, _, e, _⟩ := h; subst e; rfl) | (obtain ⟨_, _, _, _, _, _, _, _, _, _, _, _, _, _, _, _, _, e, _⟩ := h; subst e; rfl) | (obtain ⟨_, _, _, _, _, _, _, _, _, _, _, _, _, _, _, _, _, _, e, _⟩ := h; subst e; rfl) | (obtain ⟨_, _, _, _, _, _, _, _, _, _, _, _, _, _, _, _, _, _, _, e, _⟩ := h; subst e; rfl) | (obtain ⟨_, _, _, _, _, _, _, _, _, _, _, _, _, _, _, _, _, _, _, _, e, _⟩ := h; subst e; rfl) | (obtain ⟨_, _, _, _, _, _, _, _, _, _, _, _, _, _, _, _, _, _, _, _, _, e, _⟩ := h; subst e; rfl) | (obtain ⟨_, _, _, _, _, _, _, _, _, _, _, _, _, _, _, _, _, _, _, _, _, _, e, _⟩ := h; subst e; rfl) | (obtain ⟨_, _, _, _, _, _, _, _, _, _, _, _, _, _, _, _, _, _, _, _, _, _, _, e, _⟩ := h; subst e; rfl) | (obtain ⟨_, _, _, _, _, _, _, _, _, _, _, _, _, _, _, _, _, _, _, _, _, _, _, _, e, _⟩ := h; subst e; rfl) | (obtain ⟨_, _, _, _, _, _, _, _, _, _, _, _, _, _, _, _, _, _, _, _, _, _, _, _, _, e, _⟩ := h; subst e; rfl))) (fun f cdv A outer s H E F0 hr => ?_)
  have nd := (sc_is_way).nd
  refine ⟨_, _, (db_cons (ds_if (DW.dt (dw_or (dt_not (dt_val (de_call c_are_unlike hr (goes0A (E := DXK.no)) (da_cons (de_var 0) (da_cons (de_var 1) da_nil))))) (dw_or1 (dt_lt (de_len B.len (da_cons (de_var 1) da_nil)) de_int)))) (db_one (ds_ret de_bl)) db_nil)
      (db_cons (ds_if (DW.dt (dw_or (dt_ne hr (de_ix hr (de_var 1) de_int) (de_ix hr (de_var 2) (de_ix hr (de_var 3) de_int))) (dw_or1 (dt_ne hr (de_ix hr (de_var 1) (de_neg de_int)) (de_ix hr (de_var 2) (de_ix hr (de_var 3) de_int)))))) (db_one (ds_ret de_bl)) db_nil)
      (db_cons (ds_if (dt_val (de_blt (cr_any rfl) lc_flags B.any (da_cons (dx_lc (own := [("content", 4)]) rfl nd (di_seq (de_slice (de_var 1) (do_some de_int) (do_some (de_neg de_int)))) (blkOk_by (N := ["book", "thing", "corners", "pair", "content", "at"]) (sc := defScope s_is_way) (by decide +kernel)) (fun _ _ _ _ _ => ⟨_, (dg_name 4 nd), (gw_name (by decide))⟩) (fun _ _ _ _ _ => ⟨_, dts_nil⟩) (fun _ _ _ _ _ => ⟨_, (de_in hr (de_var 4) (de_var 2))⟩)) da_nil))) (db_one (ds_ret de_bl)) db_nil)
      (db_one (ds_ret (de_blt (cr_all rfl) lc_flags B.all (da_cons (dx_lc (own := [("at", 5)]) rfl nd (di_range2 B.range (da_cons de_int (da_cons (de_len B.len (da_cons (de_var 1) da_nil)) da_nil))) (blkOk_by (N := ["book", "thing", "corners", "pair", "content", "at"]) (sc := defScope s_is_way) (by decide +kernel)) (fun _ _ _ _ _ => ⟨_, (dg_name 5 nd), (gw_name (by decide))⟩) (fun _ _ _ _ _ => ⟨_, dts_nil⟩) (fun _ _ _ _ _ => ⟨_, (de_in hr (de_ix hr (de_var 1) (de_var 5)) (de_ix hr (de_call c_tied_of hr (goes0A (E := DXK.no)) (da_cons (de_var 0) da_nil)) (de_ix hr (de_var 1) (de_sub (de_var 5) de_int))))⟩)) da_nil))))))), ?_⟩
  rintro ds M Q E ⟨b, n, ps, d, x, cs, i, j, rfl, B, T, c100, il, jl, q1, q2⟩
  simp only [dInsert, dVar, dC, dOp, dTest, dII, dIC, dFld, dFldS, dMake, dppNil, dppCons, dMerge, dDisp, dCatL, dExtend, dRg1, dLstRg, dChain, dEq, dAnd, dOr, dNot, dNext, dSeq, dDrop, dRet, dIfS, dNever, dFrzS, hName, hNil, hCons, hTup, hSub, dAsg, dNil, dCons, dTup, dLst, dLstM, dIx, dSet, dCall, dwipe, dYes, jSeq, jRng1, jRng2, dCB, dLen, dList, dListM, dTuple, dII2, dAbs, dInt, dBM0, dBM, dAppend, dPop, dPopAt, dAndV, dNotV, dNeg, dIn, dCat, dNoPart, dPart, dSl, dNewT, dIsi, dLc, dFor, dDc, dLenSetG, dLc2, dFrzE, dLcH, dKdIn, dKdIx, jZipM, if_true, if_false, ite_true, ite_false, Bool.false_eq_true, reduceIte, Bool.not_true, Bool.not_false, List.getElem?_cons_zero, List.getElem?_cons_succ, List.set_cons_zero, List.set_cons_succ, List.map_cons, List.map_nil, List.replicate, List.cons_append, List.nil_append, List.length_cons, List.length_nil, dstart]
  refine ⟨b, n, ps, d, x, rfl, B, T, fun hU => ?_, fun hU => ?_⟩
  · obtain ⟨us, rfl, nd, rg⟩ := hU
    have ul : us.length ≤ 60 := by have := (T.it _ rfl).1; rwa [List.length_map] at this
    have lv : ∀ M, lenV M (tupI us) = some us.length := fun M => by unfold tupI; simp only [lenV, List.length_map]
    have gx : ∀ (M : Mp) (i : Int) (k : Nat) v, i = (k : Int) → us[k]? = some v → dIxV M (tupI us) (.int i) = some (.int v) := fun M i k v e h => atI_at (k := k) e (by rw [List.getElem?_map, h]; rfl)
    have gc : ∀ (M : Mp) (k : Nat), k < cs.length → dIxV M (tupI cs) (.int (k : Int)) = some (.int (cs.getD k 0)) := fun M k h => atI_at (k := k) rfl (by rw [List.getElem?_map, List.getD_eq_getElem?_getD, List.getElem?_eq_getElem h]; rfl)
    have gp0 : ∀ M, dIxV M (.tup [.int (i : Int), .int (j : Int)]) (.int 0) = some (.int (i : Int)) := fun M => ixT_at (k := 0) rfl rfl
    have gp1 : ∀ M, dIxV M (.tup [.int (i : Int), .int (j : Int)]) (.int 1) = some (.int (j : Int)) := fun M => ixT_at (k := 1) rfl rfl
    have bad : (∀ vs : List Int, us = vs → WayP n ps vs (cs.getD i 0) (cs.getD j 0) → (∀ u ∈ innW vs, u ∉ cs) → False) → ¬ (∃ vs, tupI us = tupI vs ∧ WayP n ps vs (cs.getD i 0) (cs.getD j 0) ∧ ∀ u ∈ innW vs, u ∉ cs) := fun h ⟨vs, e, w, g⟩ => h vs (tupI_inj e) w g
    simp only [if_true, if_false, ite_true, ite_false, Bool.false_eq_true, reduceIte, Bool.not_true, Bool.not_false, List.getElem?_cons_zero, List.getElem?_cons_succ, List.set_cons_zero, List.set_cons_succ, List.map_cons, List.map_nil, List.replicate, List.cons_append, List.nil_append, List.length_cons, List.length_nil, dstart]
    refine ⟨us.length, lv M, ?_⟩
    by_cases l2 : us.length < 2
    · rw [if_pos (decide_eq_true (by omega))]
      exact fin_self (q2 (bad fun vs e w _ => by subst e; have := w.l2; omega))
    rw [if_neg (by simp; omega)]
    obtain ⟨a', ha'⟩ : ∃ v, us[0]? = some v := ⟨_, List.getElem?_eq_getElem (by omega)⟩
    obtain ⟨b', hb'⟩ : ∃ v, us[us.length - 1]? = some v := ⟨_, List.getElem?_eq_getElem (by omega)⟩
    refine ⟨.int a', gx M 0 0 a' rfl ha', _, gp0 M, _, gc M i il, rfl, rfl, ?_⟩
    rw [D.eq_int]
    by_cases ea : a' = cs.getD i 0
    · rw [if_neg (by simp [ea])]
      have gl : ∀ M, dIxV M (tupI us) (.int (-1)) = some (.int b') := fun M => by
        show atI (us.map D.int) (-1) = some (.int b')
        unfold atI
        rw [List.length_map, show ixN us.length (-1) = some (us.length - 1) from by unfold ixN; rw [if_neg (by decide), if_pos (by omega)]; congr 1; omega]
        simp only [Option.bind_some, List.getElem?_map, hb', Option.map_some]
      refine ⟨.int b', gl M, _, gp1 M, _, gc M j jl, rfl, rfl, ?_⟩
      rw [D.eq_int]
      by_cases eb : b' = cs.getD j 0
      · rw [if_neg (by simp [eb])]
        simp only [tupI]
        rw [cut_inn (by omega)]
        have il2 : (innW us).length ≤ us.length := by unfold innW; simp; omega
        refine ⟨by rw [List.length_map]; exact len_ok (by omega), dLcI_mapS (fun M' => M' = M) (innW us) .int (fun u => .bl (decide (u ∈ cs))) rfl (fun k u M' hu hM Q2 q2 => ?_) fun M' hM => ?_⟩
        · subst hM
          simp only [dInsert, dVar, dC, dOp, dTest, dII, dIC, dFld, dFldS, dMake, dppNil, dppCons, dMerge, dDisp, dCatL, dExtend, dRg1, dLstRg, dChain, dEq, dAnd, dOr, dNot, dNext, dSeq, dDrop, dRet, dIfS, dNever, dFrzS, hName, hNil, hCons, hTup, hSub, dAsg, dNil, dCons, dTup, dLst, dLstM, dIx, dSet, dCall, dwipe, dYes, jSeq, jRng1, jRng2, dCB, dLen, dList, dListM, dTuple, dII2, dAbs, dInt, dBM0, dBM, dAppend, dPop, dPopAt, dAndV, dNotV, dNeg, dIn, dCat, dNoPart, dPart, dSl, dNewT, dIsi, dLc, dFor, dDc, dLenSetG, dLc2, dFrzE, dLcH, dKdIn, dKdIx, jZipM, if_true, if_false, ite_true, ite_false, Bool.false_eq_true, reduceIte, Bool.not_true, Bool.not_false, List.getElem?_cons_zero, List.getElem?_cons_succ, List.set_cons_zero, List.set_cons_succ, List.map_cons, List.map_nil, List.replicate, List.cons_append, List.nil_append, List.length_cons, List.length_nil, dstart]
          exact ⟨_, in_tupI, q2 _ rfl⟩
        · subst hM
          refine ⟨_, map_blsA (fun u => decide (u ∈ cs)) _, ?_⟩
          dsimp only
          by_cases hi : ((innW us).map fun u => decide (u ∈ cs)).any id = true
          · rw [if_pos hi]
            refine fin_self (q2 (bad fun vs e w g => ?_))
            subst e
            rw [List.any_map, List.any_eq_true] at hi
            obtain ⟨u, hu, hc⟩ := hi
            exact g u hu (of_decide_eq_true hc)
          · rw [if_neg hi]
            have hin : ∀ u ∈ innW us, u ∉ cs := fun u hu hc => hi (by
              rw [List.any_map, List.any_eq_true]
              exact ⟨u, hu, decide_eq_true hc⟩)
            have er : rgD 1 ((us.length : Int) - 1).toNat = (List.range (us.length - 1)).map fun (k : Nat) => D.int (1 + (k : Int)) := by
              unfold rgD
              rw [show ((us.length : Int) - 1).toNat = us.length - 1 by omega]
            refine ⟨us.length, by simp only [lenV, List.length_map], ⟨by decide, by decide, by omega, by omega⟩, by rw [rgD_len, sizeLine_eq]; omega, ?_⟩
            rw [er]
            have ug : ∀ k, k < us.length → us[k]? = some (us.getD k 0) := fun k h => by rw [List.getD_eq_getElem?_getD, List.getElem?_eq_getElem h]; rfl
            refine dLcI_mapS (fun M2 => M2 = M') (List.range (us.length - 1)) _ (fun (k : Nat) => .bl (decide (us.getD (k + 1) 0 ∈ nbr ps (us.getD k 0)))) rfl (fun z k M2 hz hM2 Q2 q2 => ?_) fun M2 hM2 => ?_
            · subst hM2
              have kl : k < us.length - 1 := List.mem_range.mp (List.mem_of_getElem? hz)
              have u1 := ug k (by omega)
              have u2 := ug (k + 1) (by omega)
              have r1 := rg _ (List.mem_of_getElem? u1)
              simp only [dInsert, dVar, dC, dOp, dTest, dII, dIC, dFld, dFldS, dMake, dppNil, dppCons, dMerge, dDisp, dCatL, dExtend, dRg1, dLstRg, dChain, dEq, dAnd, dOr, dNot, dNext, dSeq, dDrop, dRet, dIfS, dNever, dFrzS, hName, hNil, hCons, hTup, hSub, dAsg, dNil, dCons, dTup, dLst, dLstM, dIx, dSet, dCall, dwipe, dYes, jSeq, jRng1, jRng2, dCB, dLen, dList, dListM, dTuple, dII2, dAbs, dInt, dBM0, dBM, dAppend, dPop, dPopAt, dAndV, dNotV, dNeg, dIn, dCat, dNoPart, dPart, dSl, dNewT, dIsi, dLc, dFor, dDc, dLenSetG, dLc2, dFrzE, dLcH, dKdIn, dKdIx, jZipM, if_true, if_false, ite_true, ite_false, Bool.false_eq_true, reduceIte, Bool.not_true, Bool.not_false, List.getElem?_cons_zero, List.getElem?_cons_succ, List.set_cons_zero, List.set_cons_succ, List.map_cons, List.map_nil, List.replicate, List.cons_append, List.nil_append, List.length_cons, List.length_nil, dstart]
              refine ⟨_, gx M2 _ (k + 1) _ (by omega) u2, b, n, ps, d, rfl, B, _, gx M2 _ k _ (by omega) u1, .tup ((srt (nbr ps (us.getD k 0))).map .int), rowsD_get r1.1 r1.2, _, in_tupI, ?_⟩
              have e1 : decide (us.getD (k + 1) 0 ∈ srt (nbr ps (us.getD k 0))) = decide (us.getD (k + 1) 0 ∈ nbr ps (us.getD k 0)) := decide_eq_decide.mpr srt_mem
              rw [e1]
              exact q2 _ rfl
            · subst hM2
              refine ⟨_, map_blsA (fun (k : Nat) => decide (us.getD (k + 1) 0 ∈ nbr ps (us.getD k 0))) _, ?_⟩
              dsimp only
              by_cases ha : ((List.range (us.length - 1)).map fun (k : Nat) => decide (us.getD (k + 1) 0 ∈ nbr ps (us.getD k 0))).all id = true
              · rw [ha]
                refine fin_self (q1 ⟨us, rfl, ⟨nd, rg, by omega, by rw [ha', ea], by rw [hb', eb], fun k x y hx hy => ?_⟩, hin⟩)
                have yl := (List.getElem?_eq_some_iff.mp hy).1
                rw [List.all_map, List.all_eq_true] at ha
                have := of_decide_eq_true (ha k (List.mem_range.mpr (by omega)))
                have g1 : us.getD k 0 = x := by rw [List.getD_eq_getElem?_getD, hx]; rfl
                have g2 : us.getD (k + 1) 0 = y := by rw [List.getD_eq_getElem?_getD, hy]; rfl
                rw [g1, g2] at this
                exact this
              · have ha2 : ((List.range (us.length - 1)).map fun (k : Nat) => decide (us.getD (k + 1) 0 ∈ nbr ps (us.getD k 0))).all id = false := by
                  cases h : ((List.range (us.length - 1)).map fun (k : Nat) => decide (us.getD (k + 1) 0 ∈ nbr ps (us.getD k 0))).all id with
                  | false => rfl
                  | true => exact absurd h ha
                rw [ha2]
                refine fin_self (q2 (bad fun vs e w _ => ha ?_))
                subst e
                rw [List.all_map, List.all_eq_true]
                intro k hk
                have hk := List.mem_range.mp hk
                exact decide_eq_true (w.st k _ _ (ug k (by omega)) (ug (k + 1) (by omega)))
      · rw [if_pos (by simpa using eb)]
        exact fin_self (q2 (bad fun vs e w _ => by subst e; have := w.tl; rw [hb'] at this; exact eb (Option.some.inj this)))
    · rw [if_pos (by simpa using ea)]
      exact fin_self (q2 (bad fun vs e w _ => by subst e; have := w.hd; rw [ha'] at this; exact ea (Option.some.inj this)))
  · simp only [if_true, if_false, ite_true, ite_false, Bool.false_eq_true, reduceIte, Bool.not_true, Bool.not_false, List.getElem?_cons_zero, List.getElem?_cons_succ, List.set_cons_zero, List.set_cons_succ, List.map_cons, List.map_nil, List.replicate, List.cons_append, List.nil_append, List.length_cons, List.length_nil, dstart]
    exact fin_self (q2 fun ⟨us, e, w, _⟩ => hU ⟨us, e, w.nd, w.rg⟩)
theorem sc_pairs_of : FnScope ["word", "one", "other"] ["word"] (defScope s_pairs_of) := ⟨rfl, rfl, rfl, by decide +kernel, rfl, by decide +kernel, by decide +kernel⟩
def sp_pairs_of : DSp := fun ds M Q _ => ∃ f : Bool, ds = [wordW f] ∧ Q (.lst ((prsW f).map prD)) M
theorem c_pairs_of (F : DFun K mg "pairs_of" s_pairs_of ["word"]) (B : Bn mg) (G : Gs mg)  : DCal P w K mg base CX0 1 "pairs_of" sp_pairs_of := by
  refine dok F sc_pairs_of (fun ds M Q E h => (by obtain ⟨_, h⟩ := h; first | (obtain ⟨e, _⟩ := h; subst e; rfl) | (obtain ⟨_, e, _⟩ := h; subst e; rfl) | (obtain ⟨_, _, e, _⟩ := h; subst e; rfl) | (obtain ⟨_, _, _, e, _⟩ := h; subst e; rfl) | (obtain ⟨_, _, _, _, e, _⟩ := h; subst e; rfl) | (obtain ⟨_, _, _, _, _, e, _⟩ := h; subst e; rfl) | (obtain ⟨_, _, _, _, _, _, e, _⟩ := h; subst e; rfl) | (obtain ⟨_, _, _, _, _, _, _, e, _⟩ := h; subst e; rfl) | (obtain ⟨_, _, _, _, _, _, _, _, e, _⟩ := h; subst e; rfl) | (obtain ⟨_, _, _, _, _, _, _, _, _, e, _⟩ := h; subst e; rfl) | (obtain ⟨_, _, _, _, _, _, _, _, _, _, e, _⟩ := h; subst e; rfl) | (obtain ⟨_, _, _, _, _, _, _, _, _, _, _, e, _⟩ := h; subst e; rfl) | (obtain ⟨_, _, _, _, _, _, _, _, _, _, _, _, e, _⟩ := h; subst e; rfl) | (obtain ⟨_, _, _, _, _, _, _, _, _, _, _, _, _, e, _⟩ := h; subst e; rfl) | (obtain ⟨_, _, _, _, _, _, _, _, _, _, _, _, _, _, e, _⟩ := h; subst e; rfl) | (obtain ⟨_, _, _, _, _, _, _, _, _, _, _, _, _, _, _, e, _⟩ := h; subst e; rfl) | (obtain ⟨_, _, _, _, _, _, _, _, _, _, _, _, _, _, _, _, e, _⟩ := h; subst e; rfl) | (obtain ⟨_, _, _, _, _, _, _, _, _, _, _, _, _, _, _, _, _, e, _⟩ := h; subst e; rfl) | (obtain ⟨_, _, _, _, _, _, _, _, _, _, _, _, _, _, _, _, _, _, e, _⟩ := h; subst e; rfl) | (obtain ⟨_, _, _, _, _, _, _, _, _, _, _, _, _, _, _, _, _, _, _, e, _⟩ := h; subst e; rfl) | (obtain ⟨_, _, _, _, _, _, _, _, _, _, _, _, _, _, _, _, _, _, _, _, e, _⟩ := h; subst e; rfl) | (obtain ⟨_, _, _, _, _, _, _, _, _, _, _, _, _, _, _, _, _, _, _, _, _, e, _⟩ := h; subst e; rfl) | (obtain ⟨_, _, _, _, _, _, _, _, _, _, _, _, _, _, _, _, _, _, _, _, _, _, e, _⟩ := h; subst e; rfl) | (obtain ⟨_, _, _, _, _, _, _, _, _, _, _, _, _, _, _, _, _, _, _, _, _, _, _, e, _⟩ := h; subst e; rfl) | (obtain ⟨_, _, _, _, _, _, _, _, _, _, _, _, _, _, _, _, _, _, _, _, _, _, _, _, e, _⟩ := h; subst e; rfl) | (obtain ⟨_, _, _, _, _, _, _, _, _, _, _, _, _, _, _, _, _, _, _, _, _, _, _, _, _, e, _⟩ := h; subst e; rfl))) (fun f cdv A outer s H E F0 hr => ?_)
  have nd := (sc_pairs_of).nd
  refine ⟨_, _, (db_cons (ds_if (dt_eq hr (de_var 0) de_str) (db_one (ds_ret (dx_lc2 (own := [("one", 1), ("other", 2)]) (vs1 := [2]) rfl nd (di_range1 B.range (da_cons de_int da_nil)) (blkOk_by (N := ["word", "one", "other"]) (sc := defScope s_pairs_of) (by decide +kernel)) (by decide) (fun _ _ _ _ _ => ⟨_, (dg_name 1 nd), (gw_name (by decide))⟩) (fun _ _ _ _ _ => ⟨_, dts_nil⟩) (fun _ _ _ _ _ => ⟨_, (di_range2 B.range (da_cons (de_add (de_var 1) de_int) (da_cons de_int da_nil)))⟩) (fun _ _ _ _ _ => ⟨_, (dg_name 2 nd), (gw_name (by decide))⟩) (fun _ _ _ _ _ => ⟨_, dts_nil⟩) (fun _ _ _ _ _ => ⟨_, (de_tup (da_cons (de_var 1) (da_cons (de_var 2) da_nil)))⟩)))) db_nil)
      (db_one (ds_ret (dx_lc2 (own := [("one", 1), ("other", 2)]) (vs1 := [2]) rfl nd (di_range1 B.range (da_cons de_int da_nil)) (blkOk_by (N := ["word", "one", "other"]) (sc := defScope s_pairs_of) (by decide +kernel)) (by decide) (fun _ _ _ _ _ => ⟨_, (dg_name 1 nd), (gw_name (by decide))⟩) (fun _ _ _ _ _ => ⟨_, dts_nil⟩) (fun _ _ _ _ _ => ⟨_, (di_range2 B.range (da_cons de_int (da_cons de_int da_nil)))⟩) (fun _ _ _ _ _ => ⟨_, (dg_name 2 nd), (gw_name (by decide))⟩) (fun _ _ _ _ _ => ⟨_, dts_nil⟩) (fun _ _ _ _ _ => ⟨_, (de_tup (da_cons (de_var 1) (da_cons (de_var 2) da_nil)))⟩))))), ?_⟩
  rintro ds M Q E ⟨f, rfl, q⟩
  have ok1 : (D.str (Str.ofString "five")).ok 60 = true := by decide +kernel
  have ok2 : (D.str (Str.ofString "three")).ok 60 = true := by decide +kernel
  cases f with
  | true =>
    simp only [dInsert, dVar, dC, dOp, dTest, dII, dIC, dFld, dFldS, dMake, dppNil, dppCons, dMerge, dDisp, dCatL, dExtend, dRg1, dLstRg, dChain, dEq, dAnd, dOr, dNot, dNext, dSeq, dDrop, dRet, dIfS, dNever, dFrzS, hName, hNil, hCons, hTup, hSub, dAsg, dNil, dCons, dTup, dLst, dLstM, dIx, dSet, dCall, dwipe, dYes, jSeq, jRng1, jRng2, dCB, dLen, dList, dListM, dTuple, dII2, dAbs, dInt, dBM0, dBM, dAppend, dPop, dPopAt, dAndV, dNotV, dNeg, dIn, dCat, dNoPart, dPart, dSl, dNewT, dIsi, dLc, dFor, dDc, dLenSetG, dLc2, dFrzE, dLcH, dKdIn, dKdIx, jZipM, if_true, if_false, ite_true, ite_false, Bool.false_eq_true, reduceIte, Bool.not_true, Bool.not_false, List.getElem?_cons_zero, List.getElem?_cons_succ, List.set_cons_zero, List.set_cons_succ, List.map_cons, List.map_nil, List.replicate, List.cons_append, List.nil_append, List.length_cons, List.length_nil, dstart, wordW]
    refine ⟨ok1, ok1, ?_⟩
    rw [if_pos (by simp)]
    refine ⟨⟨by decide, by decide⟩, fun i acc M' => M' = M ∧ acc = (prsI true i).map prD, ⟨rfl, rfl⟩, ?_, ?_⟩
    · rintro i e acc M' he ⟨hM, rfl⟩
      subst hM
      obtain ⟨hi, rfl⟩ := rgD_get he
      have hi5 : i < 5 := hi
      simp only [dInsert, dVar, dC, dOp, dTest, dII, dIC, dFld, dFldS, dMake, dppNil, dppCons, dMerge, dDisp, dCatL, dExtend, dRg1, dLstRg, dChain, dEq, dAnd, dOr, dNot, dNext, dSeq, dDrop, dRet, dIfS, dNever, dFrzS, hName, hNil, hCons, hTup, hSub, dAsg, dNil, dCons, dTup, dLst, dLstM, dIx, dSet, dCall, dwipe, dYes, jSeq, jRng1, jRng2, dCB, dLen, dList, dListM, dTuple, dII2, dAbs, dInt, dBM0, dBM, dAppend, dPop, dPopAt, dAndV, dNotV, dNeg, dIn, dCat, dNoPart, dPart, dSl, dNewT, dIsi, dLc, dFor, dDc, dLenSetG, dLc2, dFrzE, dLcH, dKdIn, dKdIx, jZipM, if_true, if_false, ite_true, ite_false, Bool.false_eq_true, reduceIte, Bool.not_true, Bool.not_false, List.getElem?_cons_zero, List.getElem?_cons_succ, List.set_cons_zero, List.set_cons_succ, List.map_cons, List.map_nil, List.replicate, List.cons_append, List.nil_append, List.length_cons, List.length_nil, dstart]
      refine ⟨⟨by omega, by omega, by decide, by decide⟩, fun j acc1 M5 => M5 = M' ∧ acc1 = (prsI true i ++ (rowW true i).take j).map prD, ⟨rfl, by rw [List.take_zero, List.append_nil]⟩, ?_, ?_⟩
      · rintro j e1 acc1 M5 he1 ⟨hM5, rfl⟩
        subst hM5
        obtain ⟨hj, rfl⟩ := rgD_get he1
        have hr : (rowW true i)[j]? = some ((i : Int), (i : Int) + 1 + (j : Int)) := by
          unfold rowW
          rw [if_pos rfl, List.getElem?_map, List.getElem?_range (by omega)]; rfl
        have hl := prsI_len true i
        have hl2 : ((rowW true i).take j).length ≤ 5 := by
          rw [List.length_take]
          have : (rowW true i).length ≤ 5 := by simp [rowW]; omega
          omega
        simp only [dInsert, dVar, dC, dOp, dTest, dII, dIC, dFld, dFldS, dMake, dppNil, dppCons, dMerge, dDisp, dCatL, dExtend, dRg1, dLstRg, dChain, dEq, dAnd, dOr, dNot, dNext, dSeq, dDrop, dRet, dIfS, dNever, dFrzS, hName, hNil, hCons, hTup, hSub, dAsg, dNil, dCons, dTup, dLst, dLstM, dIx, dSet, dCall, dwipe, dYes, jSeq, jRng1, jRng2, dCB, dLen, dList, dListM, dTuple, dII2, dAbs, dInt, dBM0, dBM, dAppend, dPop, dPopAt, dAndV, dNotV, dNeg, dIn, dCat, dNoPart, dPart, dSl, dNewT, dIsi, dLc, dFor, dDc, dLenSetG, dLc2, dFrzE, dLcH, dKdIn, dKdIx, jZipM, if_true, if_false, ite_true, ite_false, Bool.false_eq_true, reduceIte, Bool.not_true, Bool.not_false, List.getElem?_cons_zero, List.getElem?_cons_succ, List.set_cons_zero, List.set_cons_succ, List.map_cons, List.map_nil, List.replicate, List.cons_append, List.nil_append, List.length_cons, List.length_nil, dstart]
        refine ⟨by decide, by rw [List.length_map, List.length_append, sizeLine_eq]; omega, trivial, ?_⟩
        rw [take_succ_of hr, ← List.append_assoc]
        simp only [Int.zero_add, List.map_append]
        rfl
      · rintro acc1 M5 ⟨hM5, rfl⟩
        subst hM5
        rw [rgD_len]
        have : (rowW true i).length = (5 - (0 + (i : Int) + 1)).toNat := by
          unfold rowW
          rw [if_pos rfl, List.length_map, List.length_range]; omega
        rw [← this, List.take_length, ← prsI_succ]
        exact ⟨rfl, rfl⟩
    · rintro acc M' ⟨hM, rfl⟩
      subst hM
      rw [rgD_len, show (Int.toNat 5) = 5 from rfl, prsI_five]
      exact fin_self q
  | false =>
    simp only [dInsert, dVar, dC, dOp, dTest, dII, dIC, dFld, dFldS, dMake, dppNil, dppCons, dMerge, dDisp, dCatL, dExtend, dRg1, dLstRg, dChain, dEq, dAnd, dOr, dNot, dNext, dSeq, dDrop, dRet, dIfS, dNever, dFrzS, hName, hNil, hCons, hTup, hSub, dAsg, dNil, dCons, dTup, dLst, dLstM, dIx, dSet, dCall, dwipe, dYes, jSeq, jRng1, jRng2, dCB, dLen, dList, dListM, dTuple, dII2, dAbs, dInt, dBM0, dBM, dAppend, dPop, dPopAt, dAndV, dNotV, dNeg, dIn, dCat, dNoPart, dPart, dSl, dNewT, dIsi, dLc, dFor, dDc, dLenSetG, dLc2, dFrzE, dLcH, dKdIn, dKdIx, jZipM, if_true, if_false, ite_true, ite_false, Bool.false_eq_true, reduceIte, Bool.not_true, Bool.not_false, List.getElem?_cons_zero, List.getElem?_cons_succ, List.set_cons_zero, List.set_cons_succ, List.map_cons, List.map_nil, List.replicate, List.cons_append, List.nil_append, List.length_cons, List.length_nil, dstart, wordW]
    refine ⟨ok2, ok1, ?_⟩
    rw [if_neg (by simp; decide +kernel)]
    refine ⟨⟨by decide, by decide⟩, fun i acc M' => M' = M ∧ acc = (prsI false i).map prD, ⟨rfl, rfl⟩, ?_, ?_⟩
    · rintro i e acc M' he ⟨hM, rfl⟩
      subst hM
      obtain ⟨hi, rfl⟩ := rgD_get he
      have hi5 : i < 3 := hi
      simp only [dInsert, dVar, dC, dOp, dTest, dII, dIC, dFld, dFldS, dMake, dppNil, dppCons, dMerge, dDisp, dCatL, dExtend, dRg1, dLstRg, dChain, dEq, dAnd, dOr, dNot, dNext, dSeq, dDrop, dRet, dIfS, dNever, dFrzS, hName, hNil, hCons, hTup, hSub, dAsg, dNil, dCons, dTup, dLst, dLstM, dIx, dSet, dCall, dwipe, dYes, jSeq, jRng1, jRng2, dCB, dLen, dList, dListM, dTuple, dII2, dAbs, dInt, dBM0, dBM, dAppend, dPop, dPopAt, dAndV, dNotV, dNeg, dIn, dCat, dNoPart, dPart, dSl, dNewT, dIsi, dLc, dFor, dDc, dLenSetG, dLc2, dFrzE, dLcH, dKdIn, dKdIx, jZipM, if_true, if_false, ite_true, ite_false, Bool.false_eq_true, reduceIte, Bool.not_true, Bool.not_false, List.getElem?_cons_zero, List.getElem?_cons_succ, List.set_cons_zero, List.set_cons_succ, List.map_cons, List.map_nil, List.replicate, List.cons_append, List.nil_append, List.length_cons, List.length_nil, dstart]
      refine ⟨⟨by decide, by decide, by decide, by decide⟩, fun j acc1 M5 => M5 = M' ∧ acc1 = (prsI false i ++ (rowW false i).take j).map prD, ⟨rfl, by rw [List.take_zero, List.append_nil]⟩, ?_, ?_⟩
      · rintro j e1 acc1 M5 he1 ⟨hM5, rfl⟩
        subst hM5
        obtain ⟨hj, rfl⟩ := rgD_get he1
        have hj3 : j < 3 := hj
        have hr : (rowW false i)[j]? = some ((i : Int), 3 + (j : Int)) := by
          unfold rowW
          rw [if_neg (by decide), List.getElem?_map, List.getElem?_range (by omega)]; rfl
        have hl := prsI_len false i
        have hl2 : ((rowW false i).take j).length ≤ 5 := by
          rw [List.length_take]
          omega
        simp only [dInsert, dVar, dC, dOp, dTest, dII, dIC, dFld, dFldS, dMake, dppNil, dppCons, dMerge, dDisp, dCatL, dExtend, dRg1, dLstRg, dChain, dEq, dAnd, dOr, dNot, dNext, dSeq, dDrop, dRet, dIfS, dNever, dFrzS, hName, hNil, hCons, hTup, hSub, dAsg, dNil, dCons, dTup, dLst, dLstM, dIx, dSet, dCall, dwipe, dYes, jSeq, jRng1, jRng2, dCB, dLen, dList, dListM, dTuple, dII2, dAbs, dInt, dBM0, dBM, dAppend, dPop, dPopAt, dAndV, dNotV, dNeg, dIn, dCat, dNoPart, dPart, dSl, dNewT, dIsi, dLc, dFor, dDc, dLenSetG, dLc2, dFrzE, dLcH, dKdIn, dKdIx, jZipM, if_true, if_false, ite_true, ite_false, Bool.false_eq_true, reduceIte, Bool.not_true, Bool.not_false, List.getElem?_cons_zero, List.getElem?_cons_succ, List.set_cons_zero, List.set_cons_succ, List.map_cons, List.map_nil, List.replicate, List.cons_append, List.nil_append, List.length_cons, List.length_nil, dstart]
        refine ⟨by decide, by rw [List.length_map, List.length_append, sizeLine_eq]; omega, trivial, ?_⟩
        rw [take_succ_of hr, ← List.append_assoc]
        simp only [Int.zero_add, List.map_append]
        rfl
      · rintro acc1 M5 ⟨hM5, rfl⟩
        subst hM5
        rw [rgD_len]
        have : (rowW false i).length = (6 - 3 : Int).toNat := by
          unfold rowW
          rw [if_neg (by decide), List.length_map, List.length_range]; rfl
        rw [← this, List.take_length, ← prsI_succ]
        exact ⟨rfl, rfl⟩
    · rintro acc M' ⟨hM, rfl⟩
      subst hM
      rw [rgD_len, show (Int.toNat 3) = 3 from rfl, prsI_three]
      exact fin_self q
theorem sc_is_bar : FnScope ["book", "thing", "word", "corners", "ways", "pairs", "within", "way", "pair", "content"] ["book", "thing"] (defScope s_is_bar) := ⟨rfl, rfl, rfl, by decide +kernel, rfl, by decide +kernel, by decide +kernel⟩
def sp_is_bar (C_TB : Addr) : DSp := fun ds M Q _ => ∃ b n ps d x, ds = [.ref b, x] ∧ BookAt C_TB M b n ps d ∧ ThW x ∧ (BarA n ps x → Q (.bl true) M) ∧ (¬ BarA n ps x → Q (.bl false) M)
theorem c_is_bar {C_TB : Addr} (F : DFun K mg "is_bar" s_is_bar ["book", "thing"]) (B : Bn mg) (G : Gs mg) (c_are_unlike : DCal P w K mg base CX0 4 "are_unlike" (sp_are_unlike C_TB)) (c_is_way : DCal P w K mg base CX0 5 "is_way" (sp_is_way C_TB)) (c_pairs_of : DCal P w K mg base CX0 1 "pairs_of" sp_pairs_of) (KD_CORNERS : KDt K w mg "CORNERS" [("five", .int 5), ("three", .int 6)]) : DCal P w K mg base CX0 6 "is_bar" (sp_is_bar C_TB) := by
  obtain ⟨aD_CORNERS, eD_CORNERS, nD_CORNERS, KA_CORNERS⟩ := KD_CORNERS
  refine dok F sc_is_bar (fun ds M Q E h => (by obtain ⟨_, h⟩ := h; first | (obtain ⟨e, _⟩ := h; subst e; rfl) | (obtain ⟨_, e, _⟩ := h; subst e; rfl) | (obtain ⟨_, _, e, _⟩ := h; subst e; rfl) | (obtain ⟨_, _, _, e, _⟩ := h; subst e; rfl) | (obtain ⟨_, _, _, _, e, _⟩ := h; subst e; rfl) | (obtain ⟨_, _, _, _, _, e, _⟩ := h; subst e; rfl) | (obtain ⟨_, _, _, _, _, _, e, _⟩ := h; subst e; rfl) | (obtain ⟨_, _, _, _, _, _, _, e, _⟩ := h; subst e; rfl) | (obtain ⟨_, _, _, _, _, _, _, _, e, _⟩ := h; subst e; rfl) | (obtain ⟨_, _, _, _, _, _, _, _, _, e, _⟩ := h; subst e; rfl) | (obtain ⟨_, _, _, _, _, _, _, _, _, _, e, _⟩ := h; subst e; rfl) | (obtain ⟨_, _, _, _, _, _, _, _, _, _, _, e, _⟩ := h; subst e; rfl) | (obtain ⟨_, _, _, _, _, _, _, _, _, _, _, _, e, _⟩ := h; subst e; rfl) | (obtain ⟨_, _, _, _, _, _, _, _, _, _, _, _, _, e, _⟩ := h; subst e; rfl) | (obtain ⟨_, _, _, _, _, _, _, _, _, _, _, _, _, _, e, _⟩ := h; subst e; rfl) | (obtain ⟨_, _, _, _, _, _, _, _, _, _, _, _, _, _, _, e, _⟩ := h; subst e; rfl) | (obtain ⟨_, _, _, _, _, _, _, _, _, _, _, _, _, _, _, _, e, _⟩ := h; subst e; rfl) | (obtain ⟨_, _, _, _, _, _, _, _, _, _, _, _, _, _, _, _, _, e, _⟩ := h; subst e; rfl) | (obtain ⟨_, _, _, _, _, _, _, _, _, _, _, _, _, _, _, _, _, _, e, _⟩ := h; subst e; rfl) | (obtain ⟨_, _, _, _, _, _, _, _, _, _, _, _, _, _, _, _, _, _, _, e, _⟩ := h; subst e; rfl) | (obtain ⟨_, _, _, _, _, _, _, _, _, _, _, _, _, _, _, _, _, _, _, _, e, _⟩ := h; subst e; rfl) | (obtain ⟨_, _, _, _, _, _, _, _, _, _, _, _, _, _, _, _, _, _, _, _, _, e, _⟩ := h; subst e; rfl) | (obtain ⟨_, _, _, _, _, _, _, _, _, _, _, _, _, _, _, _, _, _, _, _, _, _, e, _⟩ := h; subst e; rfl) | (obtain ⟨_, _, _, _, _, _, _, _, _, _, _, _, _, _, _, _, _, _, _, _, _, _, _, e, _⟩ := h; subst e; rfl) | (obtain ⟨_, _, _, _, _, _, _, _, _, _, _, _, _, _, _, _, _, _, _, _, _, _, _, _, e, _⟩ := h; subst e; rfl) | (obtain ⟨_, _, _, _, _, _, _, _, _, _, _, _, _, _, _, _, _, _, _, _, _, _, _, _, _, e, _⟩ := h; subst e; rfl))) (fun f cdv A outer s H E F0 hr => ?_)
  have nd := (sc_is_bar).nd
  refine ⟨_, _, (db_cons (ds_if (DW.dt (dw_or (dt_not (dt_val (de_isi B.isinstance (da_cons (de_var 1) (da_cons (de_ty (n := "tuple") B.tuple) da_nil))))) (dw_or1 (dt_ne hr (de_len B.len (da_cons (de_var 1) da_nil)) de_int)))) (db_one (ds_ret de_bl)) db_nil)
      (db_cons (ds_asg (de_var 1) (dg_tup (n := 3) rfl (dgs_cons (dg_name 2 nd) (dgs_cons (dg_name 3 nd) (dgs_cons (dg_name 4 nd) dgs_nil)))))
      (db_cons (ds_if (DW.dt (dw_or (dt_not (dt_val (de_isi B.isinstance (da_cons (de_var 2) (da_cons (de_ty (n := "str") B.str) da_nil))))) (dw_or1 (dt_kdNotIn KA_CORNERS (de_var 2))))) (db_one (ds_ret de_bl)) db_nil)
      (db_cons (ds_if (DW.dt (dw_or (dt_not (dt_val (de_call c_are_unlike hr (goes0A (E := DXK.no)) (da_cons (de_var 0) (da_cons (de_var 3) da_nil))))) (dw_or1 (dt_ne hr (de_len B.len (da_cons (de_var 3) da_nil)) (de_kdIx KA_CORNERS (de_var 2)))))) (db_one (ds_ret de_bl)) db_nil)
      (db_cons (ds_set 5 nd (de_call c_pairs_of hr (goes0A (E := DXK.no)) (da_cons (de_var 2) da_nil)))
      (db_cons (ds_if (DW.dt (dw_or (dt_not (dt_val (de_isi B.isinstance (da_cons (de_var 4) (da_cons (de_ty (n := "tuple") B.tuple) da_nil))))) (dw_or1 (dt_ne hr (de_len B.len (da_cons (de_var 4) da_nil)) (de_len B.len (da_cons (de_var 5) da_nil)))))) (db_one (ds_ret de_bl)) db_nil)
      (db_cons (ds_if (dt_not (dt_val (de_blt (cr_all rfl) lc_flags B.all (da_cons (dx_lc (own := [("way", 7), ("pair", 8)]) rfl nd (di_zipM B.zip (da_cons (de_var 4) (da_cons (de_var 5) da_nil))) (blkOk_by (N := ["book", "thing", "word", "corners", "ways", "pairs", "within", "way", "pair", "content"]) (sc := defScope s_is_bar) (by decide +kernel)) (fun _ _ _ _ _ => ⟨_, (dg_tup (n := 2) rfl (dgs_cons (dg_name 7 nd) (dgs_cons (dg_name 8 nd) dgs_nil))), (gw_tup (gws_cons gm_name (gm_cons gm_name gm_nil) (gw_name (by decide)) (gws_cons gm_name gm_nil (gw_name (by decide)) gws_nil)))⟩) (fun _ _ _ _ _ => ⟨_, dts_nil⟩) (fun _ _ _ _ _ => ⟨_, (de_call c_is_way hr (goes0A (E := DXK.no)) (da_cons (de_var 0) (da_cons (de_var 7) (da_cons (de_var 3) (da_cons (de_var 8) da_nil)))))⟩)) da_nil)))) (db_one (ds_ret de_bl)) db_nil)
      (db_cons (dx_setLc2 6 (own := [("way", 7), ("content", 9)]) (vs1 := [9]) rfl nd (sw_true rfl rfl rfl (by decide +kernel)) (di_seq (de_var 4)) (blkOk_by (N := ["book", "thing", "word", "corners", "ways", "pairs", "within", "way", "pair", "content"]) (sc := defScope s_is_bar) (by decide +kernel)) (by decide) (fun _ _ _ _ _ => ⟨_, (dg_name 7 nd), (gw_name (by decide))⟩) (fun _ _ _ _ _ => ⟨_, dts_nil⟩) (fun _ _ _ _ _ => ⟨_, (di_seq (de_slice (de_var 7) (do_some de_int) (do_some (de_neg de_int))))⟩) (fun _ _ _ _ _ => ⟨_, (dg_name 9 nd), (gw_name (by decide))⟩) (fun _ _ _ _ _ => ⟨_, dts_nil⟩) (fun _ _ _ _ _ => ⟨_, (de_var 9)⟩))
      (db_one (ds_ret (de_eq hr (de_lenSetG B.len B.set (de_var 6)) (de_len B.len (da_cons (de_var 6) da_nil))))))))))))), ?_⟩
  rintro ds M Q E ⟨b, n, ps, d, x, rfl, B, T, q1, q2⟩
  simp only [dInsert, dVar, dC, dOp, dTest, dII, dIC, dFld, dFldS, dMake, dppNil, dppCons, dMerge, dDisp, dCatL, dExtend, dRg1, dLstRg, dChain, dEq, dAnd, dOr, dNot, dNext, dSeq, dDrop, dRet, dIfS, dNever, dFrzS, hName, hNil, hCons, hTup, hSub, dAsg, dNil, dCons, dTup, dLst, dLstM, dIx, dSet, dCall, dwipe, dYes, jSeq, jRng1, jRng2, dCB, dLen, dList, dListM, dTuple, dII2, dAbs, dInt, dBM0, dBM, dAppend, dPop, dPopAt, dAndV, dNotV, dNeg, dIn, dCat, dNoPart, dPart, dSl, dNewT, dIsi, dLc, dFor, dDc, dLenSetG, dLc2, dFrzE, dLcH, dKdIn, dKdIx, jZipM, if_true, if_false, ite_true, ite_false, Bool.false_eq_true, reduceIte, Bool.not_true, Bool.not_false, List.getElem?_cons_zero, List.getElem?_cons_succ, List.set_cons_zero, List.set_cons_succ, List.map_cons, List.map_nil, List.replicate, List.cons_append, List.nil_append, List.length_cons, List.length_nil, dstart]
  refine ⟨by decide +kernel, ?_⟩
  by_cases hx : ∃ l, x = .tup l
  · obtain ⟨l, rfl⟩ := hx
    refine ⟨"tuple", rfl, ?_⟩
    rw [if_neg (by decide +kernel)]
    refine ⟨l.length, rfl, rfl, rfl, ?_⟩
    rw [D.eq_int]
    by_cases l3 : l.length = 3
    · rw [if_neg (by simp [l3])]
      obtain ⟨w, c, y, rfl⟩ : ∃ w c y, l = [w, c, y] := by
        match l, l3 with
        | [w, c, y], _ => exact ⟨w, c, y, rfl⟩
      obtain ⟨Tw, Tw2, Tc, Ty⟩ := T.it w c y rfl
      refine ⟨rfl, by decide +kernel, ?_⟩
      have bad : (∀ f cs ws, w = wordW f → c = tupI cs → y = .tup (ws.map tupI) → BarP n ps f cs ws → False) → ¬ BarA n ps (.tup [w, c, y]) := fun h ⟨f, cs, ws, e, hb⟩ => by
        unfold barD at e
        injection e with e
        injection e with e1 e
        injection e with e2 e
        injection e with e3 _
        exact h f cs ws e1 e2 e3 hb
      by_cases hw : ∃ s, w = .str s
      · obtain ⟨s, rfl⟩ := hw
        refine ⟨"str", rfl, ?_⟩
        rw [if_neg (by decide +kernel)]
        refine ⟨s, rfl, ?_⟩
        by_cases hf : ∃ f, D.str s = wordW f
        · obtain ⟨f, hf⟩ := hf
          have ht : tblGet [(Str.ofString "five", D.int 5), (Str.ofString "three", D.int 6)] s = some (.int (corW f : Nat)) := by
            cases f with
            | true => unfold wordW at hf; rw [if_pos rfl] at hf; injection hf with hf; subst hf; rfl
            | false => unfold wordW at hf; rw [if_neg (by decide)] at hf; injection hf with hf; subst hf; rfl
          rw [ht, if_neg (by simp)]
          refine ⟨b, n, ps, d, c, rfl, B, Tc, fun hU => ?_, fun hU => ?_⟩
          · obtain ⟨cs, rfl, cnd, crg⟩ := hU
            simp only [if_true, if_false, ite_true, ite_false, Bool.false_eq_true, reduceIte, Bool.not_true, Bool.not_false, List.getElem?_cons_zero, List.getElem?_cons_succ, List.set_cons_zero, List.set_cons_succ, List.map_cons, List.map_nil, List.replicate, List.cons_append, List.nil_append, List.length_cons, List.length_nil, dstart]
            refine ⟨cs.length, by unfold tupI; simp only [lenV, List.length_map], s, _, rfl, ht, rfl, rfl, ?_⟩
            rw [D.eq_int]
            by_cases cl : cs.length = corW f
            · rw [if_neg (by simp [cl])]
              have c6 : cs.length ≤ 6 := by rw [cl]; cases f <;> decide
              refine ⟨f, by rw [hf], by decide +kernel, ?_⟩
              by_cases hy : ∃ wr, y = .tup wr
              · obtain ⟨wr, rfl⟩ := hy
                obtain ⟨wl100, wt⟩ := Ty.it wr rfl
                have pl10 : (prsW f).length ≤ 10 := by cases f <;> decide
                refine ⟨"tuple", rfl, ?_⟩
                rw [if_neg (by decide +kernel)]
                refine ⟨wr.length, rfl, (prsW f).length, by simp only [lenV, List.length_map], rfl, rfl, ?_⟩
                rw [D.eq_int]
                by_cases wl : wr.length = (prsW f).length
                · rw [if_neg (by simp [wl])]
                  simp only [seqOf]
                  have zl : (zipD wr ((prsW f).map prD)).length = wr.length := by rw [zipD_len, List.length_map, wl]; omega
                  have pv : ∀ (k : Nat) p, (prsW f)[k]? = some p → ∃ i j : Nat, p = ((i : Int), (j : Int)) ∧ i < corW f ∧ j < corW f := prs_ok f
                  let G : Nat → Prop := fun k => ∃ us p, wr[k]? = some (tupI us) ∧ (prsW f)[k]? = some p ∧ WayP n ps us (cs.getD p.1.toNat 0) (cs.getD p.2.toNat 0) ∧ ∀ u ∈ innW us, u ∉ cs
                  refine ⟨by rw [wl, List.length_map], by rw [zl, sizeLine_eq]; omega, dLcI_idx (fun k => .bl (@decide (G k) (Classical.propDecidable _))) (fun k e he Q2 q3 => ?_) ⟨_, map_blsA (fun k => @decide (G k) (Classical.propDecidable _)) _, ?_⟩⟩
                  · obtain ⟨r, p, hr, hp, rfl⟩ := zip_at he
                    obtain ⟨i, j, rfl, hi, hj⟩ := pv k p hp
                    simp only [dInsert, dVar, dC, dOp, dTest, dII, dIC, dFld, dFldS, dMake, dppNil, dppCons, dMerge, dDisp, dCatL, dExtend, dRg1, dLstRg, dChain, dEq, dAnd, dOr, dNot, dNext, dSeq, dDrop, dRet, dIfS, dNever, dFrzS, hName, hNil, hCons, hTup, hSub, dAsg, dNil, dCons, dTup, dLst, dLstM, dIx, dSet, dCall, dwipe, dYes, jSeq, jRng1, jRng2, dCB, dLen, dList, dListM, dTuple, dII2, dAbs, dInt, dBM0, dBM, dAppend, dPop, dPopAt, dAndV, dNotV, dNeg, dIn, dCat, dNoPart, dPart, dSl, dNewT, dIsi, dLc, dFor, dDc, dLenSetG, dLc2, dFrzE, dLcH, dKdIn, dKdIx, jZipM, if_true, if_false, ite_true, ite_false, Bool.false_eq_true, reduceIte, Bool.not_true, Bool.not_false, List.getElem?_cons_zero, List.getElem?_cons_succ, List.set_cons_zero, List.set_cons_succ, List.map_cons, List.map_nil, List.replicate, List.cons_append, List.nil_append, List.length_cons, List.length_nil, dstart]
                    refine ⟨trivial, b, n, ps, d, r, cs, i, j, rfl, B, wt r (List.mem_of_getElem? hr), by omega, by omega, by omega, fun ⟨us, e1, h1, h2⟩ => ?_, fun h => ?_⟩
                    · have hG : G k := ⟨us, _, by rw [hr, e1], hp, h1, h2⟩
                      rw [@decide_eq_true _ (Classical.propDecidable _) hG] at q3
                      exact q3
                    · have hG : ¬ G k := fun ⟨us, p2, e1, e2, h1, h2⟩ => by
                        rw [hp] at e2
                        have e2 := Option.some.inj e2
                        subst e2
                        rw [hr] at e1
                        exact h ⟨us, Option.some.inj e1, h1, h2⟩
                      rw [@decide_eq_false _ (Classical.propDecidable _) hG] at q3
                      exact q3
                  · dsimp only
                    rw [zl]
                    by_cases ha : ((List.range wr.length).map fun k => @decide (G k) (Classical.propDecidable _)).all id = true
                    · rw [if_neg (by rw [ha]; decide)]
                      have hG : ∀ k, k < wr.length → G k := fun k hk => by
                        rw [List.all_map, List.all_eq_true] at ha
                        exact @of_decide_eq_true _ (Classical.propDecidable _) (ha k (List.mem_range.mpr hk))
                      obtain ⟨ws, rfl, hws⟩ := tups_of (P := fun k us => ∃ p, (prsW f)[k]? = some p ∧ WayP n ps us (cs.getD p.1.toNat 0) (cs.getD p.2.toNat 0) ∧ ∀ u ∈ innW us, u ∉ cs) (fun k hk => by obtain ⟨us, p, h1, h2⟩ := hG k hk; exact ⟨us, h1, p, h2⟩)
                      have wlen : ∀ (k : Nat) (us : List Int), ws[k]? = some us → us.length ≤ 60 := fun k us h => by
                        have := ((wt (tupI us) (List.mem_map.mpr ⟨us, List.mem_of_getElem? h, rfl⟩)).it _ rfl).1
                        rwa [List.length_map] at this
                      rw [List.length_map] at wl
                      have fl : ∀ k, k ≤ ws.length → ((ws.take k).flatMap innW).length ≤ 60 * k := inn_len wlen
                      refine ⟨fun i acc M' => M' = M ∧ acc = ((ws.take i).flatMap innW).map .int, ⟨rfl, rfl⟩, ?_, ?_⟩
                      · rintro i e acc M' he ⟨hM, rfl⟩
                        subst hM
                        rw [List.getElem?_map, Option.map_eq_some_iff] at he
                        obtain ⟨us, hus, rfl⟩ := he
                        have il := (List.getElem?_eq_some_iff.mp hus).1
                        obtain ⟨p, hp, wp, _⟩ := hws i us hus
                        have inl : (innW us).length ≤ 60 := by have := wlen i us hus; unfold innW; simp; omega
                        have fi := fl i (by omega)
                        simp only [dInsert, dVar, dC, dOp, dTest, dII, dIC, dFld, dFldS, dMake, dppNil, dppCons, dMerge, dDisp, dCatL, dExtend, dRg1, dLstRg, dChain, dEq, dAnd, dOr, dNot, dNext, dSeq, dDrop, dRet, dIfS, dNever, dFrzS, hName, hNil, hCons, hTup, hSub, dAsg, dNil, dCons, dTup, dLst, dLstM, dIx, dSet, dCall, dwipe, dYes, jSeq, jRng1, jRng2, dCB, dLen, dList, dListM, dTuple, dII2, dAbs, dInt, dBM0, dBM, dAppend, dPop, dPopAt, dAndV, dNotV, dNeg, dIn, dCat, dNoPart, dPart, dSl, dNewT, dIsi, dLc, dFor, dDc, dLenSetG, dLc2, dFrzE, dLcH, dKdIn, dKdIx, jZipM, if_true, if_false, ite_true, ite_false, Bool.false_eq_true, reduceIte, Bool.not_true, Bool.not_false, List.getElem?_cons_zero, List.getElem?_cons_succ, List.set_cons_zero, List.set_cons_succ, List.map_cons, List.map_nil, List.replicate, List.cons_append, List.nil_append, List.length_cons, List.length_nil, dstart, tupI]
                        rw [cut_inn wp.l2]
                        refine ⟨fun j acc1 M5 => M5 = M' ∧ acc1 = ((ws.take i).flatMap innW ++ (innW us).take j).map .int, ⟨rfl, by rw [List.take_zero, List.append_nil]⟩, ?_, ?_⟩
                        · rintro j e1 acc1 M5 he1 ⟨hM5, rfl⟩
                          subst hM5
                          obtain ⟨u, hu, rfl⟩ := get_int he1
                          have tl : ((innW us).take j).length ≤ 60 := by rw [List.length_take]; omega
                          simp only [dInsert, dVar, dC, dOp, dTest, dII, dIC, dFld, dFldS, dMake, dppNil, dppCons, dMerge, dDisp, dCatL, dExtend, dRg1, dLstRg, dChain, dEq, dAnd, dOr, dNot, dNext, dSeq, dDrop, dRet, dIfS, dNever, dFrzS, hName, hNil, hCons, hTup, hSub, dAsg, dNil, dCons, dTup, dLst, dLstM, dIx, dSet, dCall, dwipe, dYes, jSeq, jRng1, jRng2, dCB, dLen, dList, dListM, dTuple, dII2, dAbs, dInt, dBM0, dBM, dAppend, dPop, dPopAt, dAndV, dNotV, dNeg, dIn, dCat, dNoPart, dPart, dSl, dNewT, dIsi, dLc, dFor, dDc, dLenSetG, dLc2, dFrzE, dLcH, dKdIn, dKdIx, jZipM, if_true, if_false, ite_true, ite_false, Bool.false_eq_true, reduceIte, Bool.not_true, Bool.not_false, List.getElem?_cons_zero, List.getElem?_cons_succ, List.set_cons_zero, List.set_cons_succ, List.map_cons, List.map_nil, List.replicate, List.cons_append, List.nil_append, List.length_cons, List.length_nil, dstart]
                          refine ⟨by rw [List.length_map, List.length_append, sizeLine_eq]; omega, trivial, ?_⟩
                          rw [take_succ_of hu, ← List.append_assoc, List.map_append (l₁ := _ ++ _)]
                          rfl
                        · rintro acc1 M5 ⟨hM5, rfl⟩
                          subst hM5
                          rw [List.length_map, List.take_length, take_succ_of hus, List.flatMap_append]
                          refine ⟨rfl, ?_⟩
                          congr 2
                          simp
                      · rintro acc M' ⟨hM, rfl⟩
                        subst hM
                        rw [List.length_map, List.take_length]
                        have f0 := fl ws.length (Nat.le_refl _)
                        rw [List.take_length] at f0
                        refine ⟨ws.flatMap innW, rfl, by omega, fun cc cl2 cn => ⟨(ws.flatMap innW).length, by simp only [lenV, List.length_map], rfl, rfl, ?_⟩⟩
                        rw [D.eq_int]
                        by_cases nd : (ws.flatMap innW).Nodup
                        · rw [cn.mpr nd, beq_self_eq_true]
                          refine fin_self (q1 ⟨f, cs, ws, by rw [hf]; rfl, cl, crg, wl, fun k p us hp hus => ?_, List.nodup_append.mpr ⟨cnd, nd, fun a ha2 b2 hb2 e => ?_⟩⟩)
                          · obtain ⟨p2, hp2, wp, _⟩ := hws k us hus
                            rw [hp] at hp2
                            rw [Option.some.inj hp2]; exact wp
                          · obtain ⟨us, hus, hu⟩ := List.mem_flatMap.mp hb2
                            obtain ⟨k, hk⟩ := List.getElem?_of_mem hus
                            obtain ⟨p2, hp2, wp, hin⟩ := hws k us hk
                            exact hin b2 hu (by rw [← e]; exact ha2)
                        · have e1 : ¬ cc = (ws.flatMap innW).length := fun z => nd (cn.mp z)
                          rw [beq_eq_false_iff_ne.mpr (by omega)]
                          refine fin_self (q2 (bad fun f2 cs2 ws2 e1 e2 e3 hb => nd ?_))
                          injection e3 with e3
                          rw [tups_inj e3]
                          exact (List.nodup_append.mp hb.inn).2.1
                    · rw [if_pos (by simp [ha])]
                      refine fin_self (q2 (bad fun f2 cs2 ws2 e1 e2 e3 hb => ha ?_))
                      have ef := word_inj (hf.symm.trans e1)
                      subst ef
                      have ec := tupI_inj e2
                      subst ec
                      injection e3 with e3
                      subst e3
                      rw [List.all_map, List.all_eq_true]
                      intro k hk
                      have hk := List.mem_range.mp hk
                      rw [List.length_map] at hk
                      obtain ⟨us, hus⟩ : ∃ us, ws2[k]? = some us := ⟨_, List.getElem?_eq_getElem hk⟩
                      obtain ⟨p, hp⟩ : ∃ p, (prsW f)[k]? = some p := ⟨_, List.getElem?_eq_getElem (by have := hb.wl; omega)⟩
                      refine @decide_eq_true _ (Classical.propDecidable _) ⟨us, p, by rw [List.getElem?_map, hus]; rfl, hp, hb.way k p us hp hus, fun u hu hc => ?_⟩
                      exact (List.nodup_append.mp hb.inn).2.2 u hc u (List.mem_flatMap.mpr ⟨us, List.mem_of_getElem? hus, hu⟩) rfl
                · rw [if_pos (by simpa using (by omega : ¬ (wr.length : Int) = ((prsW f).length : Int)))]
                  refine fin_self (q2 (bad fun f2 cs2 ws2 e1 e2 e3 hb => wl ?_))
                  have := word_inj (hf.symm.trans e1)
                  subst this
                  injection e3 with e3
                  rw [e3, List.length_map]; exact hb.wl
              · obtain ⟨Tn, hT⟩ := Option.isSome_iff_exists.mp (Ty.ty M)
                refine ⟨Tn, hT, ?_⟩
                rw [ntup Ty.nk (fun l e => hy ⟨l, e⟩) hT, if_pos (by decide)]
                exact fin_self (q2 (bad fun f2 cs2 ws2 e1 e2 e3 hb => hy ⟨_, e3⟩))
            · rw [if_pos (by simpa using (by omega : ¬ (cs.length : Int) = (corW f : Int)))]
              refine fin_self (q2 (bad fun f2 cs2 ws2 e1 e2 e3 hb => cl ?_))
              have := word_inj (hf.symm.trans e1)
              subst this
              rw [tupI_inj e2]; exact hb.cl
          · simp only [if_true, if_false, ite_true, ite_false, Bool.false_eq_true, reduceIte, Bool.not_true, Bool.not_false, List.getElem?_cons_zero, List.getElem?_cons_succ, List.set_cons_zero, List.set_cons_succ, List.map_cons, List.map_nil, List.replicate, List.cons_append, List.nil_append, List.length_cons, List.length_nil, dstart]
            refine fin_self (q2 (bad fun f2 cs2 ws2 e1 e2 e3 hb => hU ⟨cs2, e2, (List.nodup_append.mp hb.inn).1, hb.rg⟩))
        · have ht : tblGet [(Str.ofString "five", D.int 5), (Str.ofString "three", D.int 6)] s = none := by
            unfold tblGet
            rw [List.find?_cons, decide_eq_false (fun e => hf ⟨true, by rw [← e]; rfl⟩), List.find?_cons, decide_eq_false (fun e => hf ⟨false, by rw [← e]; rfl⟩)]
            rfl
          rw [ht, if_pos (by decide)]
          exact fin_self (q2 (bad fun f2 cs2 ws2 e1 e2 e3 hb => hf ⟨f2, e1⟩))
      · obtain ⟨Tn, hT⟩ := Option.isSome_iff_exists.mp (Tw M)
        refine ⟨Tn, hT, ?_⟩
        rw [nstr_ty (fun s e => hw ⟨s, e⟩) hT, if_pos (by decide)]
        refine fin_self (q2 (bad fun f2 cs2 ws2 e1 e2 e3 hb => hw ?_))
        cases f2 <;> exact ⟨_, e1⟩
    · rw [if_pos (by simp; omega)]
      exact fin_self (q2 fun ⟨f, cs, ws, e, _⟩ => by unfold barD at e; injection e with e; rw [e] at l3; exact l3 rfl)
  · obtain ⟨Tn, hT⟩ := Option.isSome_iff_exists.mp (T.ty M)
    refine ⟨Tn, hT, ?_⟩
    rw [ntup T.nk (fun l e => hx ⟨l, e⟩) hT, if_pos (by decide)]
    exact fin_self (q2 fun ⟨f, cs, ws, e, _⟩ => hx ⟨_, e⟩)
theorem sc_is_rising_pair : FnScope ["thing", "many"] ["thing", "many"] (defScope s_is_rising_pair) := ⟨rfl, rfl, rfl, by decide +kernel, rfl, by decide +kernel, by decide +kernel⟩
def sp_is_rising_pair : DSp := fun ds M Q _ => ∃ p n, ds = [prD p, .int n] ∧ prOk n p ∧ Q (.bl true) M
theorem c_is_rising_pair (F : DFun K mg "is_rising_pair" s_is_rising_pair ["thing", "many"]) (B : Bn mg) (G : Gs mg) (c_is_index : DCal P w K mg base CX0 3 "is_index" sp_is_index) : DCal P w K mg base CX0 4 "is_rising_pair" sp_is_rising_pair := by
  refine dok F sc_is_rising_pair (fun ds M Q E h => (by obtain ⟨_, h⟩ := h; first | (obtain ⟨e, _⟩ := h; subst e; rfl) | (obtain ⟨_, e, _⟩ := h; subst e; rfl) | (obtain ⟨_, _, e, _⟩ := h; subst e; rfl) | (obtain ⟨_, _, _, e, _⟩ := h; subst e; rfl) | (obtain ⟨_, _, _, _, e, _⟩ := h; subst e; rfl) | (obtain ⟨_, _, _, _, _, e, _⟩ := h; subst e; rfl) | (obtain ⟨_, _, _, _, _, _, e, _⟩ := h; subst e; rfl) | (obtain ⟨_, _, _, _, _, _, _, e, _⟩ := h; subst e; rfl) | (obtain ⟨_, _, _, _, _, _, _, _, e, _⟩ := h; subst e; rfl) | (obtain ⟨_, _, _, _, _, _, _, _, _, e, _⟩ := h; subst e; rfl) | (obtain ⟨_, _, _, _, _, _, _, _, _, _, e, _⟩ := h; subst e; rfl) | (obtain ⟨_, _, _, _, _, _, _, _, _, _, _, e, _⟩ := h; subst e; rfl) | (obtain ⟨_, _, _, _, _, _, _, _, _, _, _, _, e, _⟩ := h; subst e; rfl) | (obtain ⟨_, _, _, _, _, _, _, _, _, _, _, _, _, e, _⟩ := h; subst e; rfl) | (obtain ⟨_, _, _, _, _, _, _, _, _, _, _, _, _, _, e, _⟩ := h; subst e; rfl) | (obtain ⟨_, _, _, _, _, _, _, _, _, _, _, _, _, _, _, e, _⟩ := h; subst e; rfl) | (obtain ⟨_, _, _, _, _, _, _, _, _, _, _, _, _, _, _, _, e, _⟩ := h; subst e; rfl) | (obtain ⟨_, _, _, _, _, _, _, _, _, _, _, _, _, _, _, _, _, e, _⟩ := h; subst e; rfl) | (obtain ⟨_, _, _, _, _, _, _, _, _, _, _, _, _, _, _, _, _, _, e, _⟩ := h; subst e; rfl) | (obtain ⟨_, _, _, _, _, _, _, _, _, _, _, _, _, _, _, _, _, _, _, e, _⟩ := h; subst e; rfl) | (obtain ⟨_, _, _, _, _, _, _, _, _, _, _, _, _, _, _, _, _, _, _, _, e, _⟩ := h; subst e; rfl) | (obtain ⟨_, _, _, _, _, _, _, _, _, _, _, _, _, _, _, _, _, _, _, _, _, e, _⟩ := h; subst e; rfl) | (obtain ⟨_, _, _, _, _, _, _, _, _, _, _, _, _, _, _, _, _, _, _, _, _, _, e, _⟩ := h; subst e; rfl) | (obtain ⟨_, _, _, _, _, _, _, _, _, _, _, _, _, _, _, _, _, _, _, _, _, _, _, e, _⟩ := h; subst e; rfl) | (obtain ⟨_, _, _, _, _, _, _, _, _, _, _, _, _, _, _, _, _, _, _, _, _, _, _, _, e, _⟩ := h; subst e; rfl) | (obtain ⟨_, _, _, _, _, _, _, _, _, _, _, _, _, _, _, _, _, _, _, _, _, _, _, _, _, e, _⟩ := h; subst e; rfl))) (fun f cdv A outer s H E F0 hr => ?_)
  have nd := (sc_is_rising_pair).nd
  refine ⟨_, _, (db_cons (ds_if (DW.dt (dw_or (dt_not (dt_val (de_isi B.isinstance (da_cons (de_var 0) (da_cons (de_ty (n := "tuple") B.tuple) da_nil))))) (dw_or1 (dt_ne hr (de_len B.len (da_cons (de_var 0) da_nil)) de_int)))) (db_one (ds_ret de_bl)) db_nil)
      (db_one (ds_ret (de_and (de_call c_is_index hr (goes0A (E := DXK.no)) (da_cons (de_ix hr (de_var 0) de_int) (da_cons (de_var 1) da_nil))) (de_and (de_call c_is_index hr (goes0A (E := DXK.no)) (da_cons (de_ix hr (de_var 0) de_int) (da_cons (de_var 1) da_nil))) (de_one (de_lt (de_ix hr (de_var 0) de_int) (de_ix hr (de_var 0) de_int)))))))), ?_⟩
  rintro ds M Q E ⟨⟨x, y⟩, n, rfl, ⟨h1, h2, h3⟩, q⟩
  simp only at h1 h2 h3
  simp only [dInsert, dVar, dC, dOp, dTest, dII, dIC, dFld, dFldS, dMake, dppNil, dppCons, dMerge, dDisp, dCatL, dExtend, dRg1, dLstRg, dChain, dEq, dAnd, dOr, dNot, dNext, dSeq, dDrop, dRet, dIfS, dNever, dFrzS, hName, hNil, hCons, hTup, hSub, dAsg, dNil, dCons, dTup, dLst, dLstM, dIx, dSet, dCall, dwipe, dYes, jSeq, jRng1, jRng2, dCB, dLen, dList, dListM, dTuple, dII2, dAbs, dInt, dBM0, dBM, dAppend, dPop, dPopAt, dAndV, dNotV, dNeg, dIn, dCat, dNoPart, dPart, dSl, dNewT, dIsi, dLc, dFor, dDc, dLenSetG, dLc2, dFrzE, dLcH, dKdIn, dKdIx, jZipM, if_true, if_false, ite_true, ite_false, Bool.false_eq_true, reduceIte, Bool.not_true, Bool.not_false, List.getElem?_cons_zero, List.getElem?_cons_succ, List.set_cons_zero, List.set_cons_succ, List.map_cons, List.map_nil, List.replicate, List.cons_append, List.nil_append, List.length_cons, List.length_nil, dstart, prD, dIsi]
  refine ⟨by decide +kernel, "tuple", rfl, ?_⟩
  rw [show isiT "tuple" "tuple" = true from by decide +kernel]
  simp only [if_true, if_false, ite_true, ite_false, Bool.false_eq_true, reduceIte, Bool.not_true, Bool.not_false, List.getElem?_cons_zero, List.getElem?_cons_succ, List.set_cons_zero, List.set_cons_succ, List.map_cons, List.map_nil, List.replicate, List.cons_append, List.nil_append, List.length_cons, List.length_nil, dstart]
  refine ⟨2, rfl, rfl, rfl, ?_⟩
  have i0 : ∀ M', dIxV M' (D.tup [D.int x, D.int y]) (D.int 0) = some (.int x) := fun _ => rfl
  have i1 : ∀ M', dIxV M' (D.tup [D.int x, D.int y]) (D.int 1) = some (.int y) := fun _ => rfl
  rw [if_neg (by decide +kernel)]
  refine ⟨_, i0 M, _, n, rfl, rfl, ?_⟩
  have e1 : (D.int x).within 0 (n - 1) = true := by simp only [D.within, Bool.and_eq_true, decide_eq_true_eq]; omega
  have e2 : (D.int y).within 0 (n - 1) = true := by simp only [D.within, Bool.and_eq_true, decide_eq_true_eq]; omega
  rw [e1]
  simp only [if_true, if_false, ite_true, ite_false, Bool.false_eq_true, reduceIte, Bool.not_true, Bool.not_false, List.getElem?_cons_zero, List.getElem?_cons_succ, List.set_cons_zero, List.set_cons_succ, List.map_cons, List.map_nil, List.replicate, List.cons_append, List.nil_append, List.length_cons, List.length_nil, dstart]
  refine ⟨_, i1 M, _, n, rfl, rfl, ?_⟩
  rw [e2]
  simp only [if_true, if_false, ite_true, ite_false, Bool.false_eq_true, reduceIte, Bool.not_true, Bool.not_false, List.getElem?_cons_zero, List.getElem?_cons_succ, List.set_cons_zero, List.set_cons_succ, List.map_cons, List.map_nil, List.replicate, List.cons_append, List.nil_append, List.length_cons, List.length_nil, dstart]
  refine ⟨_, i0 M, _, i1 M, ?_⟩
  simp only [decide_eq_true h2]
  exact fin_self q
theorem sc_are_rising_pairs : FnScope ["thing", "many", "most", "pair", "at"] ["thing", "many", "most"] (defScope s_are_rising_pairs) := ⟨rfl, rfl, rfl, by decide +kernel, rfl, by decide +kernel, by decide +kernel⟩
def sp_are_rising_pairs : DSp := fun ds M Q _ => ∃ (ps : List (Int × Int)) (n most : Int), ds = [.tup (ps.map prD), .int n, .int most] ∧ (ps.length : Int) ≤ most ∧ ps.length ≤ 1000000 ∧ PrsOk n ps ∧ Q (.bl true) M
theorem c_are_rising_pairs (F : DFun K mg "are_rising_pairs" s_are_rising_pairs ["thing", "many", "most"]) (B : Bn mg) (G : Gs mg) (c_is_rising_pair : DCal P w K mg base CX0 4 "is_rising_pair" sp_is_rising_pair) : DCal P w K mg base CX0 5 "are_rising_pairs" sp_are_rising_pairs := by
  refine dok F sc_are_rising_pairs (fun ds M Q E h => (by obtain ⟨_, h⟩ := h; first | (obtain ⟨e, _⟩ := h; subst e; rfl) | (obtain ⟨_, e, _⟩ := h; subst e; rfl) | (obtain ⟨_, _, e, _⟩ := h; subst e; rfl) | (obtain ⟨_, _, _, e, _⟩ := h; subst e; rfl) | (obtain ⟨_, _, _, _, e, _⟩ := h; subst e; rfl) | (obtain ⟨_, _, _, _, _, e, _⟩ := h; subst e; rfl) | (obtain ⟨_, _, _, _, _, _, e, _⟩ := h; subst e; rfl) | (obtain ⟨_, _, _, _, _, _, _, e, _⟩ := h; subst e; rfl) | (obtain ⟨_, _, _, _, _, _, _, _, e, _⟩ := h; subst e; rfl) | (obtain ⟨_, _, _, _, _, _, _, _, _, e, _⟩ := h; subst e; rfl) | (obtain ⟨_, _, _, _, _, _, _, _, _, _, e, _⟩ := h; subst e; rfl) | (obtain ⟨_, _, _, _, _, _, _, _, _, _, _, e, _⟩ := h; subst e; rfl) | (obtain ⟨_, _, _, _, _, _, _, _, _, _, _, _, e, _⟩ := h; subst e; rfl) | (obtain ⟨_, _, _, _, _, _, _, _, _, _, _, _, _, e, _⟩ := h; subst e; rfl) | (obtain ⟨_, _, _, _, _, _, _, _, _, _, _, _, _, _, e, _⟩ := h; subst e; rfl) | (obtain ⟨_, _, _, _, _, _, _, _, _, _, _, _, _, _, _, e, _⟩ := h; subst e; rfl) | (obtain ⟨_, _, _, _, _, _, _, _, _, _, _, _, _, _, _, _, e, _⟩ := h; subst e; rfl) | (obtain ⟨_, _, _, _, _, _, _, _, _, _, _, _, _, _, _, _, _, e, _⟩ := h; subst e; rfl) | (obtain ⟨_, _, _, _, _, _, _, _, _, _, _, _, _, _, _, _, _, _, e, _⟩ := h; subst e; rfl) | (obtain ⟨_, _, _, _, _, _, _, _, _, _, _, _, _, _, _, _, _, _, _, e, _⟩ := h; subst e; rfl) | (obtain ⟨_, _, _, _, _, _, _, _, _, _, _, _, _, _, _, _, _, _, _, _, e, _⟩ := h; subst e; rfl) | (obtain ⟨_, _, _, _, _, _, _, _, _, _, _, _, _, _, _, _, _, _, _, _, _, e, _⟩ := h; subst e; rfl) | (obtain ⟨_, _, _, _, _, _, _, _, _, _, _, _, _, _, _, _, _, _, _, _, _, _, e, _⟩ := h; subst e; rfl) | (obtain ⟨_, _, _, _, _, _, _, _, _, _, _, _, _, _, _, _, _, _, _, _, _, _, _, e, _⟩ := h; subst e; rfl) | (obtain ⟨_, _, _, _, _, _, _, _, _, _, _, _, _, _, _, _, _, _, _, _, _, _, _, _, e, _⟩ := h; subst e; rfl) | (obtain ⟨_, _, _, _, _, _, _, _, _, _, _, _, _, _, _, _, _, _, _, _, _, _, _, _, _, e, _⟩ := h; subst e; rfl))) (fun f cdv A outer s H E F0 hr => ?_)
  have nd := (sc_are_rising_pairs).nd
  refine ⟨_, _, (db_cons (ds_if (DW.dt (dw_or (dt_not (dt_val (de_isi B.isinstance (da_cons (de_var 0) (da_cons (de_ty (n := "tuple") B.tuple) da_nil))))) (dw_or1 (dt_gt (de_len B.len (da_cons (de_var 0) da_nil)) (de_var 2))))) (db_one (ds_ret de_bl)) db_nil)
      (db_cons (ds_if (dt_not (dt_val (de_blt (cr_all rfl) lc_flags B.all (da_cons (dx_lc (own := [("pair", 3)]) rfl nd (di_seq (de_var 0)) (blkOk_by (N := ["thing", "many", "most", "pair", "at"]) (sc := defScope s_are_rising_pairs) (by decide +kernel)) (fun _ _ _ _ _ => ⟨_, (dg_name 3 nd), (gw_name (by decide))⟩) (fun _ _ _ _ _ => ⟨_, dts_nil⟩) (fun _ _ _ _ _ => ⟨_, (de_call c_is_rising_pair hr (goes0A (E := DXK.no)) (da_cons (de_var 3) (da_cons (de_var 1) da_nil)))⟩)) da_nil)))) (db_one (ds_ret de_bl)) db_nil)
      (db_one (ds_ret (de_not (de_blt (cr_any rfl) lc_flags B.any (da_cons (dx_lc (own := [("at", 4)]) rfl nd (di_range2 B.range (da_cons de_int (da_cons (de_len B.len (da_cons (de_var 0) da_nil)) da_nil))) (blkOk_by (N := ["thing", "many", "most", "pair", "at"]) (sc := defScope s_are_rising_pairs) (by decide +kernel)) (fun _ _ _ _ _ => ⟨_, (dg_name 4 nd), (gw_name (by decide))⟩) (fun _ _ _ _ _ => ⟨_, dts_nil⟩) (fun _ _ _ _ _ => ⟨_, (de_geT hr (de_ix hr (de_var 0) (de_sub (de_var 4) de_int)) (de_ix hr (de_var 0) (de_var 4)))⟩)) da_nil))))))), ?_⟩
  rintro ds M Q E ⟨ps, n, most, rfl, hl, hz, h, q⟩
  simp only [dInsert, dVar, dC, dOp, dTest, dII, dIC, dFld, dFldS, dMake, dppNil, dppCons, dMerge, dDisp, dCatL, dExtend, dRg1, dLstRg, dChain, dEq, dAnd, dOr, dNot, dNext, dSeq, dDrop, dRet, dIfS, dNever, dFrzS, hName, hNil, hCons, hTup, hSub, dAsg, dNil, dCons, dTup, dLst, dLstM, dIx, dSet, dCall, dwipe, dYes, jSeq, jRng1, jRng2, dCB, dLen, dList, dListM, dTuple, dII2, dAbs, dInt, dBM0, dBM, dAppend, dPop, dPopAt, dAndV, dNotV, dNeg, dIn, dCat, dNoPart, dPart, dSl, dNewT, dIsi, dLc, dFor, dDc, dLenSetG, dLc2, dFrzE, dLcH, dKdIn, dKdIx, jZipM, if_true, if_false, ite_true, ite_false, Bool.false_eq_true, reduceIte, Bool.not_true, Bool.not_false, List.getElem?_cons_zero, List.getElem?_cons_succ, List.set_cons_zero, List.set_cons_succ, List.map_cons, List.map_nil, List.replicate, List.cons_append, List.nil_append, List.length_cons, List.length_nil, dstart, dIsi]
  refine ⟨by decide +kernel, "tuple", rfl, ?_⟩
  rw [if_neg (by decide +kernel)]
  refine ⟨ps.length, by simp [lenV], ?_⟩
  rw [if_neg (by simp; omega)]
  refine ⟨by rw [List.length_map]; exact len_ok (by omega), dLcI_map (fun _ => .bl true) (fun i d hd Q2 q2 => ?_) ?_⟩
  · simp only [dInsert, dVar, dC, dOp, dTest, dII, dIC, dFld, dFldS, dMake, dppNil, dppCons, dMerge, dDisp, dCatL, dExtend, dRg1, dLstRg, dChain, dEq, dAnd, dOr, dNot, dNext, dSeq, dDrop, dRet, dIfS, dNever, dFrzS, hName, hNil, hCons, hTup, hSub, dAsg, dNil, dCons, dTup, dLst, dLstM, dIx, dSet, dCall, dwipe, dYes, jSeq, jRng1, jRng2, dCB, dLen, dList, dListM, dTuple, dII2, dAbs, dInt, dBM0, dBM, dAppend, dPop, dPopAt, dAndV, dNotV, dNeg, dIn, dCat, dNoPart, dPart, dSl, dNewT, dIsi, dLc, dFor, dDc, dLenSetG, dLc2, dFrzE, dLcH, dKdIn, dKdIx, jZipM, if_true, if_false, ite_true, ite_false, Bool.false_eq_true, reduceIte, Bool.not_true, Bool.not_false, List.getElem?_cons_zero, List.getElem?_cons_succ, List.set_cons_zero, List.set_cons_succ, List.map_cons, List.map_nil, List.replicate, List.cons_append, List.nil_append, List.length_cons, List.length_nil, dstart]
    obtain ⟨p, hp, rfl⟩ := get_pr hd
    exact ⟨p, n, rfl, h.ok p (List.mem_of_getElem? hp), q2⟩
  refine ⟨_, map_bl true _, ?_⟩
  have ea : (List.replicate (ps.map prD).length true).all id = true := by simp
  simp only [ea, if_true, if_false, ite_true, ite_false, Bool.false_eq_true, reduceIte, Bool.not_true, Bool.not_false, List.getElem?_cons_zero, List.getElem?_cons_succ, List.set_cons_zero, List.set_cons_succ, List.map_cons, List.map_nil, List.replicate, List.cons_append, List.nil_append, List.length_cons, List.length_nil, dstart]
  refine ⟨ps.length, by simp [lenV], by omega, by rw [rgD_len]; exact len_ok (by omega), dLcI_map (fun _ => .bl false) (fun i d hd Q2 q2 => ?_) ?_⟩
  · simp only [dInsert, dVar, dC, dOp, dTest, dII, dIC, dFld, dFldS, dMake, dppNil, dppCons, dMerge, dDisp, dCatL, dExtend, dRg1, dLstRg, dChain, dEq, dAnd, dOr, dNot, dNext, dSeq, dDrop, dRet, dIfS, dNever, dFrzS, hName, hNil, hCons, hTup, hSub, dAsg, dNil, dCons, dTup, dLst, dLstM, dIx, dSet, dCall, dwipe, dYes, jSeq, jRng1, jRng2, dCB, dLen, dList, dListM, dTuple, dII2, dAbs, dInt, dBM0, dBM, dAppend, dPop, dPopAt, dAndV, dNotV, dNeg, dIn, dCat, dNoPart, dPart, dSl, dNewT, dIsi, dLc, dFor, dDc, dLenSetG, dLc2, dFrzE, dLcH, dKdIn, dKdIx, jZipM, if_true, if_false, ite_true, ite_false, Bool.false_eq_true, reduceIte, Bool.not_true, Bool.not_false, List.getElem?_cons_zero, List.getElem?_cons_succ, List.set_cons_zero, List.set_cons_succ, List.map_cons, List.map_nil, List.replicate, List.cons_append, List.nil_append, List.length_cons, List.length_nil, dstart]
    obtain ⟨hi, rfl⟩ := rgD_get hd
    have h1 : i + 1 < ps.length := by omega
    have e1 : ps[i]? = some ps[i] := List.getElem?_eq_getElem (by omega)
    have e2 : ps[i + 1]? = some ps[i + 1] := List.getElem?_eq_getElem h1
    have lt := pw_next h.lt e1 e2
    refine ⟨prD ps[i], atI_at (k := i) (by omega) (by rw [List.getElem?_map, e1]; rfl), prD ps[i + 1], atI_at (k := i + 1) (by omega) (by rw [List.getElem?_map, e2]; rfl), ?_⟩
    refine ⟨[ps[i].1, ps[i].2], [ps[i + 1].1, ps[i + 1].2], rfl, rfl, ?_⟩
    rw [geL_two, decide_eq_false (by unfold prLt at lt; omega)]
    exact q2
  refine ⟨_, map_bl false _, ?_⟩
  have eb : (List.replicate (rgD 1 ((ps.length : Int) - 1).toNat).length false).any id = false := by simp
  simp only [eb, if_true, if_false, ite_true, ite_false, Bool.false_eq_true, reduceIte, Bool.not_true, Bool.not_false, List.getElem?_cons_zero, List.getElem?_cons_succ, List.set_cons_zero, List.set_cons_succ, List.map_cons, List.map_nil, List.replicate, List.cons_append, List.nil_append, List.length_cons, List.length_nil, dstart]
  exact fin_self q
theorem sc_beside_lists : FnScope ["many", "pairs", "found", "one", "other", "_", "row"] ["many", "pairs"] (defScope s_beside_lists) := ⟨rfl, rfl, rfl, by decide +kernel, rfl, by decide +kernel, by decide +kernel⟩
def sp_beside_lists : DSp := fun ds M Q _ => ∃ (n : Int) (ps : List (Int × Int)), ds = [.int n, .tup (ps.map prD)] ∧ 0 ≤ n ∧ n ≤ 10000 ∧ ps.length ≤ 1000000 ∧ PrsOk n ps ∧ Q (.lst (rowsD n ps)) M
theorem c_beside_lists (F : DFun K mg "beside_lists" s_beside_lists ["many", "pairs"]) (B : Bn mg) (G : Gs mg)  : DCal P w K mg base CX0 1 "beside_lists" sp_beside_lists := by
  refine dok F sc_beside_lists (fun ds M Q E h => (by obtain ⟨_, h⟩ := h; first | (obtain ⟨e, _⟩ := h; subst e; rfl) | (obtain ⟨_, e, _⟩ := h; subst e; rfl) | (obtain ⟨_, _, e, _⟩ := h; subst e; rfl) | (obtain ⟨_, _, _, e, _⟩ := h; subst e; rfl) | (obtain ⟨_, _, _, _, e, _⟩ := h; subst e; rfl) | (obtain ⟨_, _, _, _, _, e, _⟩ := h; subst e; rfl) | (obtain ⟨_, _, _, _, _, _, e, _⟩ := h; subst e; rfl) | (obtain ⟨_, _, _, _, _, _, _, e, _⟩ := h; subst e; rfl) | (obtain ⟨_, _, _, _, _, _, _, _, e, _⟩ := h; subst e; rfl) | (obtain ⟨_, _, _, _, _, _, _, _, _, e, _⟩ := h; subst e; rfl) | (obtain ⟨_, _, _, _, _, _, _, _, _, _, e, _⟩ := h; subst e; rfl) | (obtain ⟨_, _, _, _, _, _, _, _, _, _, _, e, _⟩ := h; subst e; rfl) | (obtain ⟨_, _, _, _, _, _, _, _, _, _, _, _, e, _⟩ := h; subst e; rfl) | (obtain ⟨_, _, _, _, _, _, _, _, _, _, _, _, _, e, _⟩ := h; subst e; rfl) | (obtain ⟨_, _, _, _, _, _, _, _, _, _, _, _, _, _, e, _⟩ := h; subst e; rfl) | (obtain ⟨_, _, _, _, _, _, _, _, _, _, _, _, _, _, _, e, _⟩ := h; subst e; rfl) | (obtain ⟨_, _, _, _, _, _, _, _, _, _, _, _, _, _, _, _, e, _⟩ := h; subst e; rfl) | (obtain ⟨_, _, _, _, _, _, _, _, _, _, _, _, _, _, _, _, _, e, _⟩ := h; subst e; rfl) | (obtain ⟨_, _, _, _, _, _, _, _, _, _, _, _, _, _, _, _, _, _, e, _⟩ := h; subst e; rfl) | (obtain ⟨_, _, _, _, _, _, _, _, _, _, _, _, _, _, _, _, _, _, _, e, _⟩ := h; subst e; rfl) | (obtain ⟨_, _, _, _, _, _, _, _, _, _, _, _, _, _, _, _, _, _, _, _, e, _⟩ := h; subst e; rfl) | (obtain ⟨_, _, _, _, _, _, _, _, _, _, _, _, _, _, _, _, _, _, _, _, _, e, _⟩ := h; subst e; rfl) | (obtain ⟨_, _, _, _, _, _, _, _, _, _, _, _, _, _, _, _, _, _, _, _, _, _, e, _⟩ := h; subst e; rfl) | (obtain ⟨_, _, _, _, _, _, _, _, _, _, _, _, _, _, _, _, _, _, _, _, _, _, _, e, _⟩ := h; subst e; rfl) | (obtain ⟨_, _, _, _, _, _, _, _, _, _, _, _, _, _, _, _, _, _, _, _, _, _, _, _, e, _⟩ := h; subst e; rfl) | (obtain ⟨_, _, _, _, _, _, _, _, _, _, _, _, _, _, _, _, _, _, _, _, _, _, _, _, _, e, _⟩ := h; subst e; rfl))) (fun f cdv A outer s H E F0 hr => ?_)
  have nd := (sc_beside_lists).nd
  refine ⟨_, _, (db_cons (dx_setLc 2 (own := [("_", 5)]) rfl nd (sw_true rfl rfl rfl (by decide +kernel)) (di_range1 B.range (da_cons (de_var 0) da_nil)) (blkOk_by (N := ["many", "pairs", "found", "one", "other", "_", "row"]) (sc := defScope s_beside_lists) (by decide +kernel)) (fun _ _ _ _ _ => ⟨_, (dg_name 5 nd), (gw_name (by decide))⟩) (fun _ _ _ _ _ => ⟨_, dts_nil⟩) (fun _ _ _ _ _ => ⟨_, (de_lstM da_nil)⟩))
      (db_cons (ds_for PassesOwn.never rfl (di_seq (de_var 1)) (dg_tup (n := 2) rfl (dgs_cons (dg_name 3 nd) (dgs_cons (dg_name 4 nd) dgs_nil))) (db_cons (ds_expr (de_append (de_ix hr (de_var 2) (de_var 3)) (da_cons (de_var 4) da_nil)))
      (db_one (ds_expr (de_append (de_ix hr (de_var 2) (de_var 4)) (da_cons (de_var 3) da_nil))))))
      (db_one (ds_ret (dx_lc (own := [("row", 6)]) rfl nd (di_seq (de_var 2)) (blkOk_by (N := ["many", "pairs", "found", "one", "other", "_", "row"]) (sc := defScope s_beside_lists) (by decide +kernel)) (fun _ _ _ _ _ => ⟨_, (dg_name 6 nd), (gw_name (by decide))⟩) (fun _ _ _ _ _ => ⟨_, dts_nil⟩) (fun _ _ _ _ _ => ⟨_, (de_bty call_tuple_of lc_tuple B.tuple (da_cons (de_sortI B.sorted (da_cons (de_var 6) da_nil)) da_nil))⟩)))))), ?_⟩
  rintro ds M Q E ⟨n, ps, rfl, h0, hn, hz, h, q⟩
  simp only [dInsert, dVar, dC, dOp, dTest, dII, dIC, dFld, dFldS, dMake, dppNil, dppCons, dMerge, dDisp, dCatL, dExtend, dRg1, dLstRg, dChain, dEq, dAnd, dOr, dNot, dNext, dSeq, dDrop, dRet, dIfS, dNever, dFrzS, hName, hNil, hCons, hTup, hSub, dAsg, dNil, dCons, dTup, dLst, dLstM, dIx, dSet, dCall, dwipe, dYes, jSeq, jRng1, jRng2, dCB, dLen, dList, dListM, dTuple, dII2, dAbs, dInt, dBM0, dBM, dAppend, dPop, dPopAt, dAndV, dNotV, dNeg, dIn, dCat, dNoPart, dPart, dSl, dNewT, dIsi, dLc, dFor, dDc, dLenSetG, dLc2, dFrzE, dLcH, dKdIn, dKdIx, jZipM, if_true, if_false, ite_true, ite_false, Bool.false_eq_true, reduceIte, Bool.not_true, Bool.not_false, List.getElem?_cons_zero, List.getElem?_cons_succ, List.set_cons_zero, List.set_cons_succ, List.map_cons, List.map_nil, List.replicate, List.cons_append, List.nil_append, List.length_cons, List.length_nil, dstart]
  refine ⟨by omega, by rw [rgD_len]; exact len_ok (by omega), lcI_fresh (fun d M Q h γ => h _) fun as M1 R ho hf => ?_⟩
  rw [rgD_len] at R
  have has : as.length = n.toNat := by rw [R.len]; simp
  refine dForI_of (fun i γ M' => ∃ o1 o2, γ = [some (.int n), some (.tup (ps.map prD)), some (.lst (as.map .ref)), o1, o2, none, none] ∧ RowsAt M' as ((List.range n.toNat).map fun (j : Nat) => (nbr (ps.take i) (j : Int)).map .int) ∧ ∀ p, p ∉ as → M' p = M p) ?_ ?_ ?_
  · refine ⟨none, none, rfl, ?_, ho⟩
    have e : (List.range n.toNat).map (fun (j : Nat) => (nbr (ps.take 0) (j : Int)).map D.int) = List.replicate n.toNat [] := by
      apply List.ext_getElem?
      intro j
      simp only [List.take_zero, nbr, List.flatMap_nil, List.map_nil, List.getElem?_map, List.getElem?_replicate]
      by_cases hj : j < n.toNat
      · rw [List.getElem?_range hj, if_pos hj]; rfl
      · rw [List.getElem?_eq_none (by simpa using hj), if_neg hj]; rfl
    rw [e]; exact R
  · rintro i d γ M2 hd ⟨o1, o2, rfl, R2, ho2⟩
    obtain ⟨⟨a, b⟩, hp, rfl⟩ := get_pr hd
    obtain ⟨k1, k2, k3⟩ := h.ok _ (List.mem_of_getElem? hp)
    simp only at k1 k2 k3
    have hi := (List.getElem?_eq_some_iff.mp hp).1
    have tl : (ps.take i).length ≤ ps.length := by rw [List.length_take]; omega
    obtain ⟨x, hx, mx, R3⟩ := R2.push (k := a.toNat) (d := .int b) (g := fun (j : Nat) => (nbr (ps.take i) (j : Int) ++ (if (j : Int) = a then [b] else [])).map .int) (by omega) (fun j => by
      by_cases e : j = a.toNat
      · have e2 : (j : Int) = a := by omega
        simp [e, e2, show ((a.toNat : Nat) : Int) = a by omega]
      · have e2 : ¬ (j : Int) = a := by omega
        simp [e, e2])
    simp only [dInsert, dVar, dC, dOp, dTest, dII, dIC, dFld, dFldS, dMake, dppNil, dppCons, dMerge, dDisp, dCatL, dExtend, dRg1, dLstRg, dChain, dEq, dAnd, dOr, dNot, dNext, dSeq, dDrop, dRet, dIfS, dNever, dFrzS, hName, hNil, hCons, hTup, hSub, dAsg, dNil, dCons, dTup, dLst, dLstM, dIx, dSet, dCall, dwipe, dYes, jSeq, jRng1, jRng2, dCB, dLen, dList, dListM, dTuple, dII2, dAbs, dInt, dBM0, dBM, dAppend, dPop, dPopAt, dAndV, dNotV, dNeg, dIn, dCat, dNoPart, dPart, dSl, dNewT, dIsi, dLc, dFor, dDc, dLenSetG, dLc2, dFrzE, dLcH, dKdIn, dKdIx, jZipM, if_true, if_false, ite_true, ite_false, Bool.false_eq_true, reduceIte, Bool.not_true, Bool.not_false, List.getElem?_cons_zero, List.getElem?_cons_succ, List.set_cons_zero, List.set_cons_succ, List.map_cons, List.map_nil, List.replicate, List.cons_append, List.nil_append, List.length_cons, List.length_nil, dstart, prD]
    refine ⟨trivial, .ref x, ref_at (by omega) hx, by simp only [tyD, mx], ?_⟩
    simp only [mx]
    have l1 := nbr_len (ps.take i) (a.toNat : Nat)
    refine ⟨len_lt (by rw [List.length_map]; omega), ?_⟩
    obtain ⟨y, hy, my, R4⟩ := R3.push (k := b.toNat) (d := .int a) (g := fun (j : Nat) => (nbr (ps.take (i + 1)) (j : Int)).map .int) (by omega) (fun j => by
      rw [take_succ_of hp, nbr_snoc]
      by_cases e : j = b.toNat
      · have e2 : (j : Int) = b := by omega
        have e3 : ¬ (j : Int) = a := by omega
        have e4 : ¬ a = (j : Int) := by omega
        simp [e, show ((b.toNat : Nat) : Int) = b by omega, show ¬ b = a by omega, show ¬ a = b by omega]
      · have e2 : ¬ b = (j : Int) := by omega
        by_cases e3 : (j : Int) = a
        · simp [e, e3, show ¬ b = a by omega, show ¬ a.toNat = b.toNat by omega]
        · have e4 : ¬ a = (j : Int) := by omega
          simp [e, e2, e3, e4])
    refine ⟨.ref y, ref_at (by omega) hy, by simp only [tyD, my], ?_⟩
    simp only [my]
    have l2 := nbr_len (ps.take i) (b.toNat : Nat)
    have e5 : ¬ ((b.toNat : Nat) : Int) = a := by omega
    refine ⟨len_lt (by rw [List.length_map, if_neg e5, List.append_nil]; omega), _, _, rfl, R4, fun p hp' => ?_⟩
    rw [mset_ne fun z => hp' (by rw [z]; exact List.mem_of_getElem? hy), mset_ne fun z => hp' (by rw [z]; exact List.mem_of_getElem? hx)]
    exact ho2 p hp'
  · rintro γ M2 ⟨o1, o2, rfl, R2, ho2⟩
    rw [List.length_map, List.take_length] at R2
    simp only [dInsert, dVar, dC, dOp, dTest, dII, dIC, dFld, dFldS, dMake, dppNil, dppCons, dMerge, dDisp, dCatL, dExtend, dRg1, dLstRg, dChain, dEq, dAnd, dOr, dNot, dNext, dSeq, dDrop, dRet, dIfS, dNever, dFrzS, hName, hNil, hCons, hTup, hSub, dAsg, dNil, dCons, dTup, dLst, dLstM, dIx, dSet, dCall, dwipe, dYes, jSeq, jRng1, jRng2, dCB, dLen, dList, dListM, dTuple, dII2, dAbs, dInt, dBM0, dBM, dAppend, dPop, dPopAt, dAndV, dNotV, dNeg, dIn, dCat, dNoPart, dPart, dSl, dNewT, dIsi, dLc, dFor, dDc, dLenSetG, dLc2, dFrzE, dLcH, dKdIn, dKdIx, jZipM, if_true, if_false, ite_true, ite_false, Bool.false_eq_true, reduceIte, Bool.not_true, Bool.not_false, List.getElem?_cons_zero, List.getElem?_cons_succ, List.set_cons_zero, List.set_cons_succ, List.map_cons, List.map_nil, List.replicate, List.cons_append, List.nil_append, List.length_cons, List.length_nil, dstart]
    refine ⟨by rw [List.length_map, has]; exact len_ok (by omega), dLcI_idx (fun k => .tup ((srt (nbr ps (k : Int))).map .int)) (fun k d hd Q2 q2 => ?_) ?_⟩
    · rw [List.getElem?_map] at hd
      obtain ⟨a, ha, rfl⟩ := Option.map_eq_some_iff.mp hd
      obtain ⟨r, hr1, hr2⟩ := R2.at' k a ha
      have hk : k < n.toNat := by rw [← has]; exact (List.getElem?_eq_some_iff.mp ha).1
      rw [List.getElem?_map, List.getElem?_range hk] at hr1
      cases hr1
      simp only [dInsert, dVar, dC, dOp, dTest, dII, dIC, dFld, dFldS, dMake, dppNil, dppCons, dMerge, dDisp, dCatL, dExtend, dRg1, dLstRg, dChain, dEq, dAnd, dOr, dNot, dNext, dSeq, dDrop, dRet, dIfS, dNever, dFrzS, hName, hNil, hCons, hTup, hSub, dAsg, dNil, dCons, dTup, dLst, dLstM, dIx, dSet, dCall, dwipe, dYes, jSeq, jRng1, jRng2, dCB, dLen, dList, dListM, dTuple, dII2, dAbs, dInt, dBM0, dBM, dAppend, dPop, dPopAt, dAndV, dNotV, dNeg, dIn, dCat, dNoPart, dPart, dSl, dNewT, dIsi, dLc, dFor, dDc, dLenSetG, dLc2, dFrzE, dLcH, dKdIn, dKdIx, jZipM, if_true, if_false, ite_true, ite_false, Bool.false_eq_true, reduceIte, Bool.not_true, Bool.not_false, List.getElem?_cons_zero, List.getElem?_cons_succ, List.set_cons_zero, List.set_cons_succ, List.map_cons, List.map_nil, List.replicate, List.cons_append, List.nil_append, List.length_cons, List.length_nil, dstart]
      exact dSortI_srt _ (.inr ⟨a, rfl, hr2⟩) q2
    · have e : (List.range (as.map D.ref).length).map (fun (k : Nat) => D.tup ((srt (nbr ps (k : Int))).map .int)) = rowsD n ps := by
        rw [List.length_map, has, rowsD, rowsOf, List.map_map]; rfl
      rw [e]
      refine fin_less (M2 := M) (fun p o hp => ?_) q
      rw [ho2 p fun z => ?_]
      · exact hp
      · rw [hf p z] at hp; cases hp
theorem sc_reached : FnScope ["rows", "inside", "start", "found", "todo", "other"] ["rows", "inside", "start"] (defScope s_reached) := ⟨rfl, rfl, rfl, by decide +kernel, rfl, by decide +kernel, by decide +kernel⟩
def sp_reached : DSp := fun ds M Q _ => ∃ (n : Int) (ps : List (Int × Int)) (d : Addr) (ns : List Int) (s : Int), ds = [.lst (rowsD n ps), .ref d, .int s] ∧ PrsOk n ps ∧ InsAt M d ns ∧ ns.length ≤ 10000 ∧ (∀ x ∈ ns, 0 ≤ x ∧ x < n) ∧ s ∈ ns ∧ ∀ (r : Addr) (ks : List Int), M r = none → ks.Nodup → (∀ x, x ∈ ks ↔ Rch ps ns s x) → Q (.ref r) (mset M r (.dK (ks.map kvT)))
theorem c_reached (F : DFun K mg "reached" s_reached ["rows", "inside", "start"]) (B : Bn mg) (G : Gs mg)  : DCal P w K mg base CX0 1 "reached" sp_reached := by
  refine dok F sc_reached (fun ds M Q E h => (by obtain ⟨_, h⟩ := h; first | (obtain ⟨e, _⟩ := h; subst e; rfl) | (obtain ⟨_, e, _⟩ := h; subst e; rfl) | (obtain ⟨_, _, e, _⟩ := h; subst e; rfl) | (obtain ⟨_, _, _, e, _⟩ := h; subst e; rfl) | (obtain ⟨_, _, _, _, e, _⟩ := h; subst e; rfl) | (obtain ⟨_, _, _, _, _, e, _⟩ := h; subst e; rfl) | (obtain ⟨_, _, _, _, _, _, e, _⟩ := h; subst e; rfl) | (obtain ⟨_, _, _, _, _, _, _, e, _⟩ := h; subst e; rfl) | (obtain ⟨_, _, _, _, _, _, _, _, e, _⟩ := h; subst e; rfl) | (obtain ⟨_, _, _, _, _, _, _, _, _, e, _⟩ := h; subst e; rfl) | (obtain ⟨_, _, _, _, _, _, _, _, _, _, e, _⟩ := h; subst e; rfl) | (obtain ⟨_, _, _, _, _, _, _, _, _, _, _, e, _⟩ := h; subst e; rfl) | (obtain ⟨_, _, _, _, _, _, _, _, _, _, _, _, e, _⟩ := h; subst e; rfl) | (obtain ⟨_, _, _, _, _, _, _, _, _, _, _, _, _, e, _⟩ := h; subst e; rfl) | (obtain ⟨_, _, _, _, _, _, _, _, _, _, _, _, _, _, e, _⟩ := h; subst e; rfl) | (obtain ⟨_, _, _, _, _, _, _, _, _, _, _, _, _, _, _, e, _⟩ := h; subst e; rfl) | (obtain ⟨_, _, _, _, _, _, _, _, _, _, _, _, _, _, _, _, e, _⟩ := h; subst e; rfl) | (obtain ⟨_, _, _, _, _, _, _, _, _, _, _, _, _, _, _, _, _, e, _⟩ := h; subst e; rfl) | (obtain ⟨_, _, _, _, _, _, _, _, _, _, _, _, _, _, _, _, _, _, e, _⟩ := h; subst e; rfl) | (obtain ⟨_, _, _, _, _, _, _, _, _, _, _, _, _, _, _, _, _, _, _, e, _⟩ := h; subst e; rfl) | (obtain ⟨_, _, _, _, _, _, _, _, _, _, _, _, _, _, _, _, _, _, _, _, e, _⟩ := h; subst e; rfl) | (obtain ⟨_, _, _, _, _, _, _, _, _, _, _, _, _, _, _, _, _, _, _, _, _, e, _⟩ := h; subst e; rfl) | (obtain ⟨_, _, _, _, _, _, _, _, _, _, _, _, _, _, _, _, _, _, _, _, _, _, e, _⟩ := h; subst e; rfl) | (obtain ⟨_, _, _, _, _, _, _, _, _, _, _, _, _, _, _, _, _, _, _, _, _, _, _, e, _⟩ := h; subst e; rfl) | (obtain ⟨_, _, _, _, _, _, _, _, _, _, _, _, _, _, _, _, _, _, _, _, _, _, _, _, e, _⟩ := h; subst e; rfl) | (obtain ⟨_, _, _, _, _, _, _, _, _, _, _, _, _, _, _, _, _, _, _, _, _, _, _, _, _, e, _⟩ := h; subst e; rfl))) (fun f cdv A outer s H E F0 hr => ?_)
  have nd := (sc_reached).nd
  refine ⟨_, _, (db_cons (ds_set 3 nd (de_disp (dpp_cons (de_var 2) de_bl dpp_nil)))
      (db_cons (ds_set 4 nd (de_lstM (da_cons (de_var 2) da_nil)))
      (db_cons (ds_while PassesOwn.never (dt_gt (de_len B.len (da_cons (de_var 4) da_nil)) de_int) (db_one (ds_for PassesOwn.never rfl (di_seq (de_ix hr (de_var 0) (de_pop (de_var 4)))) (dg_name 5 nd) (db_one (ds_if (DW.dt (dw_and (dt_in hr (de_var 5) (de_var 1)) (dw_and1 (dt_notIn hr (de_var 5) (de_var 3))))) (db_cons (ds_put hr (de_var 3) (de_var 5) de_bl)
      (db_one (ds_expr (de_append (de_var 4) (da_cons (de_var 5) da_nil))))) db_nil)))))
      (db_one (ds_ret (de_var 3)))))), ?_⟩
  rintro ds M Q E ⟨n, ps, d, ns, s, rfl, hp, hi, hz, hn, hs, q⟩
  simp only [dInsert, dVar, dC, dOp, dTest, dII, dIC, dFld, dFldS, dMake, dppNil, dppCons, dMerge, dDisp, dCatL, dExtend, dRg1, dLstRg, dChain, dEq, dAnd, dOr, dNot, dNext, dSeq, dDrop, dRet, dIfS, dNever, dFrzS, hName, hNil, hCons, hTup, hSub, dAsg, dNil, dCons, dTup, dLst, dLstM, dIx, dSet, dCall, dwipe, dYes, jSeq, jRng1, jRng2, dCB, dLen, dList, dListM, dTuple, dII2, dAbs, dInt, dBM0, dBM, dAppend, dPop, dPopAt, dAndV, dNotV, dNeg, dIn, dCat, dNoPart, dPart, dSl, dNewT, dIsi, dLc, dFor, dDc, dLenSetG, dLc2, dFrzE, dLcH, dKdIn, dKdIx, jZipM, if_true, if_false, ite_true, ite_false, Bool.false_eq_true, reduceIte, Bool.not_true, Bool.not_false, List.getElem?_cons_zero, List.getElem?_cons_succ, List.set_cons_zero, List.set_cons_succ, List.map_cons, List.map_nil, List.replicate, List.cons_append, List.nil_append, List.length_cons, List.length_nil, dstart]
  intro r hr
  refine ⟨_, rfl, fun _ => ⟨by decide, by decide, fun td htd => ?_⟩⟩
  have e0 : (dput [] (.inl s) (.bl true) : List (Key × D)) = [s].map kvT := rfl
  rw [e0] at htd ⊢
  have ntd : td ≠ r := fun e => by rw [e, mset_same] at htd; cases htd
  have htd0 : M td = none := by rw [mset_ne ntd] at htd; exact htd
  have hd : d ≠ r ∧ d ≠ td := by
    obtain ⟨kvs, h1, _⟩ := hi.ex
    exact ⟨fun e => by (rw [e, hr] at h1; cases h1), fun e => by (rw [e, htd0] at h1; cases h1)⟩
  have mem_ns : ∀ {ks : List Int}, (∀ x, x ∈ ks → Rch ps ns s x) → ∀ x, x ∈ ks → x ∈ ns := fun h x hx => (h x hx).mem hs
  refine ⟨fun m γ M' => ∃ (o : Option D) (ks ts : List Int), γ = [some (.lst (rowsD n ps)), some (.ref d), some (.int s), some (.ref r), some (.ref td), o] ∧ M' r = some (.dK (ks.map kvT)) ∧ M' td = some (.lst (ts.map .int)) ∧ Agree M M' [r, td] ∧ ks.Nodup ∧ (∀ x, x ∈ ks → Rch ps ns s x) ∧ s ∈ ks ∧ (∀ x, x ∈ ts → x ∈ ks) ∧ ts.length ≤ ks.length ∧
    (∀ x, x ∈ ks → x ∈ ts ∨ ∀ y, y ∈ nbr ps x → y ∈ ns → y ∈ ks) ∧ m = 2 * (ns.length - ks.length) + ts.length, ⟨_, none, [s], [s], rfl, ?_, mset_same, fun q hq => ?_, by simp, ?_, by simp, fun x hx => hx, by simp, fun x hx => .inl hx, rfl⟩, ?_⟩
  · rw [mset_ne (Ne.symm ntd), mset_same]
  · simp only [List.mem_cons, List.not_mem_nil, or_false, not_or] at hq
    rw [mset_ne hq.2, mset_ne hq.1]
  · intro x hx
    rw [List.mem_singleton.mp hx]; exact .refl
  rintro m γ M' ⟨o, ks, ts, rfl, hk, ht, ag, nd, hR, hsk, hts, hlen, cl, rfl⟩
  have hkl : ks.length ≤ ns.length := nodup_len nd (mem_ns hR)
  simp only [dInsert, dVar, dC, dOp, dTest, dII, dIC, dFld, dFldS, dMake, dppNil, dppCons, dMerge, dDisp, dCatL, dExtend, dRg1, dLstRg, dChain, dEq, dAnd, dOr, dNot, dNext, dSeq, dDrop, dRet, dIfS, dNever, dFrzS, hName, hNil, hCons, hTup, hSub, dAsg, dNil, dCons, dTup, dLst, dLstM, dIx, dSet, dCall, dwipe, dYes, jSeq, jRng1, jRng2, dCB, dLen, dList, dListM, dTuple, dII2, dAbs, dInt, dBM0, dBM, dAppend, dPop, dPopAt, dAndV, dNotV, dNeg, dIn, dCat, dNoPart, dPart, dSl, dNewT, dIsi, dLc, dFor, dDc, dLenSetG, dLc2, dFrzE, dLcH, dKdIn, dKdIx, jZipM, if_true, if_false, ite_true, ite_false, Bool.false_eq_true, reduceIte, Bool.not_true, Bool.not_false, List.getElem?_cons_zero, List.getElem?_cons_succ, List.set_cons_zero, List.set_cons_succ, List.map_cons, List.map_nil, List.replicate, List.cons_append, List.nil_append, List.length_cons, List.length_nil, dstart]
  refine ⟨ts.length, by simp only [lenV, ht, List.length_map], ?_⟩
  rcases snoc_cases ts with rfl | ⟨ts', x, rfl⟩
  · simp only [dInsert, dVar, dC, dOp, dTest, dII, dIC, dFld, dFldS, dMake, dppNil, dppCons, dMerge, dDisp, dCatL, dExtend, dRg1, dLstRg, dChain, dEq, dAnd, dOr, dNot, dNext, dSeq, dDrop, dRet, dIfS, dNever, dFrzS, hName, hNil, hCons, hTup, hSub, dAsg, dNil, dCons, dTup, dLst, dLstM, dIx, dSet, dCall, dwipe, dYes, jSeq, jRng1, jRng2, dCB, dLen, dList, dListM, dTuple, dII2, dAbs, dInt, dBM0, dBM, dAppend, dPop, dPopAt, dAndV, dNotV, dNeg, dIn, dCat, dNoPart, dPart, dSl, dNewT, dIsi, dLc, dFor, dDc, dLenSetG, dLc2, dFrzE, dLcH, dKdIn, dKdIx, jZipM, if_true, if_false, ite_true, ite_false, Bool.false_eq_true, reduceIte, Bool.not_true, Bool.not_false, List.getElem?_cons_zero, List.getElem?_cons_succ, List.set_cons_zero, List.set_cons_succ, List.map_cons, List.map_nil, List.replicate, List.cons_append, List.nil_append, List.length_cons, List.length_nil, dstart]
    rw [if_neg (by decide)]
    refine fin_less (fun q o h => ?_) (q r ks hr nd fun x => ⟨hR x, fun ⟨t, h⟩ => ?_⟩)
    · by_cases e : q = r
      · rw [e, mset_same] at h; rw [e, hk]; exact h
      · rw [mset_ne e] at h
        rw [ag q (by
          simp only [List.mem_cons, List.not_mem_nil, or_false, not_or]
          exact ⟨e, fun z => by (rw [z, htd0] at h; cases h)⟩)]
        exact h
    · induction t generalizing x with
      | zero => rw [show x = s from h]; exact hsk
      | succ t ih =>
        obtain ⟨z, h1, h2, h3⟩ := h
        rcases cl z (ih z ⟨_, h1⟩ h1) with h4 | h4
        · cases h4
        · exact h4 x h2 h3
  · rw [if_pos (by first | (simp; done) | (simp; omega))]
    simp only [tyD, ht]
    have hx : x ∈ ks := hts x (by simp)
    have hxn := hn x (mem_ns hR x hx)
    refine ⟨trivial, .int x, by simp, .tup ((srt (nbr ps x)).map .int), rowsD_get hxn.1 hxn.2, ?_⟩
    have nl := nbr_len ps x
    have hdl : ((ts' ++ [x]).map D.int).dropLast = ts'.map D.int := by rw [List.map_append]; exact List.dropLast_concat
    simp only [dInsert, dVar, dC, dOp, dTest, dII, dIC, dFld, dFldS, dMake, dppNil, dppCons, dMerge, dDisp, dCatL, dExtend, dRg1, dLstRg, dChain, dEq, dAnd, dOr, dNot, dNext, dSeq, dDrop, dRet, dIfS, dNever, dFrzS, hName, hNil, hCons, hTup, hSub, dAsg, dNil, dCons, dTup, dLst, dLstM, dIx, dSet, dCall, dwipe, dYes, jSeq, jRng1, jRng2, dCB, dLen, dList, dListM, dTuple, dII2, dAbs, dInt, dBM0, dBM, dAppend, dPop, dPopAt, dAndV, dNotV, dNeg, dIn, dCat, dNoPart, dPart, dSl, dNewT, dIsi, dLc, dFor, dDc, dLenSetG, dLc2, dFrzE, dLcH, dKdIn, dKdIx, jZipM, if_true, if_false, ite_true, ite_false, Bool.false_eq_true, reduceIte, Bool.not_true, Bool.not_false, List.getElem?_cons_zero, List.getElem?_cons_succ, List.set_cons_zero, List.set_cons_succ, List.map_cons, List.map_nil, List.replicate, List.cons_append, List.nil_append, List.length_cons, List.length_nil, dstart, hdl]
    refine dForI_of (fun i γ M' => ∃ (o : Option D) (ks2 ts2 : List Int), γ = [some (.lst (rowsD n ps)), some (.ref d), some (.int s), some (.ref r), some (.ref td), o] ∧ M' r = some (.dK (ks2.map kvT)) ∧ M' td = some (.lst (ts2.map .int)) ∧ Agree M M' [r, td] ∧ ks2.Nodup ∧ (∀ x, x ∈ ks2 → Rch ps ns s x) ∧ s ∈ ks2 ∧ (∀ x, x ∈ ts2 → x ∈ ks2) ∧ ts2.length ≤ ks2.length ∧ x ∈ ks2 ∧
      (∀ z, z ∈ ks2 → z ∈ ts2 ∨ z = x ∨ ∀ y, y ∈ nbr ps z → y ∈ ns → y ∈ ks2) ∧ (∀ y, y ∈ (srt (nbr ps x)).take i → y ∈ ns → y ∈ ks2) ∧ 2 * (ns.length - ks2.length) + ts2.length < 2 * (ns.length - ks.length) + (ts' ++ [x]).length) ⟨o, ks, ts', rfl, ?_, mset_same, ?_, nd, hR, hsk, fun y hy => hts y (List.mem_append_left _ hy), ?_, hx, fun z hz => ?_, by simp, ?_⟩ ?_ ?_
    · rw [mset_ne (Ne.symm ntd)]; exact hk
    · exact ag.trans (Agree.mset (by simp))
    · rw [List.length_append] at hlen; omega
    · rcases cl z hz with h | h
      · rcases List.mem_append.mp h with h | h
        · exact .inl h
        · exact .inr (.inl (List.mem_singleton.mp h))
      · exact .inr (.inr h)
    · rw [List.length_append]; simp
    · rintro i e γ M2 he ⟨o, ks2, ts2, rfl, k2, t2, ag2, nd2, R2, s2, m2, l2, x2, c2, p2, w2⟩
      obtain ⟨y, hy, rfl⟩ := get_int he
      have hyn : y ∈ nbr ps x := srt_mem.mp (List.mem_of_getElem? hy)
      have i2 : InsAt M2 d ns := hi.keep (ag2 d (by simp [hd.1, hd.2]))
      have kl2 : ks2.length ≤ ns.length := nodup_len nd2 (mem_ns R2)
      have stay : (y ∈ ns → y ∈ ks2) → ∀ z, z ∈ (srt (nbr ps x)).take (i + 1) → z ∈ ns → z ∈ ks2 := fun h z hz hzn => by
        rw [take_succ_of hy] at hz
        rcases List.mem_append.mp hz with hz | hz
        · exact p2 z hz hzn
        · rw [List.mem_singleton.mp hz] at hzn ⊢; exact h hzn
      simp only [dInsert, dVar, dC, dOp, dTest, dII, dIC, dFld, dFldS, dMake, dppNil, dppCons, dMerge, dDisp, dCatL, dExtend, dRg1, dLstRg, dChain, dEq, dAnd, dOr, dNot, dNext, dSeq, dDrop, dRet, dIfS, dNever, dFrzS, hName, hNil, hCons, hTup, hSub, dAsg, dNil, dCons, dTup, dLst, dLstM, dIx, dSet, dCall, dwipe, dYes, jSeq, jRng1, jRng2, dCB, dLen, dList, dListM, dTuple, dII2, dAbs, dInt, dBM0, dBM, dAppend, dPop, dPopAt, dAndV, dNotV, dNeg, dIn, dCat, dNoPart, dPart, dSl, dNewT, dIsi, dLc, dFor, dDc, dLenSetG, dLc2, dFrzE, dLcH, dKdIn, dKdIx, jZipM, if_true, if_false, ite_true, ite_false, Bool.false_eq_true, reduceIte, Bool.not_true, Bool.not_false, List.getElem?_cons_zero, List.getElem?_cons_succ, List.set_cons_zero, List.set_cons_succ, List.map_cons, List.map_nil, List.replicate, List.cons_append, List.nil_append, List.length_cons, List.length_nil, dstart]
      refine ⟨_, i2.has y, ?_⟩
      by_cases h1 : y ∈ ns
      · simp only [decide_eq_true h1, if_true, if_false, ite_true, ite_false, Bool.false_eq_true, reduceIte, Bool.not_true, Bool.not_false, List.getElem?_cons_zero, List.getElem?_cons_succ, List.set_cons_zero, List.set_cons_succ, List.map_cons, List.map_nil, List.replicate, List.cons_append, List.nil_append, List.length_cons, List.length_nil, dstart]
        refine ⟨_, has_kvT k2 y, ?_⟩
        by_cases h2 : y ∈ ks2
        · simp only [decide_eq_true h2, if_true, if_false, ite_true, ite_false, Bool.false_eq_true, reduceIte, Bool.not_true, Bool.not_false, List.getElem?_cons_zero, List.getElem?_cons_succ, List.set_cons_zero, List.set_cons_succ, List.map_cons, List.map_nil, List.replicate, List.cons_append, List.nil_append, List.length_cons, List.length_nil, dstart]
          exact ⟨_, ks2, ts2, rfl, k2, t2, ag2, nd2, R2, s2, m2, l2, x2, c2, stay fun _ => h2, w2⟩
        · simp only [decide_eq_false h2, if_true, if_false, ite_true, ite_false, Bool.false_eq_true, reduceIte, Bool.not_true, Bool.not_false, List.getElem?_cons_zero, List.getElem?_cons_succ, List.set_cons_zero, List.set_cons_succ, List.map_cons, List.map_nil, List.replicate, List.cons_append, List.nil_append, List.length_cons, List.length_nil, dstart]
          have nd3 : (ks2 ++ [y]).Nodup := by
            rw [List.nodup_append]
            exact ⟨nd2, by simp, fun a ha b hb => by
              rw [List.mem_singleton.mp hb]
              intro z
              exact h2 (by rw [← z]; exact ha)⟩
          have R3 : ∀ z, z ∈ ks2 ++ [y] → Rch ps ns s z := fun z hz => by
            rcases List.mem_append.mp hz with hz | hz
            · exact R2 z hz
            · rw [List.mem_singleton.mp hz]; exact (R2 x x2).step hyn h1
          have kl3 : (ks2 ++ [y]).length ≤ ns.length := nodup_len nd3 (mem_ns R3)
          rw [List.length_append, List.length_singleton] at kl3
          have st : dStore M2 r (.int y) (.bl true) = some (mset M2 r (.dK ((ks2 ++ [y]).map kvT))) := by
            simp only [dStore, k2, keyOf, Option.bind_some, List.length_map]
            rw [if_pos (len_lt (by omega)), dput_kvT h2]
          refine ⟨_, st, ?_⟩
          simp only [tyD, mset_ne ntd, t2]
          refine ⟨trivial, len_lt (by rw [List.length_map]; omega), _, ks2 ++ [y], ts2 ++ [y], rfl, ?_, ?_, ?_, nd3, R3, List.mem_append_left _ s2, fun z hz => ?_, ?_, List.mem_append_left _ x2, fun z hz => ?_, fun z hz hzn => ?_, ?_⟩
          · rw [mset_ne (Ne.symm ntd), mset_same]
          · rw [mset_same, List.map_append]; rfl
          · exact (ag2.trans (Agree.mset (by simp))).trans (Agree.mset (by simp))
          · rcases List.mem_append.mp hz with hz | hz
            · exact List.mem_append_left _ (m2 z hz)
            · exact List.mem_append_right _ hz
          · rw [List.length_append, List.length_append]; simp; omega
          · rcases List.mem_append.mp hz with hz | hz
            · rcases c2 z hz with h | h | h
              · exact .inl (List.mem_append_left _ h)
              · exact .inr (.inl h)
              · exact .inr (.inr fun u hu hun => List.mem_append_left _ (h u hu hun))
            · exact .inl (List.mem_append_right _ hz)
          · rw [take_succ_of hy] at hz
            rcases List.mem_append.mp hz with hz | hz
            · exact List.mem_append_left _ (p2 z hz hzn)
            · exact List.mem_append_right _ hz
          · rw [List.length_append, List.length_append, List.length_singleton]; omega
      · simp only [decide_eq_false h1, if_true, if_false, ite_true, ite_false, Bool.false_eq_true, reduceIte, Bool.not_true, Bool.not_false, List.getElem?_cons_zero, List.getElem?_cons_succ, List.set_cons_zero, List.set_cons_succ, List.map_cons, List.map_nil, List.replicate, List.cons_append, List.nil_append, List.length_cons, List.length_nil, dstart]
        exact ⟨_, ks2, ts2, rfl, k2, t2, ag2, nd2, R2, s2, m2, l2, x2, c2, stay fun h => absurd h h1, w2⟩
    · rintro γ M2 ⟨o, ks2, ts2, rfl, k2, t2, ag2, nd2, R2, s2, m2, l2, x2, c2, p2, w2⟩
      rw [List.length_map, List.take_length] at p2
      refine ⟨_, w2, o, ks2, ts2, rfl, k2, t2, ag2, nd2, R2, s2, m2, l2, fun z hz => ?_, rfl⟩
      rcases c2 z hz with h | h | h
      · exact .inl h
      · subst h
        exact .inr fun y hy hyn => p2 y (srt_mem.mpr hy) hyn
      · exact .inr h
theorem sc_Book___init__ : FnScope ["self", "size", "ties", "inside", "content"] ["self", "size", "ties"] (defScope s_Book___init__) := ⟨rfl, rfl, rfl, by decide +kernel, rfl, by decide +kernel, by decide +kernel⟩
def sp_Book___init__ (C_TB : Addr) : DSp := fun ds M Q _ => ∃ (p : Addr) (n : Int) (ps : List (Int × Int)), ds = [.ref p, .int n, .tup (ps.map prD)] ∧ M p = some (.ins C_TB []) ∧ BookOk n ps ∧ ∀ d M2, M d = none → BookAt C_TB M2 p n ps d → Agree M M2 [p, d] → Q .non M2
theorem c_Book___init__ {f : Addr} {C_TB : Addr} (F : DMet K "__init__" "Book.__init__" s_Book___init__ f ["self", "size", "ties"]) (B : Bn mg) (G : Gs mg) (TB : Cl_TB K mg C_TB) (c_are_rising_pairs : DCal P w K mg base CX0 5 "are_rising_pairs" sp_are_rising_pairs) (c_beside_lists : DCal P w K mg base CX0 1 "beside_lists" sp_beside_lists) (c_is_within : DCal P w K mg base CX0 2 "is_within" sp_is_within) (c_reached : DCal P w K mg base CX0 1 "reached" sp_reached) : ∃ fd, FnOk P w K mg base CX0 6 f fd ["self", "size", "ties"] (liftSp K (sp_Book___init__ C_TB)) ∧ Binds K fd ["self", "size", "ties"] [] := by
  obtain ⟨t_MOST_CONTENTS, g_MOST_CONTENTS⟩ := G.MOST_CONTENTS
  obtain ⟨t_MOST_TIES, g_MOST_TIES⟩ := G.MOST_TIES
  refine dokM F sc_Book___init__ (fun ds M Q E h => (by obtain ⟨_, h⟩ := h; first | (obtain ⟨e, _⟩ := h; subst e; rfl) | (obtain ⟨_, e, _⟩ := h; subst e; rfl) | (obtain ⟨_, _, e, _⟩ := h; subst e; rfl) | (obtain ⟨_, _, _, e, _⟩ := h; subst e; rfl) | (obtain ⟨_, _, _, _, e, _⟩ := h; subst e; rfl) | (obtain ⟨_, _, _, _, _, e, _⟩ := h; subst e; rfl) | (obtain ⟨_, _, _, _, _, _, e, _⟩ := h; subst e; rfl) | (obtain ⟨_, _, _, _, _, _, _, e, _⟩ := h; subst e; rfl) | (obtain ⟨_, _, _, _, _, _, _, _, e, _⟩ := h; subst e; rfl) | (obtain ⟨_, _, _, _, _, _, _, _, _, e, _⟩ := h; subst e; rfl) | (obtain ⟨_, _, _, _, _, _, _, _, _, _, e, _⟩ := h; subst e; rfl) | (obtain ⟨_, _, _, _, _, _, _, _, _, _, _, e, _⟩ := h; subst e; rfl) | (obtain ⟨_, _, _, _, _, _, _, _, _, _, _, _, e, _⟩ := h; subst e; rfl) | (obtain ⟨_, _, _, _, _, _, _, _, _, _, _, _, _, e, _⟩ := h; subst e; rfl) | (obtain ⟨_, _, _, _, _, _, _, _, _, _, _, _, _, _, e, _⟩ := h; subst e; rfl) | (obtain ⟨_, _, _, _, _, _, _, _, _, _, _, _, _, _, _, e, _⟩ := h; subst e; rfl) | (obtain ⟨_, _, _, _, _, _, _, _, _, _, _, _, _, _, _, _, e, _⟩ := h; subst e; rfl) | (obtain ⟨_, _, _, _, _, _, _, _, _, _, _, _, _, _, _, _, _, e, _⟩ := h; subst e; rfl) | (obtain ⟨_, _, _, _, _, _, _, _, _, _, _, _, _, _, _, _, _, _, e, _⟩ := h; subst e; rfl) | (obtain ⟨_, _, _, _, _, _, _, _, _, _, _, _, _, _, _, _, _, _, _, e, _⟩ := h; subst e; rfl) | (obtain ⟨_, _, _, _, _, _, _, _, _, _, _, _, _, _, _, _, _, _, _, _, e, _⟩ := h; subst e; rfl) | (obtain ⟨_, _, _, _, _, _, _, _, _, _, _, _, _, _, _, _, _, _, _, _, _, e, _⟩ := h; subst e; rfl) | (obtain ⟨_, _, _, _, _, _, _, _, _, _, _, _, _, _, _, _, _, _, _, _, _, _, e, _⟩ := h; subst e; rfl) | (obtain ⟨_, _, _, _, _, _, _, _, _, _, _, _, _, _, _, _, _, _, _, _, _, _, _, e, _⟩ := h; subst e; rfl) | (obtain ⟨_, _, _, _, _, _, _, _, _, _, _, _, _, _, _, _, _, _, _, _, _, _, _, _, e, _⟩ := h; subst e; rfl) | (obtain ⟨_, _, _, _, _, _, _, _, _, _, _, _, _, _, _, _, _, _, _, _, _, _, _, _, _, e, _⟩ := h; subst e; rfl))) (fun cdv A outer s H E F0 hr => ?_)
  have nd := (sc_Book___init__).nd
  refine ⟨_, _, (db_cons (ds_if (dt_not (dt_val (de_call c_is_within hr (goes0A (E := DXK.no)) (da_cons (de_var 1) (da_cons de_int (da_cons (de_globI g_MOST_CONTENTS) da_nil)))))) (db_one ds_never) db_nil)
      (db_cons (ds_if (dt_not (dt_val (de_call c_are_rising_pairs hr (goes0A (E := DXK.no)) (da_cons (de_var 2) (da_cons (de_var 1) (da_cons (de_globI g_MOST_TIES) da_nil)))))) (db_one ds_never) db_nil)
      (db_cons (ds_fld TB.cl TB.n_kept_size (de_var 0) (de_var 1))
      (db_cons (ds_fld TB.cl TB.n_kept_ties (de_var 0) (de_var 2))
      (db_cons (ds_fld TB.cl TB.n_kept_facts (de_var 0) (de_disp (dpp_cons de_str (de_call c_beside_lists hr (goes0A (E := DXK.no)) (da_cons (de_var 1) (da_cons (de_var 2) da_nil))) dpp_nil)))
      (db_cons (dx_setDc 3 (own := [("content", 4)]) rfl nd (sw_trueD rfl rfl rfl (by decide +kernel)) (di_range1 B.range (da_cons (de_var 1) da_nil)) (blkOk_by (N := ["self", "size", "ties", "inside", "content"]) (sc := defScope s_Book___init__) (by decide +kernel)) (fun _ _ _ _ _ => ⟨_, (dg_name 4 nd), (gw_name (by decide))⟩) (fun _ _ _ _ _ => ⟨_, dts_nil⟩) (fun _ _ _ _ _ => ⟨_, (de_var 4)⟩) (fun _ _ _ _ _ => ⟨_, de_bl⟩))
      (db_one (ds_if (dt_lt (de_len B.len (da_cons (de_call c_reached hr (goes0A (E := DXK.no)) (da_cons (de_ix hr (de_fld TB.cl TB.n_kept_facts (de_var 0)) de_str) (da_cons (de_var 3) (da_cons de_int da_nil)))) da_nil)) (de_var 1)) (db_one ds_never) db_nil)))))))), ?_⟩
  rintro ds M Q E ⟨p, n, ps, rfl, hp, ok, q⟩
  have n0 := ok.lo
  have n8 := ok.hi
  have l28 := ok.pr.len28 n8
  have e1 : (D.int n).within 1 8 = true := by simp only [D.within, Bool.and_eq_true, decide_eq_true_eq]; omega
  refine dSeq_then (fun γ' M' => γ' = [some (.ref p), some (.int n), some (.tup (ps.map prD)), none, none] ∧ M' = M) (fun nx hn => ?_) (fun γ1 M1 h1 => ?_)
  · simp only [dInsert, dVar, dC, dOp, dTest, dII, dIC, dFld, dFldS, dMake, dppNil, dppCons, dMerge, dDisp, dCatL, dExtend, dRg1, dLstRg, dChain, dEq, dAnd, dOr, dNot, dNext, dSeq, dDrop, dRet, dIfS, dNever, dFrzS, hName, hNil, hCons, hTup, hSub, dAsg, dNil, dCons, dTup, dLst, dLstM, dIx, dSet, dCall, dwipe, dYes, jSeq, jRng1, jRng2, dCB, dLen, dList, dListM, dTuple, dII2, dAbs, dInt, dBM0, dBM, dAppend, dPop, dPopAt, dAndV, dNotV, dNeg, dIn, dCat, dNoPart, dPart, dSl, dNewT, dIsi, dLc, dFor, dDc, dLenSetG, dLc2, dFrzE, dLcH, dKdIn, dKdIx, jZipM, if_true, if_false, ite_true, ite_false, Bool.false_eq_true, reduceIte, Bool.not_true, Bool.not_false, List.getElem?_cons_zero, List.getElem?_cons_succ, List.set_cons_zero, List.set_cons_succ, List.map_cons, List.map_nil, List.replicate, List.cons_append, List.nil_append, List.length_cons, List.length_nil, dstart]
    refine ⟨.int n, 1, 8, rfl, rfl, ?_⟩
    rw [e1]
    simp only [if_true, if_false, ite_true, ite_false, Bool.false_eq_true, reduceIte, Bool.not_true, Bool.not_false, List.getElem?_cons_zero, List.getElem?_cons_succ, List.set_cons_zero, List.set_cons_succ, List.map_cons, List.map_nil, List.replicate, List.cons_append, List.nil_append, List.length_cons, List.length_nil, dstart]
    exact hn _ _ ⟨rfl, rfl⟩
  obtain ⟨rfl, rfl⟩ := h1
  refine dSeq_then (fun γ' M' => γ' = [some (.ref p), some (.int n), some (.tup (ps.map prD)), none, none] ∧ M' = M1) (fun nx hn => ?_) (fun γ2 M2 h2 => ?_)
  · simp only [dInsert, dVar, dC, dOp, dTest, dII, dIC, dFld, dFldS, dMake, dppNil, dppCons, dMerge, dDisp, dCatL, dExtend, dRg1, dLstRg, dChain, dEq, dAnd, dOr, dNot, dNext, dSeq, dDrop, dRet, dIfS, dNever, dFrzS, hName, hNil, hCons, hTup, hSub, dAsg, dNil, dCons, dTup, dLst, dLstM, dIx, dSet, dCall, dwipe, dYes, jSeq, jRng1, jRng2, dCB, dLen, dList, dListM, dTuple, dII2, dAbs, dInt, dBM0, dBM, dAppend, dPop, dPopAt, dAndV, dNotV, dNeg, dIn, dCat, dNoPart, dPart, dSl, dNewT, dIsi, dLc, dFor, dDc, dLenSetG, dLc2, dFrzE, dLcH, dKdIn, dKdIx, jZipM, if_true, if_false, ite_true, ite_false, Bool.false_eq_true, reduceIte, Bool.not_true, Bool.not_false, List.getElem?_cons_zero, List.getElem?_cons_succ, List.set_cons_zero, List.set_cons_succ, List.map_cons, List.map_nil, List.replicate, List.cons_append, List.nil_append, List.length_cons, List.length_nil, dstart]
    refine ⟨ps, n, 28, rfl, by omega, by omega, ok.pr, ?_⟩
    simp only [if_true, if_false, ite_true, ite_false, Bool.false_eq_true, reduceIte, Bool.not_true, Bool.not_false, List.getElem?_cons_zero, List.getElem?_cons_succ, List.set_cons_zero, List.set_cons_succ, List.map_cons, List.map_nil, List.replicate, List.cons_append, List.nil_append, List.length_cons, List.length_nil, dstart]
    exact hn _ _ ⟨rfl, rfl⟩
  obtain ⟨rfl, rfl⟩ := h2
  simp only [dInsert, dVar, dC, dOp, dTest, dII, dIC, dFld, dFldS, dMake, dppNil, dppCons, dMerge, dDisp, dCatL, dExtend, dRg1, dLstRg, dChain, dEq, dAnd, dOr, dNot, dNext, dSeq, dDrop, dRet, dIfS, dNever, dFrzS, hName, hNil, hCons, hTup, hSub, dAsg, dNil, dCons, dTup, dLst, dLstM, dIx, dSet, dCall, dwipe, dYes, jSeq, jRng1, jRng2, dCB, dLen, dList, dListM, dTuple, dII2, dAbs, dInt, dBM0, dBM, dAppend, dPop, dPopAt, dAndV, dNotV, dNeg, dIn, dCat, dNoPart, dPart, dSl, dNewT, dIsi, dLc, dFor, dDc, dLenSetG, dLc2, dFrzE, dLcH, dKdIn, dKdIx, jZipM, if_true, if_false, ite_true, ite_false, Bool.false_eq_true, reduceIte, Bool.not_true, Bool.not_false, List.getElem?_cons_zero, List.getElem?_cons_succ, List.set_cons_zero, List.set_cons_succ, List.map_cons, List.map_nil, List.replicate, List.cons_append, List.nil_append, List.length_cons, List.length_nil, dstart, hp, mset_same, mset_mset, putD, bne]
  refine ⟨trivial, by decide, trivial, by decide, fun f hf => ⟨_, rfl, n, ps, rfl, by omega, by omega, by omega, ok.pr, fun hf2 => ⟨by decide, ?_⟩⟩⟩
  have fp : f ≠ p := fun e => by rw [e, mset_same] at hf; cases hf
  have hf0 : M2 f = none := by rw [mset_ne fp] at hf; exact hf
  have e2 : (dput [] (.inr "tied") (.lst (rowsD n ps)) : List (Key × D)) = [(.inr "tied", .lst (rowsD n ps))] := rfl
  simp only [e2, mset_ne (Ne.symm fp), mset_same, if_true, if_false, ite_true, ite_false, Bool.false_eq_true, reduceIte, Bool.not_true, Bool.not_false, List.getElem?_cons_zero, List.getElem?_cons_succ, List.set_cons_zero, List.set_cons_succ, List.map_cons, List.map_nil, List.replicate, List.cons_append, List.nil_append, List.length_cons, List.length_nil, dstart, putD, bne]
  rw [rgD_all]
  refine ⟨trivial, by decide, by omega, by rw [List.length_map, allOf_len]; exact len_ok (by omega), ?_⟩
  have hb : BookAt C_TB (mset (mset (mset M2 p (.ins C_TB [("kept_size", .int n), ("kept_ties", .tup (ps.map prD))])) f (.dK [(.inr "tied", .lst (rowsD n ps))])) p (.ins C_TB (bookF n ps f))) p n ps f := ⟨mset_same, by rw [mset_ne fp, mset_same], ok⟩
  have ag : Agree M2 (mset (mset (mset M2 p (.ins C_TB [("kept_size", .int n), ("kept_ties", .tup (ps.map prD))])) f (.dK [(.inr "tied", .lst (rowsD n ps))])) p (.ins C_TB (bookF n ps f))) [p, f] := ((Agree.mset (by simp)).trans (Agree.mset (by simp))).trans (Agree.mset (by simp))
  change dDcI _ _ _ _ _ _ _ (mset (mset (mset M2 p (.ins C_TB [("kept_size", .int n), ("kept_ties", .tup (ps.map prD))])) f (.dK [(.inr "tied", .lst (rowsD n ps))])) p (.ins C_TB (bookF n ps f))) _
  revert hb ag
  generalize mset (mset (mset M2 p (.ins C_TB [("kept_size", .int n), ("kept_ties", .tup (ps.map prD))])) f (.dK [(.inr "tied", .lst (rowsD n ps))])) p (.ins C_TB (bookF n ps f)) = Ma
  intro B ag
  refine dDcI_map (fun d => match d with | .int i => .inl i | _ => .inl 0) (fun _ => .bl true) (fun i e he Q2 q2 => ?_) fun i hi => ?_
  · obtain ⟨y, hy, rfl⟩ := get_int he
    simp only [dInsert, dVar, dC, dOp, dTest, dII, dIC, dFld, dFldS, dMake, dppNil, dppCons, dMerge, dDisp, dCatL, dExtend, dRg1, dLstRg, dChain, dEq, dAnd, dOr, dNot, dNext, dSeq, dDrop, dRet, dIfS, dNever, dFrzS, hName, hNil, hCons, hTup, hSub, dAsg, dNil, dCons, dTup, dLst, dLstM, dIx, dSet, dCall, dwipe, dYes, jSeq, jRng1, jRng2, dCB, dLen, dList, dListM, dTuple, dII2, dAbs, dInt, dBM0, dBM, dAppend, dPop, dPopAt, dAndV, dNotV, dNeg, dIn, dCat, dNoPart, dPart, dSl, dNewT, dIsi, dLc, dFor, dDc, dLenSetG, dLc2, dFrzE, dLcH, dKdIn, dKdIx, jZipM, if_true, if_false, ite_true, ite_false, Bool.false_eq_true, reduceIte, Bool.not_true, Bool.not_false, List.getElem?_cons_zero, List.getElem?_cons_succ, List.set_cons_zero, List.set_cons_succ, List.map_cons, List.map_nil, List.replicate, List.cons_append, List.nil_append, List.length_cons, List.length_nil, dstart]
    exact ⟨_, rfl, q2⟩
  have e := fold_kvT (allOf n) [] (by simpa using allOf_nodup n)
  rw [List.nil_append] at e
  have e2 : (List.map kvT ([] : List Int)) = ([] : List (Key × D)) := rfl
  rw [e2] at e
  rw [e]
  have ip : i ≠ p := fun e => by (rw [e, B.ob] at hi; cases hi)
  have jf : i ≠ f := fun e => by (rw [e, B.fc] at hi; cases hi)
  have B2 : BookAt C_TB (mset Ma i (.dK ((allOf n).map kvT))) p n ps f := B.keep (S := [i]) (Agree.mset (by simp)) (by simpa using Ne.symm ip) (by simpa using Ne.symm jf)
  simp only [B2.ob]
  have e0 : (0 : Int) ∈ allOf n := allOf_mem.mpr ⟨by omega, by omega⟩
  refine ⟨trivial, .ref f, fb_facts n ps f, .lst (rowsD n ps), by rw [ix_dK B2.fc, dval_cons, if_pos rfl], n, ps, i, allOf n, 0, rfl, ok.pr, .of mset_same, by rw [allOf_len]; omega, fun x hx => allOf_mem.mp hx, e0, fun r ks hr nd mem => ⟨ks.length, by simp only [lenV, mset_same, List.length_map], ?_⟩⟩
  have kl : ks.length = n.toNat := by
    have h1 := nodup_len nd fun x hx => ((mem x).mp hx).mem e0
    have h2 := nodup_len (allOf_nodup n) fun x hx => (mem x).mpr (ok.hang 0 e0 x hx)
    rw [allOf_len] at h1 h2
    omega
  rw [show decide ((ks.length : Int) < n) = false from decide_eq_false (by omega)]
  simp only [if_true, if_false, ite_true, ite_false, Bool.false_eq_true, reduceIte, Bool.not_true, Bool.not_false, List.getElem?_cons_zero, List.getElem?_cons_succ, List.set_cons_zero, List.set_cons_succ, List.map_cons, List.map_nil, List.replicate, List.cons_append, List.nil_append, List.length_cons, List.length_nil, dstart]
  have rp : r ≠ p := fun e => by (rw [e, B2.ob] at hr; cases hr)
  have rf : r ≠ f := fun e => by (rw [e, B2.fc] at hr; cases hr)
  have ex : Ext M2 (mset (mset Ma i (.dK ((allOf n).map kvT))) r (.dK (ks.map kvT))) [p, f] := by
    have x1 := (ag.ext).mset (o := .dK ((allOf n).map kvT)) (ag.ext.fresh (by simp [ip, jf]) hi)
    exact x1.mset (x1.fresh (by simp [rp, rf]) hr)
  obtain ⟨M3, le, ag3, ep⟩ := ex.cutL
  have B3 : BookAt C_TB (mset (mset Ma i (.dK ((allOf n).map kvT))) r (.dK (ks.map kvT))) p n ps f := B2.keep (S := [r]) (Agree.mset (by simp)) (by simpa using Ne.symm rp) (by simpa using Ne.symm rf)
  exact fin_less le (q f M3 hf0 ⟨(ep p (by simp)).trans B3.ob, (ep f (by simp)).trans B3.fc, ok⟩ ag3)
theorem sc_law : FnScope ["_law_script", "_law_dice_here", "_law_turn", "_law_size", "_law_ties", "_law_paper", "_law_thing", "_law_book", "_law_due"] ["_law_script"] (defScope s_law) := ⟨rfl, rfl, rfl, by decide +kernel, rfl, by decide +kernel, by decide +kernel⟩
def sp_law : DSp := spLaw
theorem c_law {f : Addr} {fd : FuncData} {C_TB : Addr} (F : Fun K "law" "law" s_law f fd) (B : Bn mg) (G : Gs mg) (c__law_barred : DCal P w K mg base CX0 3 "_law_barred" sp__law_barred) (c__law_dice : DCal P w K mg base CX0 1 "_law_dice" sp__law_dice) (c__law_draw : DCal P w K mg base CX0 1 "_law_draw" sp__law_draw) (c__law_flag : DCal P w K mg base CX0 1 "_law_flag" sp__law_flag) (c__law_is_bar : DCal P w K mg base CX0 4 "_law_is_bar" sp__law_is_bar) (c__law_spoiled : DCal P w K mg base CX0 5 "_law_spoiled" sp__law_spoiled) (c__law_struck : DCal P w K mg base CX0 2 "_law_struck" sp__law_struck) (c__law_turned : DCal P w K mg base CX0 3 "_law_turned" sp__law_turned) (c_is_bar : DCal P w K mg base CX0 6 "is_bar" (sp_is_bar C_TB)) (MK_Book : DMk P w K mg base CX0 6 "Book" C_TB (sp_Book___init__ C_TB)) : FnOk P w K mg base CX0 8 f fd ["_law_script"] (liftSp K sp_law) := by
  refine dokL F sc_law (fun ds M Q E h => (by obtain ⟨_, h⟩ := h; first | (obtain ⟨e, _⟩ := h; subst e; rfl) | (obtain ⟨_, e, _⟩ := h; subst e; rfl) | (obtain ⟨_, _, e, _⟩ := h; subst e; rfl) | (obtain ⟨_, _, _, e, _⟩ := h; subst e; rfl) | (obtain ⟨_, _, _, _, e, _⟩ := h; subst e; rfl) | (obtain ⟨_, _, _, _, _, e, _⟩ := h; subst e; rfl) | (obtain ⟨_, _, _, _, _, _, e, _⟩ := h; subst e; rfl) | (obtain ⟨_, _, _, _, _, _, _, e, _⟩ := h; subst e; rfl) | (obtain ⟨_, _, _, _, _, _, _, _, e, _⟩ := h; subst e; rfl) | (obtain ⟨_, _, _, _, _, _, _, _, _, e, _⟩ := h; subst e; rfl) | (obtain ⟨_, _, _, _, _, _, _, _, _, _, e, _⟩ := h; subst e; rfl) | (obtain ⟨_, _, _, _, _, _, _, _, _, _, _, e, _⟩ := h; subst e; rfl) | (obtain ⟨_, _, _, _, _, _, _, _, _, _, _, _, e, _⟩ := h; subst e; rfl) | (obtain ⟨_, _, _, _, _, _, _, _, _, _, _, _, _, e, _⟩ := h; subst e; rfl) | (obtain ⟨_, _, _, _, _, _, _, _, _, _, _, _, _, _, e, _⟩ := h; subst e; rfl) | (obtain ⟨_, _, _, _, _, _, _, _, _, _, _, _, _, _, _, e, _⟩ := h; subst e; rfl) | (obtain ⟨_, _, _, _, _, _, _, _, _, _, _, _, _, _, _, _, e, _⟩ := h; subst e; rfl) | (obtain ⟨_, _, _, _, _, _, _, _, _, _, _, _, _, _, _, _, _, e, _⟩ := h; subst e; rfl) | (obtain ⟨_, _, _, _, _, _, _, _, _, _, _, _, _, _, _, _, _, _, e, _⟩ := h; subst e; rfl) | (obtain ⟨_, _, _, _, _, _, _, _, _, _, _, _, _, _, _, _, _, _, _, e, _⟩ := h; subst e; rfl) | (obtain ⟨_, _, _, _, _, _, _, _, _, _, _, _, _, _, _, _, _, _, _, _, e, _⟩ := h; subst e; rfl) | (obtain ⟨_, _, _, _, _, _, _, _, _, _, _, _, _, _, _, _, _, _, _, _, _, e, _⟩ := h; subst e; rfl) | (obtain ⟨_, _, _, _, _, _, _, _, _, _, _, _, _, _, _, _, _, _, _, _, _, _, e, _⟩ := h; subst e; rfl) | (obtain ⟨_, _, _, _, _, _, _, _, _, _, _, _, _, _, _, _, _, _, _, _, _, _, _, e, _⟩ := h; subst e; rfl) | (obtain ⟨_, _, _, _, _, _, _, _, _, _, _, _, _, _, _, _, _, _, _, _, _, _, _, _, e, _⟩ := h; subst e; rfl) | (obtain ⟨_, _, _, _, _, _, _, _, _, _, _, _, _, _, _, _, _, _, _, _, _, _, _, _, _, e, _⟩ := h; subst e; rfl))) (fun cdv A outer s H E F0 hr => ?_)
  have nd := (sc_law).nd
  refine ⟨_, _, (db_cons (ds_set 1 nd (de_call c__law_dice hr (goes0A (E := DXK.no)) (da_cons (de_var 0) da_nil)))
      (db_cons (ds_set 2 nd (de_call c__law_draw hr (goes0A (E := DXK.no)) (da_cons (de_var 1) (da_cons de_int da_nil))))
      (db_cons (ds_asg (de_call c__law_barred hr (goes0A (E := DXK.no)) (da_cons (de_var 1) (da_cons de_int da_nil))) (dg_tup (n := 3) rfl (dgs_cons (dg_name 3 nd) (dgs_cons (dg_name 4 nd) (dgs_cons (dg_name 5 nd) dgs_nil)))))
      (db_cons (ds_set 5 nd (de_call c__law_turned hr (goes0A (E := DXK.no)) (da_cons (de_var 1) (da_cons (de_var 5) da_nil))))
      (db_cons (ds_if (dt_not (dt_val (de_call c__law_flag hr (goes0A (E := DXK.no)) (da_cons (de_call c_is_bar hr (goes0A (E := DXK.no)) (da_cons (de_make MK_Book hr (goes0A (E := DXK.no)) (da_cons (de_var 3) (da_cons (de_var 4) da_nil))) (da_cons (de_var 5) da_nil))) (da_cons de_bl da_nil))))) (db_one (ds_ret de_bl)) db_nil)
      (db_cons (ds_set 6 nd (de_var 5))
      (db_cons (ds_if (dt_eq hr (de_var 2) de_int) (db_one (ds_set 4 nd (de_call c__law_struck hr (goes0A (E := DXK.no)) (da_cons (de_var 1) (da_cons (de_var 4) (da_cons (de_var 5) da_nil)))))) db_nil)
      (db_cons (ds_if (dt_gt (de_var 2) de_int) (db_one (ds_set 6 nd (de_call c__law_spoiled hr (goes0A (E := DXK.no)) (da_cons (de_var 1) (da_cons (de_var 3) (da_cons (de_var 5) da_nil)))))) db_nil)
      (db_cons (ds_set 7 nd (de_make MK_Book hr (goes0A (E := DXK.no)) (da_cons (de_var 3) (da_cons (de_var 4) da_nil))))
      (db_cons (ds_set 8 nd (de_call c__law_is_bar hr (goes0A (E := DXK.no)) (da_cons (de_var 3) (da_cons (de_var 4) (da_cons (de_var 6) da_nil)))))
      (db_one (ds_ret (de_and (de_call c__law_flag hr (goes0A (E := DXK.no)) (da_cons (de_call c_is_bar hr (goes0A (E := DXK.no)) (da_cons (de_var 7) (da_cons (de_var 6) da_nil))) (da_cons (de_var 8) da_nil))) (de_one (de_call c__law_flag hr (goes0A (E := DXK.no)) (da_cons (de_call c_is_bar hr (goes0A (E := DXK.no)) (da_cons (de_var 7) (da_cons (de_var 6) da_nil))) (da_cons (de_var 8) da_nil))))))))))))))))), ?_⟩
  rintro ds M Q E ⟨ss, rfl, hl, hM, q⟩
  refine dSeq_then (fun γ' M' => ∃ p : Addr, γ' = [some (.ls (ss.map .int)), some (.ref p), none, none, none, none, none, none, none] ∧ DiL M' p) (fun nx hn => ?_) (fun γ1 M1 h1 => ?_)
  · simp only [dInsert, dVar, dC, dOp, dTest, dII, dIC, dFld, dFldS, dMake, dppNil, dppCons, dMerge, dDisp, dCatL, dExtend, dRg1, dLstRg, dChain, dEq, dAnd, dOr, dNot, dNext, dSeq, dDrop, dRet, dIfS, dNever, dFrzS, hName, hNil, hCons, hTup, hSub, dAsg, dNil, dCons, dTup, dLst, dLstM, dIx, dSet, dCall, dwipe, dYes, jSeq, jRng1, jRng2, dCB, dLen, dList, dListM, dTuple, dII2, dAbs, dInt, dBM0, dBM, dAppend, dPop, dPopAt, dAndV, dNotV, dNeg, dIn, dCat, dNoPart, dPart, dSl, dNewT, dIsi, dLc, dFor, dDc, dLenSetG, dLc2, dFrzE, dLcH, dKdIn, dKdIx, jZipM, if_true, if_false, ite_true, ite_false, Bool.false_eq_true, reduceIte, Bool.not_true, Bool.not_false, List.getElem?_cons_zero, List.getElem?_cons_succ, List.set_cons_zero, List.set_cons_succ, List.map_cons, List.map_nil, List.replicate, List.cons_append, List.nil_append, List.length_cons, List.length_nil, dstart]
    exact ⟨ss, rfl, hl, fun p M2 _ hd _ => hn _ _ ⟨p, rfl, hd⟩⟩
  obtain ⟨p, rfl, hp⟩ := h1
  refine dSeq_then (fun γ' M' => ∃ tu : Int, γ' = [some (.ls (ss.map .int)), some (.ref p), some (.int tu), none, none, none, none, none, none] ∧ DiL M' p) (fun nx hn => ?_) (fun γ2 M2 h => ?_)
  · simp only [dInsert, dVar, dC, dOp, dTest, dII, dIC, dFld, dFldS, dMake, dppNil, dppCons, dMerge, dDisp, dCatL, dExtend, dRg1, dLstRg, dChain, dEq, dAnd, dOr, dNot, dNext, dSeq, dDrop, dRet, dIfS, dNever, dFrzS, hName, hNil, hCons, hTup, hSub, dAsg, dNil, dCons, dTup, dLst, dLstM, dIx, dSet, dCall, dwipe, dYes, jSeq, jRng1, jRng2, dCB, dLen, dList, dListM, dTuple, dII2, dAbs, dInt, dBM0, dBM, dAppend, dPop, dPopAt, dAndV, dNotV, dNeg, dIn, dCat, dNoPart, dPart, dSl, dNewT, dIsi, dLc, dFor, dDc, dLenSetG, dLc2, dFrzE, dLcH, dKdIn, dKdIx, jZipM, if_true, if_false, ite_true, ite_false, Bool.false_eq_true, reduceIte, Bool.not_true, Bool.not_false, List.getElem?_cons_zero, List.getElem?_cons_succ, List.set_cons_zero, List.set_cons_succ, List.map_cons, List.map_nil, List.replicate, List.cons_append, List.nil_append, List.length_cons, List.length_nil, dstart]
    exact ⟨p, 4, rfl, hp, by decide, by decide, fun tu M2 _ _ d2 _ => hn _ _ ⟨tu, rfl, d2⟩⟩
  clear hp
  obtain ⟨tu, rfl, hp⟩ := h
  refine dSeq_then (fun γ' M' => ∃ (n : Int) (ps : List (Int × Int)) (f : Bool) (cs : List Int) (ws : List (List Int)), γ' = [some (.ls (ss.map .int)), some (.ref p), some (.int tu), some (.int n), some (.tup (ps.map prD)), some (barD f cs ws), none, none, none] ∧ BookOk n ps ∧ BarP n ps f cs ws ∧ StrOk n ps ws ∧ DiL M' p) (fun nx hn => ?_) (fun γ3 M3 h => ?_)
  · simp only [dInsert, dVar, dC, dOp, dTest, dII, dIC, dFld, dFldS, dMake, dppNil, dppCons, dMerge, dDisp, dCatL, dExtend, dRg1, dLstRg, dChain, dEq, dAnd, dOr, dNot, dNext, dSeq, dDrop, dRet, dIfS, dNever, dFrzS, hName, hNil, hCons, hTup, hSub, dAsg, dNil, dCons, dTup, dLst, dLstM, dIx, dSet, dCall, dwipe, dYes, jSeq, jRng1, jRng2, dCB, dLen, dList, dListM, dTuple, dII2, dAbs, dInt, dBM0, dBM, dAppend, dPop, dPopAt, dAndV, dNotV, dNeg, dIn, dCat, dNoPart, dPart, dSl, dNewT, dIsi, dLc, dFor, dDc, dLenSetG, dLc2, dFrzE, dLcH, dKdIn, dKdIx, jZipM, if_true, if_false, ite_true, ite_false, Bool.false_eq_true, reduceIte, Bool.not_true, Bool.not_false, List.getElem?_cons_zero, List.getElem?_cons_succ, List.set_cons_zero, List.set_cons_succ, List.map_cons, List.map_nil, List.replicate, List.cons_append, List.nil_append, List.length_cons, List.length_nil, dstart]
    exact ⟨p, rfl, hp, fun n ps f cs ws M3 bo n8 B S d3 E3 => ⟨rfl, hn _ _ ⟨n, ps, f, cs, ws, rfl, bo, B, S, d3⟩⟩⟩
  clear hp
  obtain ⟨n, ps, f, cs, ws, rfl, bo, B, S, hp⟩ := h
  refine dSeq_then (fun γ' M' => ∃ (cs : List Int) (ws : List (List Int)), γ' = [some (.ls (ss.map .int)), some (.ref p), some (.int tu), some (.int n), some (.tup (ps.map prD)), some (barD f cs ws), none, none, none] ∧ BarP n ps f cs ws ∧ StrOk n ps ws ∧ DiL M' p) (fun nx hn => ?_) (fun γ4 M4 h => ?_)
  · simp only [dInsert, dVar, dC, dOp, dTest, dII, dIC, dFld, dFldS, dMake, dppNil, dppCons, dMerge, dDisp, dCatL, dExtend, dRg1, dLstRg, dChain, dEq, dAnd, dOr, dNot, dNext, dSeq, dDrop, dRet, dIfS, dNever, dFrzS, hName, hNil, hCons, hTup, hSub, dAsg, dNil, dCons, dTup, dLst, dLstM, dIx, dSet, dCall, dwipe, dYes, jSeq, jRng1, jRng2, dCB, dLen, dList, dListM, dTuple, dII2, dAbs, dInt, dBM0, dBM, dAppend, dPop, dPopAt, dAndV, dNotV, dNeg, dIn, dCat, dNoPart, dPart, dSl, dNewT, dIsi, dLc, dFor, dDc, dLenSetG, dLc2, dFrzE, dLcH, dKdIn, dKdIx, jZipM, if_true, if_false, ite_true, ite_false, Bool.false_eq_true, reduceIte, Bool.not_true, Bool.not_false, List.getElem?_cons_zero, List.getElem?_cons_succ, List.set_cons_zero, List.set_cons_succ, List.map_cons, List.map_nil, List.replicate, List.cons_append, List.nil_append, List.length_cons, List.length_nil, dstart]
    exact ⟨p, n, ps, f, cs, ws, rfl, hp, bo.hi, B, fun cs2 ws2 M4 B4 S4 d4 E4 => hn _ _ ⟨cs2, ws2, rfl, B4, S4 S, d4⟩⟩
  clear hp B S
  obtain ⟨cs, ws, rfl, B, S, hp⟩ := h
  have T := bar_th bo.hi B
  obtain ⟨z1, z2, z3, z4, z5⟩ := bar_sizes bo.hi B
  have psl := few_prs bo.hi (prs_ndW bo.pr) bo.pr.ok
  refine dSeq_then (fun γ' M' => γ' = [some (.ls (ss.map .int)), some (.ref p), some (.int tu), some (.int n), some (.tup (ps.map prD)), some (barD f cs ws), none, none, none] ∧ DiL M' p) (fun nx hn => ?_) (fun γ5 M5 h => ?_)
  · simp only [dInsert, dVar, dC, dOp, dTest, dII, dIC, dFld, dFldS, dMake, dppNil, dppCons, dMerge, dDisp, dCatL, dExtend, dRg1, dLstRg, dChain, dEq, dAnd, dOr, dNot, dNext, dSeq, dDrop, dRet, dIfS, dNever, dFrzS, hName, hNil, hCons, hTup, hSub, dAsg, dNil, dCons, dTup, dLst, dLstM, dIx, dSet, dCall, dwipe, dYes, jSeq, jRng1, jRng2, dCB, dLen, dList, dListM, dTuple, dII2, dAbs, dInt, dBM0, dBM, dAppend, dPop, dPopAt, dAndV, dNotV, dNeg, dIn, dCat, dNoPart, dPart, dSl, dNewT, dIsi, dLc, dFor, dDc, dLenSetG, dLc2, dFrzE, dLcH, dKdIn, dKdIx, jZipM, if_true, if_false, ite_true, ite_false, Bool.false_eq_true, reduceIte, Bool.not_true, Bool.not_false, List.getElem?_cons_zero, List.getElem?_cons_succ, List.set_cons_zero, List.set_cons_succ, List.map_cons, List.map_nil, List.replicate, List.cons_append, List.nil_append, List.length_cons, List.length_nil, dstart]
    refine fun b hb => ⟨b, n, ps, rfl, mset_same, bo, fun d M2 hd BA ag => ⟨rfl, ?_⟩⟩
    have pb := hp.some hb
    have hp2 := hp.mset (o := .ins C_TB []) pb
    have pd := hp2.some hd
    have hp3 := hp2.keep ag (by simp; exact ⟨pb.symm, pd.symm⟩)
    exact ⟨b, n, ps, d, _, rfl, BA, T, fun _ => ⟨true, true, rfl, hn _ _ ⟨rfl, hp3⟩⟩, fun z => absurd ⟨f, cs, ws, rfl, B⟩ z⟩
  clear hp
  obtain ⟨rfl, hp⟩ := h
  refine dSeq_then (fun γ' M' => γ' = [some (.ls (ss.map .int)), some (.ref p), some (.int tu), some (.int n), some (.tup (ps.map prD)), some (barD f cs ws), some (barD f cs ws), none, none] ∧ M' = M5) (fun nx hn => ?_) (fun γ6 M6 h => ?_)
  · simp only [dInsert, dVar, dC, dOp, dTest, dII, dIC, dFld, dFldS, dMake, dppNil, dppCons, dMerge, dDisp, dCatL, dExtend, dRg1, dLstRg, dChain, dEq, dAnd, dOr, dNot, dNext, dSeq, dDrop, dRet, dIfS, dNever, dFrzS, hName, hNil, hCons, hTup, hSub, dAsg, dNil, dCons, dTup, dLst, dLstM, dIx, dSet, dCall, dwipe, dYes, jSeq, jRng1, jRng2, dCB, dLen, dList, dListM, dTuple, dII2, dAbs, dInt, dBM0, dBM, dAppend, dPop, dPopAt, dAndV, dNotV, dNeg, dIn, dCat, dNoPart, dPart, dSl, dNewT, dIsi, dLc, dFor, dDc, dLenSetG, dLc2, dFrzE, dLcH, dKdIn, dKdIx, jZipM, if_true, if_false, ite_true, ite_false, Bool.false_eq_true, reduceIte, Bool.not_true, Bool.not_false, List.getElem?_cons_zero, List.getElem?_cons_succ, List.set_cons_zero, List.set_cons_succ, List.map_cons, List.map_nil, List.replicate, List.cons_append, List.nil_append, List.length_cons, List.length_nil, dstart]
    exact hn _ _ ⟨rfl, rfl⟩
  obtain ⟨rfl, rfl⟩ := h
  refine dSeq_then (fun γ' M' => ∃ (ps : List (Int × Int)), γ' = [some (.ls (ss.map .int)), some (.ref p), some (.int tu), some (.int n), some (.tup (ps.map prD)), some (barD f cs ws), some (barD f cs ws), none, none] ∧ BookOk n ps ∧ DiL M' p) (fun nx hn => ?_) (fun γ7 M7 h => ?_)
  · simp only [dInsert, dVar, dC, dOp, dTest, dII, dIC, dFld, dFldS, dMake, dppNil, dppCons, dMerge, dDisp, dCatL, dExtend, dRg1, dLstRg, dChain, dEq, dAnd, dOr, dNot, dNext, dSeq, dDrop, dRet, dIfS, dNever, dFrzS, hName, hNil, hCons, hTup, hSub, dAsg, dNil, dCons, dTup, dLst, dLstM, dIx, dSet, dCall, dwipe, dYes, jSeq, jRng1, jRng2, dCB, dLen, dList, dListM, dTuple, dII2, dAbs, dInt, dBM0, dBM, dAppend, dPop, dPopAt, dAndV, dNotV, dNeg, dIn, dCat, dNoPart, dPart, dSl, dNewT, dIsi, dLc, dFor, dDc, dLenSetG, dLc2, dFrzE, dLcH, dKdIn, dKdIx, jZipM, if_true, if_false, ite_true, ite_false, Bool.false_eq_true, reduceIte, Bool.not_true, Bool.not_false, List.getElem?_cons_zero, List.getElem?_cons_succ, List.set_cons_zero, List.set_cons_succ, List.map_cons, List.map_nil, List.replicate, List.cons_append, List.nil_append, List.length_cons, List.length_nil, dstart]
    refine ⟨rfl, rfl, ?_⟩
    by_cases h1 : tu = 1
    · rw [if_pos (eqI_t h1)]
      exact ⟨p, n, ps, f, cs, ws, rfl, hp, bo.pr, by omega, by omega, by omega, z5, fun us j a b M7 hu ha hb d7 E7 => hn _ _ ⟨_, rfl, S us hu j a b ha hb, d7⟩⟩
    · rw [if_neg (by rw [eqI_f h1]; decide)]
      exact hn _ _ ⟨ps, rfl, bo, hp⟩
  clear hp S B
  obtain ⟨ps, rfl, bo, hp⟩ := h
  have psl := few_prs bo.hi (prs_ndW bo.pr) bo.pr.ok
  refine dSeq_then (fun γ' M' => ∃ x : D, γ' = [some (.ls (ss.map .int)), some (.ref p), some (.int tu), some (.int n), some (.tup (ps.map prD)), some (barD f cs ws), some x, none, none] ∧ ThW x ∧ DiL M' p) (fun nx hn => ?_) (fun γ8 M8 h => ?_)
  · simp only [dInsert, dVar, dC, dOp, dTest, dII, dIC, dFld, dFldS, dMake, dppNil, dppCons, dMerge, dDisp, dCatL, dExtend, dRg1, dLstRg, dChain, dEq, dAnd, dOr, dNot, dNext, dSeq, dDrop, dRet, dIfS, dNever, dFrzS, hName, hNil, hCons, hTup, hSub, dAsg, dNil, dCons, dTup, dLst, dLstM, dIx, dSet, dCall, dwipe, dYes, jSeq, jRng1, jRng2, dCB, dLen, dList, dListM, dTuple, dII2, dAbs, dInt, dBM0, dBM, dAppend, dPop, dPopAt, dAndV, dNotV, dNeg, dIn, dCat, dNoPart, dPart, dSl, dNewT, dIsi, dLc, dFor, dDc, dLenSetG, dLc2, dFrzE, dLcH, dKdIn, dKdIx, jZipM, if_true, if_false, ite_true, ite_false, Bool.false_eq_true, reduceIte, Bool.not_true, Bool.not_false, List.getElem?_cons_zero, List.getElem?_cons_succ, List.set_cons_zero, List.set_cons_succ, List.map_cons, List.map_nil, List.replicate, List.cons_append, List.nil_append, List.length_cons, List.length_nil, dstart]
    by_cases h1 : 1 < tu
    · rw [if_pos (decide_eq_true h1)]
      exact ⟨p, n, f, cs, ws, rfl, bo.lo, bo.hi, by omega, by omega, by omega, by omega, z5, hp, fun y M8 hy d8 E8 => hn _ _ ⟨y, rfl, hy, d8⟩⟩
    · rw [if_neg (by simpa using h1)]
      exact hn _ _ ⟨_, rfl, T, hp⟩
  clear hp T
  obtain ⟨x, rfl, T, hp⟩ := h
  refine dSeq_then (fun γ' M' => ∃ b d, γ' = [some (.ls (ss.map .int)), some (.ref p), some (.int tu), some (.int n), some (.tup (ps.map prD)), some (barD f cs ws), some x, some (.ref b), none] ∧ BookAt C_TB M' b n ps d) (fun nx hn => ?_) (fun γ9 M9 h => ?_)
  · simp only [dInsert, dVar, dC, dOp, dTest, dII, dIC, dFld, dFldS, dMake, dppNil, dppCons, dMerge, dDisp, dCatL, dExtend, dRg1, dLstRg, dChain, dEq, dAnd, dOr, dNot, dNext, dSeq, dDrop, dRet, dIfS, dNever, dFrzS, hName, hNil, hCons, hTup, hSub, dAsg, dNil, dCons, dTup, dLst, dLstM, dIx, dSet, dCall, dwipe, dYes, jSeq, jRng1, jRng2, dCB, dLen, dList, dListM, dTuple, dII2, dAbs, dInt, dBM0, dBM, dAppend, dPop, dPopAt, dAndV, dNotV, dNeg, dIn, dCat, dNoPart, dPart, dSl, dNewT, dIsi, dLc, dFor, dDc, dLenSetG, dLc2, dFrzE, dLcH, dKdIn, dKdIx, jZipM, if_true, if_false, ite_true, ite_false, Bool.false_eq_true, reduceIte, Bool.not_true, Bool.not_false, List.getElem?_cons_zero, List.getElem?_cons_succ, List.set_cons_zero, List.set_cons_succ, List.map_cons, List.map_nil, List.replicate, List.cons_append, List.nil_append, List.length_cons, List.length_nil, dstart]
    exact fun b hb => ⟨b, n, ps, rfl, mset_same, bo, fun d M2 hd BA ag => ⟨rfl, hn _ _ ⟨b, d, rfl, BA⟩⟩⟩
  obtain ⟨b, d, rfl, BA⟩ := h
  simp only [dInsert, dVar, dC, dOp, dTest, dII, dIC, dFld, dFldS, dMake, dppNil, dppCons, dMerge, dDisp, dCatL, dExtend, dRg1, dLstRg, dChain, dEq, dAnd, dOr, dNot, dNext, dSeq, dDrop, dRet, dIfS, dNever, dFrzS, hName, hNil, hCons, hTup, hSub, dAsg, dNil, dCons, dTup, dLst, dLstM, dIx, dSet, dCall, dwipe, dYes, jSeq, jRng1, jRng2, dCB, dLen, dList, dListM, dTuple, dII2, dAbs, dInt, dBM0, dBM, dAppend, dPop, dPopAt, dAndV, dNotV, dNeg, dIn, dCat, dNoPart, dPart, dSl, dNewT, dIsi, dLc, dFor, dDc, dLenSetG, dLc2, dFrzE, dLcH, dKdIn, dKdIx, jZipM, if_true, if_false, ite_true, ite_false, Bool.false_eq_true, reduceIte, Bool.not_true, Bool.not_false, List.getElem?_cons_zero, List.getElem?_cons_succ, List.set_cons_zero, List.set_cons_succ, List.map_cons, List.map_nil, List.replicate, List.cons_append, List.nil_append, List.length_cons, List.length_nil, dstart]
  have fl : ∀ a : Bool, (a == a) = true := fun a => by cases a <;> rfl
  have key : ∀ v : Bool, (BarA n ps x → v = true) → (¬ BarA n ps x → v = false) → sp_is_bar C_TB [.ref b, x] M9 (fun x_2 M1 => sp__law_flag [x_2, .bl v] M1 (fun x_3 M1 => match x_3 with
              | D.bl c =>
                if c = true then
                  sp_is_bar C_TB [D.ref b, x] M1 (fun x M1 => sp__law_flag [x, .bl v] M1 (fin Q) DXK.no) DXK.no
                else fin Q (D.bl false) M1
              | x => False) DXK.no) DXK.no := fun v hv1 hv2 => by
    have two : ∀ w : Bool, w = v → sp__law_flag [.bl w, .bl v] M9 (fun x_3 M1 => match x_3 with
              | D.bl c =>
                if c = true then
                  sp_is_bar C_TB [D.ref b, x] M1 (fun x M1 => sp__law_flag [x, .bl v] M1 (fin Q) DXK.no) DXK.no
                else fin Q (D.bl false) M1
              | x => False) DXK.no := fun w e => by
      subst e
      refine ⟨w, w, rfl, ?_⟩
      dsimp only
      rw [fl w, if_pos rfl]
      refine ⟨b, n, ps, d, x, rfl, BA, T, fun z => ⟨_, _, rfl, ?_⟩, fun z => ⟨_, _, rfl, ?_⟩⟩
      · rw [hv1 z]; exact fin_self (q _)
      · rw [hv2 z]; exact fin_self (q _)
    exact ⟨b, n, ps, d, x, rfl, BA, T, fun z => two true (hv1 z).symm, fun z => two false (hv2 z).symm⟩
  refine ⟨n, ps, x, rfl, bo.pr, by omega, T, fun z => key true (fun _ => rfl) (fun z2 => absurd z z2), fun z => key false (fun z2 => absurd z2 z) (fun _ => rfl)⟩
end
theorem all_mk {l : PySem.W.OpenLaw} {w : World} {K : PySem.W.Frag} {h : Heap} {mg : Str → Option Value} {fa : Addr} (X : K.In h) (G : h.Ns mainGlobals mg) (hfa : mg "law" = some (.ref fa))
    {C_TB : Addr} {f1 : Addr} {od1 an1 : Option Addr} {sl1 : Array (Option Value)} {oc1 kV1 dc1 pm1 cd1 ct1 : Value} {f2 : Addr} {od2 an2 : Option Addr} {sl2 : Array (Option Value)} {oc2 kV2 dc2 pm2 cd2 ct2 : Value} {f3 : Addr} {od3 an3 : Option Addr} {sl3 : Array (Option Value)} {oc3 kV3 dc3 pm3 cd3 ct3 : Value} {f4 : Addr} {od4 an4 : Option Addr} {sl4 : Array (Option Value)} {oc4 kV4 dc4 pm4 cd4 ct4 : Value} {f5 : Addr} {od5 an5 : Option Addr} {sl5 : Array (Option Value)} {oc5 kV5 dc5 pm5 cd5 ct5 : Value} {f6 : Addr} {od6 an6 : Option Addr} {sl6 : Array (Option Value)} {oc6 kV6 dc6 pm6 cd6 ct6 : Value} {f7 : Addr} {od7 an7 : Option Addr} {sl7 : Array (Option Value)} {oc7 kV7 dc7 pm7 cd7 ct7 : Value} {f8 : Addr} {od8 an8 : Option Addr} {sl8 : Array (Option Value)} {oc8 kV8 dc8 pm8 cd8 ct8 : Value} {f9 : Addr} {od9 an9 : Option Addr} {sl9 : Array (Option Value)} {oc9 kV9 dc9 pm9 cd9 ct9 : Value} {f10 : Addr} {od10 an10 : Option Addr} {sl10 : Array (Option Value)} {oc10 kV10 dc10 pm10 cd10 ct10 : Value} {f11 : Addr} {od11 an11 : Option Addr} {sl11 : Array (Option Value)} {oc11 kV11 dc11 pm11 cd11 ct11 : Value} {f12 : Addr} {od12 an12 : Option Addr} {sl12 : Array (Option Value)} {oc12 kV12 dc12 pm12 cd12 ct12 : Value} {f13 : Addr} {od13 an13 : Option Addr} {sl13 : Array (Option Value)} {oc13 kV13 dc13 pm13 cd13 ct13 : Value} {f14 : Addr} {od14 an14 : Option Addr} {sl14 : Array (Option Value)} {oc14 kV14 dc14 pm14 cd14 ct14 : Value} {f15 : Addr} {od15 an15 : Option Addr} {sl15 : Array (Option Value)} {oc15 kV15 dc15 pm15 cd15 ct15 : Value} {f16 : Addr} {od16 an16 : Option Addr} {sl16 : Array (Option Value)} {oc16 kV16 dc16 pm16 cd16 ct16 : Value} {f17 : Addr} {od17 an17 : Option Addr} {sl17 : Array (Option Value)} {oc17 kV17 dc17 pm17 cd17 ct17 : Value} {f18 : Addr} {od18 an18 : Option Addr} {sl18 : Array (Option Value)} {oc18 kV18 dc18 pm18 cd18 ct18 : Value} {f19 : Addr} {od19 an19 : Option Addr} {sl19 : Array (Option Value)} {oc19 kV19 dc19 pm19 cd19 ct19 : Value} {f20 : Addr} {od20 an20 : Option Addr} {sl20 : Array (Option Value)} {oc20 kV20 dc20 pm20 cd20 ct20 : Value} {f21 : Addr} {od21 an21 : Option Addr} {sl21 : Array (Option Value)} {oc21 kV21 dc21 pm21 cd21 ct21 : Value} {f22 : Addr} {od22 an22 : Option Addr} {sl22 : Array (Option Value)} {oc22 kV22 dc22 pm22 cd22 ct22 : Value} {f23 : Addr} {od23 an23 : Option Addr} {sl23 : Array (Option Value)} {oc23 kV23 dc23 pm23 cd23 ct23 : Value} {f24 : Addr} {od24 an24 : Option Addr} {sl24 : Array (Option Value)} {oc24 kV24 dc24 pm24 cd24 ct24 : Value} {f25 : Addr} {od25 an25 : Option Addr} {sl25 : Array (Option Value)} {oc25 kV25 dc25 pm25 cd25 ct25 : Value} {f26 : Addr} {od26 an26 : Option Addr} {sl26 : Array (Option Value)} {oc26 kV26 dc26 pm26 cd26 ct26 : Value} {f27 : Addr} {od27 an27 : Option Addr} {sl27 : Array (Option Value)} {oc27 kV27 dc27 pm27 cd27 ct27 : Value} {f28 : Addr} {od28 an28 : Option Addr} {sl28 : Array (Option Value)} {oc28 kV28 dc28 pm28 cd28 ct28 : Value} {f29 : Addr} {od29 an29 : Option Addr} {sl29 : Array (Option Value)} {oc29 kV29 dc29 pm29 cd29 ct29 : Value} {f30 : Addr} {od30 an30 : Option Addr} {sl30 : Array (Option Value)} {oc30 kV30 dc30 pm30 cd30 ct30 : Value} {f31 : Addr} {od31 an31 : Option Addr} {sl31 : Array (Option Value)} {oc31 kV31 dc31 pm31 cd31 ct31 : Value} {f32 : Addr} {od32 an32 : Option Addr} {sl32 : Array (Option Value)} {oc32 kV32 dc32 pm32 cd32 ct32 : Value} {f33 : Addr} {od33 an33 : Option Addr} {sl33 : Array (Option Value)} {oc33 kV33 dc33 pm33 cd33 ct33 : Value} {f34 : Addr} {od34 an34 : Option Addr} {sl34 : Array (Option Value)} {oc34 kV34 dc34 pm34 cd34 ct34 : Value} {tk_MOST_CONTENTS : Tok} {tk_MOST_TIES : Tok} {dA_CORNERS : Addr} {hD_CORNERS0 hD_CORNERS1 : Int} {kD_CORNERS0 kD_CORNERS1 : Tok} {uD_CORNERS0 uD_CORNERS1 : Value} {nD_CORNERS : Nat} {vk_CORNERS0 : Tok} {vk_CORNERS1 : Tok}
    (aC_TB : PySem.W.nsIn K mainGlobals "Book" = some (some (.ref C_TB)))
    (pg_TB : PySem.W.plainGet K C_TB Str.empty = true)
    (hd_TB : PySem.W.hasDictIn K C_TB = true)
    (po_TB : PySem.W.plainOver K C_TB = true)
    (sa_TB : PySem.W.findIn K (.ref C_TB) "__setattr__" = some (some (.builtin "object.__setattr__")))
    (n_TB_kept_size : PySem.W.findIn K (.ref C_TB) "kept_size" = some none)
    (n_TB_kept_ties : PySem.W.findIn K (.ref C_TB) "kept_ties" = some none)
    (n_TB_kept_facts : PySem.W.findIn K (.ref C_TB) "kept_facts" = some none)
    (a1 : PySem.W.findIn K (.ref C_TB) "__init__" = some (some (.ref f1)))
    (i1 : PySem.W.isFn K (.ref f1) = true)
    (l1 : K.lookup f1 = some ⟨oc1, od1, .func (PySem.W.fnOf "__init__" "Book.__init__" (defArgs s_Book___init__) (defBody s_Book___init__) (defScope s_Book___init__) .none kV1 dc1 pm1 an1 cd1 ct1), sl1⟩)
    (c1 : PySem.W.codeIn K cd1 "Book.__init__" = true)
    (k1 : PySem.W.keepIn K (.ref f1) = true)
    (mk1 : PySem.W.makesIn K C_TB = true)
    (kc1 : PySem.W.keepIn K (.ref C_TB) = true)
    (a2 : PySem.W.nsIn K mainGlobals "_law_draw" = some (some (.ref f2)))
    (l2 : K.lookup f2 = some ⟨oc2, od2, .func (PySem.W.fnOf "_law_draw" "_law_draw" (defArgs s__law_draw) (defBody s__law_draw) (defScope s__law_draw) .none kV2 dc2 pm2 an2 cd2 ct2), sl2⟩)
    (c2 : PySem.W.codeIn K cd2 "_law_draw" = true)
    (k2 : PySem.W.keepIn K (.ref f2) = true)
    (a3 : PySem.W.nsIn K mainGlobals "_law_named" = some (some (.ref f3)))
    (l3 : K.lookup f3 = some ⟨oc3, od3, .func (PySem.W.fnOf "_law_named" "_law_named" (defArgs s__law_named) (defBody s__law_named) (defScope s__law_named) .none kV3 dc3 pm3 an3 cd3 ct3), sl3⟩)
    (c3 : PySem.W.codeIn K cd3 "_law_named" = true)
    (k3 : PySem.W.keepIn K (.ref f3) = true)
    (a4 : PySem.W.nsIn K mainGlobals "_law_pair" = some (some (.ref f4)))
    (l4 : K.lookup f4 = some ⟨oc4, od4, .func (PySem.W.fnOf "_law_pair" "_law_pair" (defArgs s__law_pair) (defBody s__law_pair) (defScope s__law_pair) .none kV4 dc4 pm4 an4 cd4 ct4), sl4⟩)
    (c4 : PySem.W.codeIn K cd4 "_law_pair" = true)
    (k4 : PySem.W.keepIn K (.ref f4) = true)
    (a5 : PySem.W.nsIn K mainGlobals "_law_pairs" = some (some (.ref f5)))
    (l5 : K.lookup f5 = some ⟨oc5, od5, .func (PySem.W.fnOf "_law_pairs" "_law_pairs" (defArgs s__law_pairs) (defBody s__law_pairs) (defScope s__law_pairs) .none kV5 dc5 pm5 an5 cd5 ct5), sl5⟩)
    (c5 : PySem.W.codeIn K cd5 "_law_pairs" = true)
    (k5 : PySem.W.keepIn K (.ref f5) = true)
    (a6 : PySem.W.nsIn K mainGlobals "_law_shuffled" = some (some (.ref f6)))
    (l6 : K.lookup f6 = some ⟨oc6, od6, .func (PySem.W.fnOf "_law_shuffled" "_law_shuffled" (defArgs s__law_shuffled) (defBody s__law_shuffled) (defScope s__law_shuffled) .none kV6 dc6 pm6 an6 cd6 ct6), sl6⟩)
    (c6 : PySem.W.codeIn K cd6 "_law_shuffled" = true)
    (k6 : PySem.W.keepIn K (.ref f6) = true)
    (a7 : PySem.W.nsIn K mainGlobals "_law_barred" = some (some (.ref f7)))
    (l7 : K.lookup f7 = some ⟨oc7, od7, .func (PySem.W.fnOf "_law_barred" "_law_barred" (defArgs s__law_barred) (defBody s__law_barred) (defScope s__law_barred) .none kV7 dc7 pm7 an7 cd7 ct7), sl7⟩)
    (c7 : PySem.W.codeIn K cd7 "_law_barred" = true)
    (k7 : PySem.W.keepIn K (.ref f7) = true)
    (a8 : PySem.W.nsIn K mainGlobals "_law_dice" = some (some (.ref f8)))
    (l8 : K.lookup f8 = some ⟨oc8, od8, .func (PySem.W.fnOf "_law_dice" "_law_dice" (defArgs s__law_dice) (defBody s__law_dice) (defScope s__law_dice) .none kV8 dc8 pm8 an8 cd8 ct8), sl8⟩)
    (c8 : PySem.W.codeIn K cd8 "_law_dice" = true)
    (k8 : PySem.W.keepIn K (.ref f8) = true)
    (a9 : PySem.W.nsIn K mainGlobals "_law_flag" = some (some (.ref f9)))
    (l9 : K.lookup f9 = some ⟨oc9, od9, .func (PySem.W.fnOf "_law_flag" "_law_flag" (defArgs s__law_flag) (defBody s__law_flag) (defScope s__law_flag) .none kV9 dc9 pm9 an9 cd9 ct9), sl9⟩)
    (c9 : PySem.W.codeIn K cd9 "_law_flag" = true)
    (k9 : PySem.W.keepIn K (.ref f9) = true)
    (a10 : PySem.W.nsIn K mainGlobals "_law_is_content" = some (some (.ref f10)))
    (l10 : K.lookup f10 = some ⟨oc10, od10, .func (PySem.W.fnOf "_law_is_content" "_law_is_content" (defArgs s__law_is_content) (defBody s__law_is_content) (defScope s__law_is_content) .none kV10 dc10 pm10 an10 cd10 ct10), sl10⟩)
    (c10 : PySem.W.codeIn K cd10 "_law_is_content" = true)
    (k10 : PySem.W.keepIn K (.ref f10) = true)
    (a11 : PySem.W.nsIn K mainGlobals "_law_unlike" = some (some (.ref f11)))
    (l11 : K.lookup f11 = some ⟨oc11, od11, .func (PySem.W.fnOf "_law_unlike" "_law_unlike" (defArgs s__law_unlike) (defBody s__law_unlike) (defScope s__law_unlike) .none kV11 dc11 pm11 an11 cd11 ct11), sl11⟩)
    (c11 : PySem.W.codeIn K cd11 "_law_unlike" = true)
    (k11 : PySem.W.keepIn K (.ref f11) = true)
    (a12 : PySem.W.nsIn K mainGlobals "_law_is_way" = some (some (.ref f12)))
    (l12 : K.lookup f12 = some ⟨oc12, od12, .func (PySem.W.fnOf "_law_is_way" "_law_is_way" (defArgs s__law_is_way) (defBody s__law_is_way) (defScope s__law_is_way) .none kV12 dc12 pm12 an12 cd12 ct12), sl12⟩)
    (c12 : PySem.W.codeIn K cd12 "_law_is_way" = true)
    (k12 : PySem.W.keepIn K (.ref f12) = true)
    (a13 : PySem.W.nsIn K mainGlobals "_law_is_bar" = some (some (.ref f13)))
    (l13 : K.lookup f13 = some ⟨oc13, od13, .func (PySem.W.fnOf "_law_is_bar" "_law_is_bar" (defArgs s__law_is_bar) (defBody s__law_is_bar) (defScope s__law_is_bar) .none kV13 dc13 pm13 an13 cd13 ct13), sl13⟩)
    (c13 : PySem.W.codeIn K cd13 "_law_is_bar" = true)
    (k13 : PySem.W.keepIn K (.ref f13) = true)
    (a14 : PySem.W.nsIn K mainGlobals "_law_odd" = some (some (.ref f14)))
    (l14 : K.lookup f14 = some ⟨oc14, od14, .func (PySem.W.fnOf "_law_odd" "_law_odd" (defArgs s__law_odd) (defBody s__law_odd) (defScope s__law_odd) .none kV14 dc14 pm14 an14 cd14 ct14), sl14⟩)
    (c14 : PySem.W.codeIn K cd14 "_law_odd" = true)
    (k14 : PySem.W.keepIn K (.ref f14) = true)
    (a15 : PySem.W.nsIn K mainGlobals "_law_set" = some (some (.ref f15)))
    (l15 : K.lookup f15 = some ⟨oc15, od15, .func (PySem.W.fnOf "_law_set" "_law_set" (defArgs s__law_set) (defBody s__law_set) (defScope s__law_set) .none kV15 dc15 pm15 an15 cd15 ct15), sl15⟩)
    (c15 : PySem.W.codeIn K cd15 "_law_set" = true)
    (k15 : PySem.W.keepIn K (.ref f15) = true)
    (a16 : PySem.W.nsIn K mainGlobals "_law_corners_changed" = some (some (.ref f16)))
    (l16 : K.lookup f16 = some ⟨oc16, od16, .func (PySem.W.fnOf "_law_corners_changed" "_law_corners_changed" (defArgs s__law_corners_changed) (defBody s__law_corners_changed) (defScope s__law_corners_changed) .none kV16 dc16 pm16 an16 cd16 ct16), sl16⟩)
    (c16 : PySem.W.codeIn K cd16 "_law_corners_changed" = true)
    (k16 : PySem.W.keepIn K (.ref f16) = true)
    (a17 : PySem.W.nsIn K mainGlobals "_law_way_changed" = some (some (.ref f17)))
    (l17 : K.lookup f17 = some ⟨oc17, od17, .func (PySem.W.fnOf "_law_way_changed" "_law_way_changed" (defArgs s__law_way_changed) (defBody s__law_way_changed) (defScope s__law_way_changed) .none kV17 dc17 pm17 an17 cd17 ct17), sl17⟩)
    (c17 : PySem.W.codeIn K cd17 "_law_way_changed" = true)
    (k17 : PySem.W.keepIn K (.ref f17) = true)
    (a18 : PySem.W.nsIn K mainGlobals "_law_ways_changed" = some (some (.ref f18)))
    (l18 : K.lookup f18 = some ⟨oc18, od18, .func (PySem.W.fnOf "_law_ways_changed" "_law_ways_changed" (defArgs s__law_ways_changed) (defBody s__law_ways_changed) (defScope s__law_ways_changed) .none kV18 dc18 pm18 an18 cd18 ct18), sl18⟩)
    (c18 : PySem.W.codeIn K cd18 "_law_ways_changed" = true)
    (k18 : PySem.W.keepIn K (.ref f18) = true)
    (a19 : PySem.W.nsIn K mainGlobals "_law_spoiled" = some (some (.ref f19)))
    (l19 : K.lookup f19 = some ⟨oc19, od19, .func (PySem.W.fnOf "_law_spoiled" "_law_spoiled" (defArgs s__law_spoiled) (defBody s__law_spoiled) (defScope s__law_spoiled) .none kV19 dc19 pm19 an19 cd19 ct19), sl19⟩)
    (c19 : PySem.W.codeIn K cd19 "_law_spoiled" = true)
    (k19 : PySem.W.keepIn K (.ref f19) = true)
    (a20 : PySem.W.nsIn K mainGlobals "_law_struck" = some (some (.ref f20)))
    (l20 : K.lookup f20 = some ⟨oc20, od20, .func (PySem.W.fnOf "_law_struck" "_law_struck" (defArgs s__law_struck) (defBody s__law_struck) (defScope s__law_struck) .none kV20 dc20 pm20 an20 cd20 ct20), sl20⟩)
    (c20 : PySem.W.codeIn K cd20 "_law_struck" = true)
    (k20 : PySem.W.keepIn K (.ref f20) = true)
    (a21 : PySem.W.nsIn K mainGlobals "_law_turned" = some (some (.ref f21)))
    (l21 : K.lookup f21 = some ⟨oc21, od21, .func (PySem.W.fnOf "_law_turned" "_law_turned" (defArgs s__law_turned) (defBody s__law_turned) (defScope s__law_turned) .none kV21 dc21 pm21 an21 cd21 ct21), sl21⟩)
    (c21 : PySem.W.codeIn K cd21 "_law_turned" = true)
    (k21 : PySem.W.keepIn K (.ref f21) = true)
    (a22 : PySem.W.nsIn K mainGlobals "is_integer" = some (some (.ref f22)))
    (l22 : K.lookup f22 = some ⟨oc22, od22, .func (PySem.W.fnOf "is_integer" "is_integer" (defArgs s_is_integer) (defBody s_is_integer) (defScope s_is_integer) .none kV22 dc22 pm22 an22 cd22 ct22), sl22⟩)
    (c22 : PySem.W.codeIn K cd22 "is_integer" = true)
    (k22 : PySem.W.keepIn K (.ref f22) = true)
    (a23 : PySem.W.nsIn K mainGlobals "is_within" = some (some (.ref f23)))
    (l23 : K.lookup f23 = some ⟨oc23, od23, .func (PySem.W.fnOf "is_within" "is_within" (defArgs s_is_within) (defBody s_is_within) (defScope s_is_within) .none kV23 dc23 pm23 an23 cd23 ct23), sl23⟩)
    (c23 : PySem.W.codeIn K cd23 "is_within" = true)
    (k23 : PySem.W.keepIn K (.ref f23) = true)
    (a24 : PySem.W.nsIn K mainGlobals "is_index" = some (some (.ref f24)))
    (l24 : K.lookup f24 = some ⟨oc24, od24, .func (PySem.W.fnOf "is_index" "is_index" (defArgs s_is_index) (defBody s_is_index) (defScope s_is_index) .none kV24 dc24 pm24 an24 cd24 ct24), sl24⟩)
    (c24 : PySem.W.codeIn K cd24 "is_index" = true)
    (k24 : PySem.W.keepIn K (.ref f24) = true)
    (a25 : PySem.W.nsIn K mainGlobals "are_unlike" = some (some (.ref f25)))
    (l25 : K.lookup f25 = some ⟨oc25, od25, .func (PySem.W.fnOf "are_unlike" "are_unlike" (defArgs s_are_unlike) (defBody s_are_unlike) (defScope s_are_unlike) .none kV25 dc25 pm25 an25 cd25 ct25), sl25⟩)
    (c25 : PySem.W.codeIn K cd25 "are_unlike" = true)
    (k25 : PySem.W.keepIn K (.ref f25) = true)
    (a26 : PySem.W.nsIn K mainGlobals "tied_of" = some (some (.ref f26)))
    (l26 : K.lookup f26 = some ⟨oc26, od26, .func (PySem.W.fnOf "tied_of" "tied_of" (defArgs s_tied_of) (defBody s_tied_of) (defScope s_tied_of) .none kV26 dc26 pm26 an26 cd26 ct26), sl26⟩)
    (c26 : PySem.W.codeIn K cd26 "tied_of" = true)
    (k26 : PySem.W.keepIn K (.ref f26) = true)
    (a27 : PySem.W.nsIn K mainGlobals "is_way" = some (some (.ref f27)))
    (l27 : K.lookup f27 = some ⟨oc27, od27, .func (PySem.W.fnOf "is_way" "is_way" (defArgs s_is_way) (defBody s_is_way) (defScope s_is_way) .none kV27 dc27 pm27 an27 cd27 ct27), sl27⟩)
    (c27 : PySem.W.codeIn K cd27 "is_way" = true)
    (k27 : PySem.W.keepIn K (.ref f27) = true)
    (a28 : PySem.W.nsIn K mainGlobals "pairs_of" = some (some (.ref f28)))
    (l28 : K.lookup f28 = some ⟨oc28, od28, .func (PySem.W.fnOf "pairs_of" "pairs_of" (defArgs s_pairs_of) (defBody s_pairs_of) (defScope s_pairs_of) .none kV28 dc28 pm28 an28 cd28 ct28), sl28⟩)
    (c28 : PySem.W.codeIn K cd28 "pairs_of" = true)
    (k28 : PySem.W.keepIn K (.ref f28) = true)
    (a29 : PySem.W.nsIn K mainGlobals "is_bar" = some (some (.ref f29)))
    (l29 : K.lookup f29 = some ⟨oc29, od29, .func (PySem.W.fnOf "is_bar" "is_bar" (defArgs s_is_bar) (defBody s_is_bar) (defScope s_is_bar) .none kV29 dc29 pm29 an29 cd29 ct29), sl29⟩)
    (c29 : PySem.W.codeIn K cd29 "is_bar" = true)
    (k29 : PySem.W.keepIn K (.ref f29) = true)
    (a30 : PySem.W.nsIn K mainGlobals "is_rising_pair" = some (some (.ref f30)))
    (l30 : K.lookup f30 = some ⟨oc30, od30, .func (PySem.W.fnOf "is_rising_pair" "is_rising_pair" (defArgs s_is_rising_pair) (defBody s_is_rising_pair) (defScope s_is_rising_pair) .none kV30 dc30 pm30 an30 cd30 ct30), sl30⟩)
    (c30 : PySem.W.codeIn K cd30 "is_rising_pair" = true)
    (k30 : PySem.W.keepIn K (.ref f30) = true)
    (a31 : PySem.W.nsIn K mainGlobals "are_rising_pairs" = some (some (.ref f31)))
    (l31 : K.lookup f31 = some ⟨oc31, od31, .func (PySem.W.fnOf "are_rising_pairs" "are_rising_pairs" (defArgs s_are_rising_pairs) (defBody s_are_rising_pairs) (defScope s_are_rising_pairs) .none kV31 dc31 pm31 an31 cd31 ct31), sl31⟩)
    (c31 : PySem.W.codeIn K cd31 "are_rising_pairs" = true)
    (k31 : PySem.W.keepIn K (.ref f31) = true)
    (a32 : PySem.W.nsIn K mainGlobals "beside_lists" = some (some (.ref f32)))
    (l32 : K.lookup f32 = some ⟨oc32, od32, .func (PySem.W.fnOf "beside_lists" "beside_lists" (defArgs s_beside_lists) (defBody s_beside_lists) (defScope s_beside_lists) .none kV32 dc32 pm32 an32 cd32 ct32), sl32⟩)
    (c32 : PySem.W.codeIn K cd32 "beside_lists" = true)
    (k32 : PySem.W.keepIn K (.ref f32) = true)
    (a33 : PySem.W.nsIn K mainGlobals "reached" = some (some (.ref f33)))
    (l33 : K.lookup f33 = some ⟨oc33, od33, .func (PySem.W.fnOf "reached" "reached" (defArgs s_reached) (defBody s_reached) (defScope s_reached) .none kV33 dc33 pm33 an33 cd33 ct33), sl33⟩)
    (c33 : PySem.W.codeIn K cd33 "reached" = true)
    (k33 : PySem.W.keepIn K (.ref f33) = true)
    (a34 : PySem.W.nsIn K mainGlobals "law" = some (some (.ref f34)))
    (l34 : K.lookup f34 = some ⟨oc34, od34, .func (PySem.W.fnOf "law" "law" (defArgs s_law) (defBody s_law) (defScope s_law) .none kV34 dc34 pm34 an34 cd34 ct34), sl34⟩)
    (c34 : PySem.W.codeIn K cd34 "law" = true)
    (k34 : PySem.W.keepIn K (.ref f34) = true)
    (z_abs : PySem.W.nsIn K mainGlobals "abs" = some none)
    (z_all : PySem.W.nsIn K mainGlobals "all" = some none)
    (z_any : PySem.W.nsIn K mainGlobals "any" = some none)
    (z_bool : PySem.W.nsIn K mainGlobals "bool" = some none)
    (z_int : PySem.W.nsIn K mainGlobals "int" = some none)
    (z_isinstance : PySem.W.nsIn K mainGlobals "isinstance" = some none)
    (z_len : PySem.W.nsIn K mainGlobals "len" = some none)
    (z_list : PySem.W.nsIn K mainGlobals "list" = some none)
    (z_max : PySem.W.nsIn K mainGlobals "max" = some none)
    (z_min : PySem.W.nsIn K mainGlobals "min" = some none)
    (z_range : PySem.W.nsIn K mainGlobals "range" = some none)
    (z_set : PySem.W.nsIn K mainGlobals "set" = some none)
    (z_sorted : PySem.W.nsIn K mainGlobals "sorted" = some none)
    (z_str : PySem.W.nsIn K mainGlobals "str" = some none)
    (z_tuple : PySem.W.nsIn K mainGlobals "tuple" = some none)
    (z_zip : PySem.W.nsIn K mainGlobals "zip" = some none)
    (v_MOST_CONTENTS : PySem.W.nsIn K mainGlobals "MOST_CONTENTS" = some (some (.int (8) tk_MOST_CONTENTS)))
    (v_MOST_TIES : PySem.W.nsIn K mainGlobals "MOST_TIES" = some (some (.int (28) tk_MOST_TIES)))
    (aD_CORNERS : PySem.W.nsIn K mainGlobals "CORNERS" = some (some (.ref dA_CORNERS)))
    (gD_CORNERS : K.lookup dA_CORNERS = some ⟨.type "dict", none, .dict #[⟨hD_CORNERS0, .str "five" kD_CORNERS0, uD_CORNERS0⟩, ⟨hD_CORNERS1, .str "three" kD_CORNERS1, uD_CORNERS1⟩] nD_CORNERS, #[]⟩)
    (oD_CORNERS : (dA_CORNERS == sysModules) = false)
    (eD_CORNERS0 : hD_CORNERS0 = PyData.keyHash w.params "five")
    (eD_CORNERS1 : hD_CORNERS1 = PyData.keyHash w.params "three")
    (vD_CORNERS0 : PySem.W.nsIn K dA_CORNERS "five" = some (some (.int 5 vk_CORNERS0)))
    (vD_CORNERS1 : PySem.W.nsIn K dA_CORNERS "three" = some (some (.int 6 vk_CORNERS1))) :
    ∃ fd : FuncData, (∀ (s : Shared) (v : Value), BindsTo s fd ⟨[v], []⟩ [("_law_script", v)]) ∧ ∀ base : Heap, K.In base → base.Ns mainGlobals mg → FnOk l.prog w K mg base CX0 8 fa fd ["_law_script"] (liftSp K spLaw) := by
  have e := hfa.symm.trans (PySem.W.mg_of X G a34)
  cases e
  have B : Bn mg := ⟨PySem.W.mg_none_of X G z_abs, PySem.W.mg_none_of X G z_all, PySem.W.mg_none_of X G z_any, PySem.W.mg_none_of X G z_bool, PySem.W.mg_none_of X G z_int, PySem.W.mg_none_of X G z_isinstance, PySem.W.mg_none_of X G z_len, PySem.W.mg_none_of X G z_list, PySem.W.mg_none_of X G z_max, PySem.W.mg_none_of X G z_min, PySem.W.mg_none_of X G z_range, PySem.W.mg_none_of X G z_set, PySem.W.mg_none_of X G z_sorted, PySem.W.mg_none_of X G z_str, PySem.W.mg_none_of X G z_tuple, PySem.W.mg_none_of X G z_zip⟩
  have GG : Gs mg := ⟨⟨_, PySem.W.mg_of X G v_MOST_CONTENTS⟩, ⟨_, PySem.W.mg_of X G v_MOST_TIES⟩⟩
  have KD_CORNERS : KDt K w mg "CORNERS" [("five", .int 5), ("three", .int 6)] := kdt_mk (PySem.W.mg_of X G aD_CORNERS) (dicW_of gD_CORNERS oD_CORNERS (by subst eD_CORNERS0; subst eD_CORNERS1; rfl)) (List.forall_mem_cons.mpr ⟨⟨_, .int _, vD_CORNERS0, ⟨_, rfl⟩, fun F => .int _⟩, (List.forall_mem_cons.mpr ⟨⟨_, .int _, vD_CORNERS1, ⟨_, rfl⟩, fun F => .int _⟩, (fun _ h => nomatch h)⟩)⟩)
  have TB : Cl_TB K mg C_TB := ⟨⟨pg_TB, hd_TB, po_TB, sa_TB⟩, n_TB_kept_size, n_TB_kept_ties, n_TB_kept_facts⟩
  have F1 : DMet K "__init__" "Book.__init__" s_Book___init__ f1 ["self", "size", "ties"] := dmet_mk l1 c1 k1 (fun _ _ _ _ _ _ us hl => match us, hl with | [_, _, _], _ => rfl)
  have F2 : DFun K mg "_law_draw" s__law_draw ["_law_dice_here", "_law_sides"] := dfun_mk X G a2 l2 c2 k2 (fun _ _ _ _ _ _ us hl => match us, hl with | [_, _], _ => rfl)
  have F3 : DFun K mg "_law_named" s__law_named ["_law_names", "_law_way"] := dfun_mk X G a3 l3 c3 k3 (fun _ _ _ _ _ _ us hl => match us, hl with | [_, _], _ => rfl)
  have F4 : DFun K mg "_law_pair" s__law_pair ["_law_one", "_law_two"] := dfun_mk X G a4 l4 c4 k4 (fun _ _ _ _ _ _ us hl => match us, hl with | [_, _], _ => rfl)
  have F5 : DFun K mg "_law_pairs" s__law_pairs ["_law_word"] := dfun_mk X G a5 l5 c5 k5 (fun _ _ _ _ _ _ us hl => match us, hl with | [_], _ => rfl)
  have F6 : DFun K mg "_law_shuffled" s__law_shuffled ["_law_dice_here", "_law_items"] := dfun_mk X G a6 l6 c6 k6 (fun _ _ _ _ _ _ us hl => match us, hl with | [_, _], _ => rfl)
  have F7 : DFun K mg "_law_barred" s__law_barred ["_law_dice_here", "_law_most"] := dfun_mk X G a7 l7 c7 k7 (fun _ _ _ _ _ _ us hl => match us, hl with | [_, _], _ => rfl)
  have F8 : DFun K mg "_law_dice" s__law_dice ["_law_script"] := dfun_mk X G a8 l8 c8 k8 (fun _ _ _ _ _ _ us hl => match us, hl with | [_], _ => rfl)
  have F9 : DFun K mg "_law_flag" s__law_flag ["_law_told", "_law_due"] := dfun_mk X G a9 l9 c9 k9 (fun _ _ _ _ _ _ us hl => match us, hl with | [_, _], _ => rfl)
  have F10 : DFun K mg "_law_is_content" s__law_is_content ["_law_thing", "_law_size"] := dfun_mk X G a10 l10 c10 k10 (fun _ _ _ _ _ _ us hl => match us, hl with | [_, _], _ => rfl)
  have F11 : DFun K mg "_law_unlike" s__law_unlike ["_law_thing", "_law_size"] := dfun_mk X G a11 l11 c11 k11 (fun _ _ _ _ _ _ us hl => match us, hl with | [_, _], _ => rfl)
  have F12 : DFun K mg "_law_is_way" s__law_is_way ["_law_size", "_law_ties", "_law_thing", "_law_one", "_law_two"] := dfun_mk X G a12 l12 c12 k12 (fun _ _ _ _ _ _ us hl => match us, hl with | [_, _, _, _, _], _ => rfl)
  have F13 : DFun K mg "_law_is_bar" s__law_is_bar ["_law_size", "_law_ties", "_law_thing"] := dfun_mk X G a13 l13 c13 k13 (fun _ _ _ _ _ _ us hl => match us, hl with | [_, _, _], _ => rfl)
  have F14 : DFun K mg "_law_odd" s__law_odd ["_law_dice_here", "_law_size"] := dfun_mk X G a14 l14 c14 k14 (fun _ _ _ _ _ _ us hl => match us, hl with | [_, _], _ => rfl)
  have F15 : DFun K mg "_law_set" s__law_set ["_law_row", "_law_at", "_law_thing"] := dfun_mk X G a15 l15 c15 k15 (fun _ _ _ _ _ _ us hl => match us, hl with | [_, _, _], _ => rfl)
  have F16 : DFun K mg "_law_corners_changed" s__law_corners_changed ["_law_dice_here", "_law_size", "_law_corners"] := dfun_mk X G a16 l16 c16 k16 (fun _ _ _ _ _ _ us hl => match us, hl with | [_, _, _], _ => rfl)
  have F17 : DFun K mg "_law_way_changed" s__law_way_changed ["_law_dice_here", "_law_size", "_law_way"] := dfun_mk X G a17 l17 c17 k17 (fun _ _ _ _ _ _ us hl => match us, hl with | [_, _, _], _ => rfl)
  have F18 : DFun K mg "_law_ways_changed" s__law_ways_changed ["_law_dice_here", "_law_size", "_law_ways"] := dfun_mk X G a18 l18 c18 k18 (fun _ _ _ _ _ _ us hl => match us, hl with | [_, _, _], _ => rfl)
  have F19 : DFun K mg "_law_spoiled" s__law_spoiled ["_law_dice_here", "_law_size", "_law_paper"] := dfun_mk X G a19 l19 c19 k19 (fun _ _ _ _ _ _ us hl => match us, hl with | [_, _, _], _ => rfl)
  have F20 : DFun K mg "_law_struck" s__law_struck ["_law_dice_here", "_law_ties", "_law_paper"] := dfun_mk X G a20 l20 c20 k20 (fun _ _ _ _ _ _ us hl => match us, hl with | [_, _, _], _ => rfl)
  have F21 : DFun K mg "_law_turned" s__law_turned ["_law_dice_here", "_law_paper"] := dfun_mk X G a21 l21 c21 k21 (fun _ _ _ _ _ _ us hl => match us, hl with | [_, _], _ => rfl)
  have F22 : DFun K mg "is_integer" s_is_integer ["thing"] := dfun_mk X G a22 l22 c22 k22 (fun _ _ _ _ _ _ us hl => match us, hl with | [_], _ => rfl)
  have F23 : DFun K mg "is_within" s_is_within ["thing", "least", "most"] := dfun_mk X G a23 l23 c23 k23 (fun _ _ _ _ _ _ us hl => match us, hl with | [_, _, _], _ => rfl)
  have F24 : DFun K mg "is_index" s_is_index ["thing", "many"] := dfun_mk X G a24 l24 c24 k24 (fun _ _ _ _ _ _ us hl => match us, hl with | [_, _], _ => rfl)
  have F25 : DFun K mg "are_unlike" s_are_unlike ["book", "thing"] := dfun_mk X G a25 l25 c25 k25 (fun _ _ _ _ _ _ us hl => match us, hl with | [_, _], _ => rfl)
  have F26 : DFun K mg "tied_of" s_tied_of ["book"] := dfun_mk X G a26 l26 c26 k26 (fun _ _ _ _ _ _ us hl => match us, hl with | [_], _ => rfl)
  have F27 : DFun K mg "is_way" s_is_way ["book", "thing", "corners", "pair"] := dfun_mk X G a27 l27 c27 k27 (fun _ _ _ _ _ _ us hl => match us, hl with | [_, _, _, _], _ => rfl)
  have F28 : DFun K mg "pairs_of" s_pairs_of ["word"] := dfun_mk X G a28 l28 c28 k28 (fun _ _ _ _ _ _ us hl => match us, hl with | [_], _ => rfl)
  have F29 : DFun K mg "is_bar" s_is_bar ["book", "thing"] := dfun_mk X G a29 l29 c29 k29 (fun _ _ _ _ _ _ us hl => match us, hl with | [_, _], _ => rfl)
  have F30 : DFun K mg "is_rising_pair" s_is_rising_pair ["thing", "many"] := dfun_mk X G a30 l30 c30 k30 (fun _ _ _ _ _ _ us hl => match us, hl with | [_, _], _ => rfl)
  have F31 : DFun K mg "are_rising_pairs" s_are_rising_pairs ["thing", "many", "most"] := dfun_mk X G a31 l31 c31 k31 (fun _ _ _ _ _ _ us hl => match us, hl with | [_, _, _], _ => rfl)
  have F32 : DFun K mg "beside_lists" s_beside_lists ["many", "pairs"] := dfun_mk X G a32 l32 c32 k32 (fun _ _ _ _ _ _ us hl => match us, hl with | [_, _], _ => rfl)
  have F33 : DFun K mg "reached" s_reached ["rows", "inside", "start"] := dfun_mk X G a33 l33 c33 k33 (fun _ _ _ _ _ _ us hl => match us, hl with | [_, _, _], _ => rfl)
  refine ⟨PySem.W.fnOf "law" "law" (defArgs s_law) (defBody s_law) (defScope s_law) .none kV34 dc34 pm34 an34 cd34 ct34, fun s v => .of_eq rfl, fun base _ _ => ?_⟩
  have c__law_draw := c__law_draw (P := l.prog) (w := w) (base := base) F2 B GG 
  have c__law_named := c__law_named (P := l.prog) (w := w) (base := base) F3 B GG 
  have c__law_pair := c__law_pair (P := l.prog) (w := w) (base := base) F4 B GG 
  have c__law_pairs := c__law_pairs (P := l.prog) (w := w) (base := base) F5 B GG 
  have c__law_shuffled := c__law_shuffled (P := l.prog) (w := w) (base := base) F6 B GG c__law_draw
  have c__law_barred := c__law_barred (P := l.prog) (w := w) (base := base) F7 B GG c__law_draw c__law_named c__law_pair c__law_pairs c__law_shuffled
  have c__law_dice := c__law_dice (P := l.prog) (w := w) (base := base) F8 B GG 
  have c__law_flag := c__law_flag (P := l.prog) (w := w) (base := base) F9 B GG 
  have c__law_is_content := c__law_is_content (P := l.prog) (w := w) (base := base) F10 B GG 
  have c__law_unlike := c__law_unlike (P := l.prog) (w := w) (base := base) F11 B GG c__law_is_content
  have c__law_is_way := c__law_is_way (P := l.prog) (w := w) (base := base) F12 B GG c__law_pair c__law_unlike
  have c__law_is_bar := c__law_is_bar (P := l.prog) (w := w) (base := base) F13 B GG c__law_is_way c__law_pairs c__law_unlike
  have c__law_odd := c__law_odd (P := l.prog) (w := w) (base := base) F14 B GG c__law_draw
  have c__law_set := c__law_set (P := l.prog) (w := w) (base := base) F15 B GG 
  have c__law_corners_changed := c__law_corners_changed (P := l.prog) (w := w) (base := base) F16 B GG c__law_draw c__law_odd c__law_set
  have c__law_way_changed := c__law_way_changed (P := l.prog) (w := w) (base := base) F17 B GG c__law_draw c__law_odd c__law_set
  have c__law_ways_changed := c__law_ways_changed (P := l.prog) (w := w) (base := base) F18 B GG c__law_draw c__law_set c__law_way_changed
  have c__law_spoiled := c__law_spoiled (P := l.prog) (w := w) (base := base) F19 B GG c__law_corners_changed c__law_draw c__law_ways_changed
  have c__law_struck := c__law_struck (P := l.prog) (w := w) (base := base) F20 B GG c__law_draw c__law_pair
  have c__law_turned := c__law_turned (P := l.prog) (w := w) (base := base) F21 B GG c__law_draw c__law_pairs c__law_shuffled
  have c_is_integer := c_is_integer (P := l.prog) (w := w) (base := base) F22 B GG 
  have c_is_within := c_is_within (P := l.prog) (w := w) (base := base) F23 B GG c_is_integer
  have c_is_index := c_is_index (P := l.prog) (w := w) (base := base) F24 B GG c_is_within
  have c_are_unlike := c_are_unlike (P := l.prog) (w := w) (base := base) (C_TB := C_TB) F25 B GG TB c_is_index
  have c_tied_of := c_tied_of (P := l.prog) (w := w) (base := base) (C_TB := C_TB) F26 B GG TB
  have c_is_way := c_is_way (P := l.prog) (w := w) (base := base) (C_TB := C_TB) F27 B GG c_are_unlike c_tied_of
  have c_pairs_of := c_pairs_of (P := l.prog) (w := w) (base := base) F28 B GG 
  have c_is_bar := c_is_bar (P := l.prog) (w := w) (base := base) (C_TB := C_TB) F29 B GG c_are_unlike c_is_way c_pairs_of KD_CORNERS
  have c_is_rising_pair := c_is_rising_pair (P := l.prog) (w := w) (base := base) F30 B GG c_is_index
  have c_are_rising_pairs := c_are_rising_pairs (P := l.prog) (w := w) (base := base) F31 B GG c_is_rising_pair
  have c_beside_lists := c_beside_lists (P := l.prog) (w := w) (base := base) F32 B GG 
  have c_reached := c_reached (P := l.prog) (w := w) (base := base) F33 B GG 
  have m1 := c_Book___init__ (P := l.prog) (w := w) (base := base) (C_TB := C_TB) F1 B GG TB c_are_rising_pairs c_beside_lists c_is_within c_reached
  have MK_Book := dmk_mk X G aC_TB ⟨mk1, a1, i1, kc1⟩ m1
  exact c_law (fun_mk (st := s_law) l34 c34 k34) B GG c__law_barred c__law_dice c__law_draw c__law_flag c__law_is_bar c__law_spoiled c__law_struck c__law_turned c_is_bar MK_Book
end DL
open PySem PySem.W PyProof.Rows
set_option maxRecDepth 100000 in
set_option maxHeartbeats 0 in
theorem PySem.Challenge.cw_storelands_k57_whole_bars_spoiled_holds : PySem.Challenge.rw_storelands_k57_whole_bars_spoiled.Holds := by
  w_on; o_law; k_head; (case hw => w_witness2)
  k_fill
  refine DL.walk_law (k := 8) (x := "_law_script") (l := PySem.Challenge.rw_storelands_k57_whole_bars_spoiled) rfl rfl ⟨rfl, by decide, by decide⟩ (fun w h Y => PySem.W.kIn_of Y) ?F
  case F =>
    intro w mg fa h KX G hmg
    refine' DL.all_mk KX G hmg ?aC_TB ?pg_TB ?hd_TB ?po_TB ?sa_TB ?n_TB_kept_size ?n_TB_kept_ties ?n_TB_kept_facts ?a1 ?i1 ?l1 ?c1 ?k1 ?mk1 ?kc1 ?a2 ?l2 ?c2 ?k2 ?a3 ?l3 ?c3 ?k3 ?a4 ?l4 ?c4 ?k4 ?a5 ?l5 ?c5 ?k5 ?a6 ?l6 ?c6 ?k6 ?a7 ?l7 ?c7 ?k7 ?a8 ?l8 ?c8 ?k8 ?a9 ?l9 ?c9 ?k9 ?a10 ?l10 ?c10 ?k10 ?a11 ?l11 ?c11 ?k11 ?a12 ?l12 ?c12 ?k12 ?a13 ?l13 ?c13 ?k13 ?a14 ?l14 ?c14 ?k14 ?a15 ?l15 ?c15 ?k15 ?a16 ?l16 ?c16 ?k16 ?a17 ?l17 ?c17 ?k17 ?a18 ?l18 ?c18 ?k18 ?a19 ?l19 ?c19 ?k19 ?a20 ?l20 ?c20 ?k20 ?a21 ?l21 ?c21 ?k21 ?a22 ?l22 ?c22 ?k22 ?a23 ?l23 ?c23 ?k23 ?a24 ?l24 ?c24 ?k24 ?a25 ?l25 ?c25 ?k25 ?a26 ?l26 ?c26 ?k26 ?a27 ?l27 ?c27 ?k27 ?a28 ?l28 ?c28 ?k28 ?a29 ?l29 ?c29 ?k29 ?a30 ?l30 ?c30 ?k30 ?a31 ?l31 ?c31 ?k31 ?a32 ?l32 ?c32 ?k32 ?a33 ?l33 ?c33 ?k33 ?a34 ?l34 ?c34 ?k34 ?z_abs ?z_all ?z_any ?z_bool ?z_int ?z_isinstance ?z_len ?z_list ?z_max ?z_min ?z_range ?z_set ?z_sorted ?z_str ?z_tuple ?z_zip ?v_MOST_CONTENTS ?v_MOST_TIES ?aD_CORNERS ?gD_CORNERS ?oD_CORNERS ?eD_CORNERS0 ?eD_CORNERS1 ?vD_CORNERS0 ?vD_CORNERS1
    (case aC_TB => k_is); (case pg_TB => k_is); (case hd_TB => k_is); (case po_TB => k_is); (case sa_TB => k_is); (case n_TB_kept_size => k_is)
    (case n_TB_kept_ties => k_is); (case n_TB_kept_facts => k_is); (case a1 => k_is); (case i1 => k_is); (case l1 => k_is); (case c1 => k_is)
    (case k1 => k_is); (case mk1 => k_is); (case kc1 => k_is); (case a2 => k_is); (case l2 => k_is); (case c2 => k_is)
    (case k2 => k_is); (case a3 => k_is); (case l3 => k_is); (case c3 => k_is); (case k3 => k_is); (case a4 => k_is)
    (case l4 => k_is); (case c4 => k_is); (case k4 => k_is); (case a5 => k_is); (case l5 => k_is); (case c5 => k_is)
    (case k5 => k_is); (case a6 => k_is); (case l6 => k_is); (case c6 => k_is); (case k6 => k_is); (case a7 => k_is)
    (case l7 => k_is); (case c7 => k_is); (case k7 => k_is); (case a8 => k_is); (case l8 => k_is); (case c8 => k_is)
    (case k8 => k_is); (case a9 => k_is); (case l9 => k_is); (case c9 => k_is); (case k9 => k_is); (case a10 => k_is)
    (case l10 => k_is); (case c10 => k_is); (case k10 => k_is); (case a11 => k_is); (case l11 => k_is); (case c11 => k_is)
    (case k11 => k_is); (case a12 => k_is); (case l12 => k_is); (case c12 => k_is); (case k12 => k_is); (case a13 => k_is)
    (case l13 => k_is); (case c13 => k_is); (case k13 => k_is); (case a14 => k_is); (case l14 => k_is); (case c14 => k_is)
    (case k14 => k_is); (case a15 => k_is); (case l15 => k_is); (case c15 => k_is); (case k15 => k_is); (case a16 => k_is)
    (case l16 => k_is); (case c16 => k_is); (case k16 => k_is); (case a17 => k_is); (case l17 => k_is); (case c17 => k_is)
    (case k17 => k_is); (case a18 => k_is); (case l18 => k_is); (case c18 => k_is); (case k18 => k_is); (case a19 => k_is)
    (case l19 => k_is); (case c19 => k_is); (case k19 => k_is); (case a20 => k_is); (case l20 => k_is); (case c20 => k_is)
    (case k20 => k_is); (case a21 => k_is); (case l21 => k_is); (case c21 => k_is); (case k21 => k_is); (case a22 => k_is)
    (case l22 => k_is); (case c22 => k_is); (case k22 => k_is); (case a23 => k_is); (case l23 => k_is); (case c23 => k_is)
    (case k23 => k_is); (case a24 => k_is); (case l24 => k_is); (case c24 => k_is); (case k24 => k_is); (case a25 => k_is)
    (case l25 => k_is); (case c25 => k_is); (case k25 => k_is); (case a26 => k_is); (case l26 => k_is); (case c26 => k_is)
    (case k26 => k_is); (case a27 => k_is); (case l27 => k_is); (case c27 => k_is); (case k27 => k_is); (case a28 => k_is)
    (case l28 => k_is); (case c28 => k_is); (case k28 => k_is); (case a29 => k_is); (case l29 => k_is); (case c29 => k_is)
    (case k29 => k_is); (case a30 => k_is); (case l30 => k_is); (case c30 => k_is); (case k30 => k_is); (case a31 => k_is)
    (case l31 => k_is); (case c31 => k_is); (case k31 => k_is); (case a32 => k_is); (case l32 => k_is); (case c32 => k_is)
    (case k32 => k_is); (case a33 => k_is); (case l33 => k_is); (case c33 => k_is); (case k33 => k_is); (case a34 => k_is)
    (case l34 => k_is); (case c34 => k_is); (case k34 => k_is); (case z_abs => k_is); (case z_all => k_is); (case z_any => k_is)
    (case z_bool => k_is); (case z_int => k_is); (case z_isinstance => k_is); (case z_len => k_is); (case z_list => k_is); (case z_max => k_is)
    (case z_min => k_is); (case z_range => k_is); (case z_set => k_is); (case z_sorted => k_is); (case z_str => k_is); (case z_tuple => k_is)
    (case z_zip => k_is); (case v_MOST_CONTENTS => k_is); (case v_MOST_TIES => k_is); (case aD_CORNERS => k_is); (case gD_CORNERS => k_is); (case oD_CORNERS => first | rfl | decide +kernel)
    (case eD_CORNERS0 => first | rfl | decide +kernel); (case eD_CORNERS1 => first | rfl | decide +kernel); (case vD_CORNERS0 => k_is); (case vD_CORNERS1 => k_is)

