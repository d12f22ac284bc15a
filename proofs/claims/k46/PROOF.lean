import PyProof.Rows.All
import Wide.All
import OpenK.AllK
import Wide.FinOn
import KE.KStateDown
import HandS.ForMost
import HandS.Walk
import HandS.Defaults
import HandS.Flow
import HandS.IsInst
import HandS.TupAny
import HandS.Deep
import HandS.SortInts
import HandS.Wide
import HandS.Conv
import HandS.TupLen
import HandS.DictComp
import HandS.Zip
import KE.SortData
import KE.DatumIndex
import KE.DataCmp
import HandS.RaiseMore
import HandS.Words
import HandS.HeadHook1
import HandS.HeadHook2
import HandS.Style
import PyProof.ReprRoads
import HandS.IterVal
import HandS.Star
import HandS.TupMul
import Lean
import HandS.Head0
import HandS.Head1
import HandS.Head2
import HandS.WordsExc
import HandS.HeadEnd
import PySem.Challenge.RW_everyrowalike_k46_whole_sums_that_square
set_option Elab.async false
set_option linter.all false
set_option maxRecDepth 100000
set_option maxHeartbeats 0
namespace VL
open PySem PySem.Spec L2

/-- a value as data; obj: an object that may change, by its address -/
inductive D where
  | non | bl (b : Bool) | int (i : Int) | str (x : Str) | lst (xs : List D) | tup (xs : List D) | obj (a : Addr)
  /-- a list that is only read: the script -/
  | rd (xs : List D)

mutual
/-- v is the data d, what it leans on stands in F -/
inductive DR (K : PySem.W.Frag) (F : Hp) : V → D → Prop
  | non : DR K F .non .non
  | bl (b : Bool) : DR K F (.bl b) (.bl b)
  | int (i : Int) : DR K F (.int i) (.int i)
  | str (x : Str) : DR K F (.str x) (.str x)
  | lst {a : Addr} {vs : List V} {ds : List D} : F a = some (.lst vs) → DRs K F vs ds → DR K F (.ref a) (.lst ds)
  | tup {a : Addr} {vs : List V} {ds : List D} : SqT K F a vs → DRs K F vs ds → DR K F (.ref a) (.tup ds)
  | obj (a : Addr) : DR K F (.ref a) (.obj a)
  | rd {a : Addr} {vs : List V} {ds : List D} : SqL K F a vs → DRs K F vs ds → DR K F (.ref a) (.rd ds)
inductive DRs (K : PySem.W.Frag) (F : Hp) : List V → List D → Prop
  | nil : DRs K F [] []
  | cons {v : V} {vs : List V} {d : D} {ds : List D} : DR K F v d → DRs K F vs ds → DRs K F (v :: vs) (d :: ds)
end

theorem same_tup {K : PySem.W.Frag} {H H' : Hp} {a : Addr} {xs : List V} (e : Same H H') (h : SqT K H a xs) : SqT K H' a xs := by
  rcases h with (h | ⟨o, h⟩) | h
  · exact .inl (.inl (e _ _ h))
  · exact .inl (.inr ⟨o, e _ _ h⟩)
  · exact .inr h
section
variable {K : PySem.W.Frag} {F F' : Hp}
mutual
theorem DR.mono (s : Same F F') : ∀ (d : D) (v : V), DR K F v d → DR K F' v d
  | .non, _, h => by cases h; exact .non
  | .bl b, _, h => by cases h; exact .bl b
  | .int i, _, h => by cases h; exact .int i
  | .str x, _, h => by cases h; exact .str x
  | .obj a, _, h => by cases h; exact .obj a
  | .lst ds, _, h => by
    cases h with
    | lst q r => exact .lst (s _ _ q) (DRs.mono s ds _ r)
  | .tup ds, _, h => by
    cases h with
    | tup q r => exact .tup (same_tup s q) (DRs.mono s ds _ r)
  | .rd ds, _, h => by
    cases h with
    | rd q r => exact .rd (s.seq q) (DRs.mono s ds _ r)
theorem DRs.mono (s : Same F F') : ∀ (ds : List D) (vs : List V), DRs K F vs ds → DRs K F' vs ds
  | [], _, h => by cases h; exact .nil
  | d :: ds, _, h => by
    cases h with
    | cons q r => exact .cons (DR.mono s d _ q) (DRs.mono s ds _ r)
end
theorem DR.up {v : V} {d : D} (h : DR K F v d) (s : Same F F') : DR K F' v d := DR.mono s d v h
theorem DRs.up {vs : List V} {ds : List D} (h : DRs K F vs ds) (s : Same F F') : DRs K F' vs ds := DRs.mono s ds vs h
theorem DRs.len : ∀ {vs : List V} {ds : List D}, DRs K F vs ds → vs.length = ds.length
  | _, [], h => by cases h; rfl
  | _, d :: ds, h => by
    cases h with
    | cons _ r => rw [List.length_cons, List.length_cons, DRs.len r]
theorem DRs.app : ∀ {vs ws : List V} {ds es : List D}, DRs K F vs ds → DRs K F ws es → DRs K F (vs ++ ws) (ds ++ es)
  | _, _, [], _, h, q => by cases h; exact q
  | _, _, d :: ds, _, h, q => by
    cases h with
    | cons a r => exact .cons a (DRs.app r q)
theorem DRs.get : ∀ {vs : List V} {ds : List D} {i : Nat} {v : V}, DRs K F vs ds → vs[i]? = some v → ∃ d, ds[i]? = some d ∧ DR K F v d
  | _, [], i, v, h, e => by cases h; simp at e
  | _, d :: ds, 0, v, h, e => by
    cases h with
    | cons a r =>
      simp only [List.getElem?_cons_zero, Option.some.injEq] at e
      subst e
      exact ⟨d, rfl, a⟩
  | _, d :: ds, i + 1, v, h, e => by
    cases h with
    | cons a r =>
      simp only [List.getElem?_cons_succ] at e ⊢
      exact DRs.get r e
theorem DRs.geti : ∀ {vs : List V} {ds : List D} {i : Nat} {d : D}, DRs K F vs ds → ds[i]? = some d → ∃ v, vs[i]? = some v ∧ DR K F v d
  | _, [], i, v, h, e => by simp at e
  | _, d :: ds, 0, v, h, e => by
    cases h with
    | cons a r =>
      simp only [List.getElem?_cons_zero, Option.some.injEq] at e
      subst e
      exact ⟨_, rfl, a⟩
  | _, d :: ds, i + 1, v, h, e => by
    cases h with
    | cons a r =>
      simp only [List.getElem?_cons_succ] at e ⊢
      exact DRs.geti r e
theorem DRs.set : ∀ {vs : List V} {ds : List D} {v : V} {d : D} (i : Nat), DRs K F vs ds → DR K F v d → DRs K F (vs.set i v) (ds.set i d)
  | _, [], _, _, i, h, _ => by cases h; exact .nil
  | _, d :: ds, _, _, 0, h, q => by
    cases h with
    | cons a r => exact .cons q r
  | _, d :: ds, _, _, i + 1, h, q => by
    cases h with
    | cons a r => exact .cons a (DRs.set i r q)
theorem DRs.take : ∀ {vs : List V} {ds : List D} (n : Nat), DRs K F vs ds → DRs K F (vs.take n) (ds.take n)
  | _, _, 0, _ => .nil
  | _, [], n + 1, h => by cases h; exact .nil
  | _, d :: ds, n + 1, h => by
    cases h with
    | cons a r => exact .cons a (DRs.take n r)
theorem DRs.drop : ∀ {vs : List V} {ds : List D} (n : Nat), DRs K F vs ds → DRs K F (vs.drop n) (ds.drop n)
  | _, _, 0, h => h
  | _, [], n + 1, h => by cases h; exact .nil
  | _, d :: ds, n + 1, h => by
    cases h with
    | cons a r => exact DRs.drop n r
theorem DRs.rev {vs : List V} {ds : List D} (h : DRs K F vs ds) : DRs K F vs.reverse ds.reverse := by
  induction ds generalizing vs with
  | nil => cases h; exact .nil
  | cons d ds ih =>
    cases h with
    | cons a r =>
      rw [List.reverse_cons, List.reverse_cons]
      exact (ih r).app (.cons a .nil)
theorem DRs.ints : ∀ (ns : List Int), DRs K F (ns.map V.int) (ns.map D.int)
  | [] => .nil
  | n :: ns => .cons (.int n) (DRs.ints ns)
end

inductive MO where
  | lst (xs : List D)
  | dk (kvs : List (Key × D))
  | dt (kvs : List (List Key × D))
  /-- any other thing, by what is true of its object; a tuple's iterator at p, not yet moved -/
  | ex (φ : Heap → Prop)
  | ti (b p : Addr) (us : List D)
abbrev Mem := Addr → Option MO
def mupd (M : Mem) (a : Addr) (o : MO) : Mem := fun b => if b = a then some o else M b
theorem mupd_same {M : Mem} {a : Addr} {o : MO} : mupd M a o a = some o := by unfold mupd; rw [if_pos rfl]
theorem mupd_ne {M : Mem} {a b : Addr} {o : MO} (h : b ≠ a) : mupd M a o b = M b := by unfold mupd; rw [if_neg h]
theorem mupd_mupd {M : Mem} {a : Addr} {o u : MO} : mupd (mupd M a o) a u = mupd M a u := by funext b; unfold mupd; split <;> rfl
theorem mupd_self {M : Mem} {a : Addr} {o : MO} (h : M a = some o) : mupd M a o = M := by
  funext b; unfold mupd; split
  · rename_i e; rw [e, h]
  · rfl
theorem mupd_comm {M : Mem} {a b : Addr} {o u : MO} (h : a ≠ b) : mupd (mupd M a o) b u = mupd (mupd M b u) a o := by
  funext c; unfold mupd
  by_cases h1 : c = a <;> by_cases h2 : c = b
  · exact absurd (h1.symm.trans h2) h
  · simp [h1, h2, h]
  · subst h2; simp [h1]
  · simp [h1, h2]
def MR (K : PySem.W.Frag) (F : Hp) : MO → HO → Prop
  | .lst ds, o => ∃ vs, o = .lst vs ∧ DRs K F vs ds
  | .dk kvs, o => ∃ kws : List (Key × V), o = .dK kws ∧ kws.map (·.1) = kvs.map (·.1) ∧ DRs K F (kws.map (·.2)) (kvs.map (·.2))
  | .dt kvs, o => ∃ kws : List (List Key × V), o = .dT kws ∧ kws.map (·.1) = kvs.map (·.1) ∧ DRs K F (kws.map (·.2)) (kvs.map (·.2))
  | .ex φ, o => o = .ext φ
  | .ti b p us, o => ∃ a, o = .ext (fun h => a < b ∧ h.IsTupleIter p a 0) ∧ DR K F (.ref a) (.tup us)
theorem MR.up {K : PySem.W.Frag} {F F' : Hp} {m : MO} {o : HO} (h : MR K F m o) (s : Same F F') : MR K F' m o := by
  cases m with
  | lst ds => obtain ⟨vs, e, r⟩ := h; exact ⟨vs, e, r.up s⟩
  | dk kvs => obtain ⟨kws, e, a, r⟩ := h; exact ⟨kws, e, a, r.up s⟩
  | dt kvs => obtain ⟨kws, e, a, r⟩ := h; exact ⟨kws, e, a, r.up s⟩
  | ex φ => exact h
  | ti b p us => obtain ⟨a, e, r⟩ := h; exact ⟨a, e, r.up s⟩

/-- F: what stands for good; M: what may change; G: what is kept by others; H: the heap of the hand layer -/
structure Rel (K : PySem.W.Frag) (F : Hp) (M : Mem) (G H : Hp) : Prop where
  sub : Same F H
  hid : Same G H
  ob : ∀ a o, M a = some o → F a = none ∧ G a = none ∧ ∃ ho, H a = some ho ∧ MR K F o ho
  dis : ∀ a o, G a = some o → F a = none
theorem upd_frz {F : Hp} {p : Addr} {o : HO} (h : F p = none) : Same F (upd F p o) := fun b x e => by
  rw [upd_ne (ne_of_none e h)]; exact e
section
variable {K : PySem.W.Frag} {F G H : Hp} {M : Mem} {p : Addr} {o : HO} {m : MO}
theorem Rel.f0 (r : Rel K F M G H) (h : H p = none) : F p = none := r.sub.free h
theorem Rel.g0 (r : Rel K F M G H) (h : H p = none) : G p = none := r.hid.free h
theorem Rel.m0 (r : Rel K F M G H) (h : H p = none) : M p = none := by
  cases e : M p with
  | none => rfl
  | some q =>
    obtain ⟨_, _, ho, e2, _⟩ := r.ob p q e
    rw [h] at e2; cases e2
theorem Rel.newF (r : Rel K F M G H) (h : H p = none) : Rel K (upd F p o) M G (upd H p o) where
  sub := fun b x e => by
    by_cases hb : b = p
    · subst hb; rw [upd_same] at e ⊢; exact e
    · rw [upd_ne hb] at e ⊢; exact r.sub b x e
  hid := fun b x e => by
    rw [upd_ne (ne_of_none e (r.g0 h))]; exact r.hid b x e
  ob := fun a x e => by
    obtain ⟨f, g, ho, e2, q⟩ := r.ob a x e
    have ne : a ≠ p := ne_of_none e2 h
    refine ⟨by rw [upd_ne ne]; exact f, g, ho, by rw [upd_ne ne]; exact e2, q.up (upd_frz (r.f0 h))⟩
  dis := fun a x e => by
    rw [upd_ne (ne_of_none e (r.g0 h))]; exact r.dis a x e
theorem Rel.sF (r : Rel K F M G H) (h : H p = none) : Same F (upd F p o) := upd_frz (r.f0 h)
theorem Rel.newM (r : Rel K F M G H) (h : H p = none) (q : MR K F m o) : Rel K F (mupd M p m) G (upd H p o) where
  sub := fun b x e => by
    rw [upd_ne (ne_of_none e (r.f0 h))]; exact r.sub b x e
  hid := fun b x e => by
    rw [upd_ne (ne_of_none e (r.g0 h))]; exact r.hid b x e
  ob := fun a x e => by
    by_cases ha : a = p
    · subst ha
      rw [mupd_same] at e; cases e
      exact ⟨r.f0 h, r.g0 h, o, upd_same, q⟩
    · rw [mupd_ne ha] at e
      obtain ⟨f, g, ho, e2, q⟩ := r.ob a x e
      exact ⟨f, g, ho, by rw [upd_ne ha]; exact e2, q⟩
  dis := r.dis
theorem Rel.wr {m0 : MO} (r : Rel K F M G H) (h : M p = some m0) (q : MR K F m o) : Rel K F (mupd M p m) G (upd H p o) where
  sub := fun b x e => by
    have z := (r.ob p m0 h).1
    rw [upd_ne (ne_of_none e z)]; exact r.sub b x e
  hid := fun b x e => by
    have z := (r.ob p m0 h).2.1
    rw [upd_ne (ne_of_none e z)]; exact r.hid b x e
  ob := fun a x e => by
    by_cases ha : a = p
    · subst ha
      rw [mupd_same] at e; cases e
      obtain ⟨f, g, _⟩ := r.ob a m0 h
      exact ⟨f, g, o, upd_same, q⟩
    · rw [mupd_ne ha] at e
      obtain ⟨f, g, ho, e2, q⟩ := r.ob a x e
      exact ⟨f, g, ho, by rw [upd_ne ha]; exact e2, q⟩
  dis := r.dis
theorem Rel.drop {M' : Mem} (r : Rel K F M G H) (h : ∀ a o, M' a = some o → M a = some o) : Rel K F M' G H :=
  ⟨r.sub, r.hid, fun a o e => r.ob a o (h a o e), r.dis⟩
/-- an object of ours is shut: it changes no more -/
def mdel (M : Mem) (a : Addr) : Mem := fun b => if b = a then none else M b
theorem mdel_same {a : Addr} : mdel M a a = none := by unfold mdel; rw [if_pos rfl]
theorem mdel_ne {a b : Addr} (h : b ≠ a) : mdel M a b = M b := by unfold mdel; rw [if_neg h]
theorem mdel_mupd {a : Addr} (h : M a = none) : mdel (mupd M a m) a = M := by
  funext b; unfold mdel mupd
  by_cases e : b = a
  · rw [if_pos e, e, h]
  · rw [if_neg e, if_neg e]
theorem Rel.shut {a : Addr} {ds : List D} (r : Rel K F M G H) (h : M a = some (.lst ds)) : ∃ vs, H a = some (.lst vs) ∧ DRs K F vs ds ∧ Same F (upd F a (.lst vs)) ∧ Rel K (upd F a (.lst vs)) (mdel M a) G H := by
  obtain ⟨f, g, ho, e, vs, rfl, q⟩ := r.ob a _ h
  have s : Same F (upd F a (.lst vs)) := upd_frz f
  refine ⟨vs, e, q, s, fun b x z => ?_, r.hid, fun b x z => ?_, fun b x z => ?_⟩
  · by_cases hb : b = a
    · subst hb; rw [upd_same] at z; rw [← z]; exact e
    · rw [upd_ne hb] at z; exact r.sub b x z
  · by_cases hb : b = a
    · subst hb; rw [mdel_same] at z; cases z
    · rw [mdel_ne hb] at z
      obtain ⟨f', g', ho', e', q'⟩ := r.ob b x z
      exact ⟨by rw [upd_ne hb]; exact f', g', ho', e', q'.up s⟩
  · rw [upd_ne (ne_of_none z g)]; exact r.dis b x z
/-- what we keep for ourselves -/
theorem Rel.hide (r : Rel K F M G H) (h : H p = none) : Rel K F M (upd G p o) (upd H p o) where
  sub := fun b x e => by rw [upd_ne (ne_of_none e (r.f0 h))]; exact r.sub b x e
  hid := fun b x e => by
    by_cases hb : b = p
    · subst hb; rw [upd_same] at e ⊢; exact e
    · rw [upd_ne hb] at e ⊢; exact r.hid b x e
  ob := fun a x e => by
    obtain ⟨f, g, ho, e2, q⟩ := r.ob a x e
    have ne : a ≠ p := ne_of_none e2 h
    exact ⟨f, by rw [upd_ne ne]; exact g, ho, by rw [upd_ne ne]; exact e2, q⟩
  dis := fun a x e => by
    by_cases ha : a = p
    · subst ha; exact r.f0 h
    · rw [upd_ne ha] at e; exact r.dis a x e
theorem Rel.hwr {u : HO} (r : Rel K F M G H) (h : G p = some u) : Rel K F M (upd G p o) (upd H p o) where
  sub := fun b x e => by rw [upd_ne (ne_of_none e (r.dis p u h))]; exact r.sub b x e
  hid := fun b x e => by
    by_cases hb : b = p
    · subst hb; rw [upd_same] at e ⊢; exact e
    · rw [upd_ne hb] at e ⊢; exact r.hid b x e
  ob := fun a x e => by
    obtain ⟨f, g, ho, e2, q⟩ := r.ob a x e
    have ne : a ≠ p := fun z => by rw [z, h] at g; cases g
    exact ⟨f, by rw [upd_ne ne]; exact g, ho, by rw [upd_ne ne]; exact e2, q⟩
  dis := fun a x e => by
    by_cases ha : a = p
    · subst ha; exact r.dis a u h
    · rw [upd_ne ha] at e; exact r.dis a x e
/-- what we kept is shut, and given -/
theorem Rel.give {G0 : Hp} (r : Rel K F M (upd G0 p o) H) (h : G0 p = none) : Same F (upd F p o) ∧ Rel K (upd F p o) M G0 H := by
  have fp : F p = none := r.dis p o upd_same
  have s : Same F (upd F p o) := upd_frz fp
  refine ⟨s, fun b x e => ?_, fun b x e => r.hid b x (by rw [upd_ne (ne_of_none e h)]; exact e), fun a x e => ?_, fun a x e => ?_⟩
  · by_cases hb : b = p
    · subst hb; rw [upd_same] at e; rw [← e]; exact r.hid b o upd_same
    · rw [upd_ne hb] at e; exact r.sub b x e
  · obtain ⟨f, g, ho, e2, q⟩ := r.ob a x e
    have ne : a ≠ p := fun z => by rw [z, upd_same] at g; cases g
    exact ⟨by rw [upd_ne ne]; exact f, by rw [upd_ne ne] at g; exact g, ho, e2, q.up s⟩
  · have ne : a ≠ p := ne_of_none e h
    rw [upd_ne ne]; exact r.dis a x (by rw [upd_ne ne]; exact e)
/-- .. into the memory -/
theorem Rel.giveM {G0 : Hp} (r : Rel K F M (upd G0 p o) H) (h : G0 p = none) (q : MR K F m o) (hm : M p = none) : Rel K F (mupd M p m) G0 H := by
  refine ⟨r.sub, fun b x e => r.hid b x (by rw [upd_ne (ne_of_none e h)]; exact e), fun a x e => ?_, fun a x e => ?_⟩
  · by_cases ha : a = p
    · subst ha
      rw [mupd_same] at e; cases e
      exact ⟨r.dis a o upd_same, h, o, r.hid a o upd_same, q⟩
    · rw [mupd_ne ha] at e
      obtain ⟨f, g, ho, e2, q⟩ := r.ob a x e
      exact ⟨f, by rw [upd_ne ha] at g; exact g, ho, e2, q⟩
  · have ne : a ≠ p := ne_of_none e h
    exact r.dis a x (by rw [upd_ne ne]; exact e)
end

abbrev VEnv := List (Option D)
def SR (K : PySem.W.Frag) (F : Hp) : St → VEnv → Prop
  | [], [] => True
  | o :: σ, x :: e => (∀ d, x = some d → ∃ v, o = some v ∧ DR K F v d) ∧ SR K F σ e
  | _, _ => False
section
variable {K : PySem.W.Frag} {F F' : Hp}
theorem SR.up (s : Same F F') : ∀ {σ : St} {e : VEnv}, SR K F σ e → SR K F' σ e
  | [], [], _ => trivial
  | o :: σ, x :: e, h => ⟨fun d q => let ⟨v, a, b⟩ := h.1 d q; ⟨v, a, b.up s⟩, SR.up s h.2⟩
  | [], _ :: _, h => h.elim
  | _ :: _, [], h => h.elim
theorem SR.get : ∀ {σ : St} {e : VEnv} {i : Nat} {d : D}, SR K F σ e → e[i]? = some (some d) → ∃ v, σ[i]? = some (some v) ∧ DR K F v d
  | [], [], i, d, _, q => by simp at q
  | o :: σ, x :: e, 0, d, h, q => by
    simp only [List.getElem?_cons_zero, Option.some.injEq] at q
    obtain ⟨v, a, b⟩ := h.1 d q
    exact ⟨v, by simp [a], b⟩
  | o :: σ, x :: e, i + 1, d, h, q => by
    simp only [List.getElem?_cons_succ] at q ⊢
    exact SR.get h.2 q
  | [], _ :: _, _, _, h, _ => h.elim
  | _ :: _, [], _, _, h, _ => h.elim
theorem SR.put {v : V} {d : D} (r : DR K F v d) : ∀ {σ : St} {e : VEnv} (i : Nat), SR K F σ e → SR K F (σ.set i (some v)) (e.set i (some d))
  | [], [], i, _ => trivial
  | o :: σ, x :: e, 0, h => ⟨fun d' q => by cases q; exact ⟨v, rfl, r⟩, h.2⟩
  | o :: σ, x :: e, i + 1, h => ⟨h.1, SR.put r i h.2⟩
  | [], _ :: _, _, h => h.elim
  | _ :: _, [], _, h => h.elim
theorem SR.non : ∀ {σ : St} {e : VEnv} (i : Nat), SR K F σ e → SR K F (σ.set i none) (e.set i none)
  | [], [], i, _ => trivial
  | o :: σ, x :: e, 0, h => ⟨(fun d' q => nomatch q), h.2⟩
  | o :: σ, x :: e, i + 1, h => ⟨h.1, SR.non i h.2⟩
  | [], _ :: _, _, h => h.elim
  | _ :: _, [], _, h => h.elim
def vwipe (e : VEnv) : List Nat → VEnv
  | [] => e
  | v :: vs => (vwipe e vs).set v none
theorem SR.wiped {σ : St} {e : VEnv} (h : SR K F σ e) : ∀ vs : List Nat, SR K F (wipe σ vs) (vwipe e vs)
  | [] => h
  | v :: vs => by
    unfold wipe vwipe
    exact SR.non v (SR.wiped h vs)
def vstart (n : Nat) (ds : List D) : VEnv := ds.map some ++ List.replicate (n - ds.length) none
theorem SR.none : ∀ (n : Nat), SR K F (List.replicate n Option.none) (List.replicate n Option.none)
  | 0 => trivial
  | n + 1 => ⟨(fun d q => nomatch q), SR.none n⟩
theorem SR.start {N : List Str} : ∀ {vs : List V} {ds : List D}, DRs K F vs ds → SR K F (start N vs) (vstart N.length ds) := by
  intro vs ds h
  have go : ∀ (m : Nat) {vs : List V} {ds : List D}, DRs K F vs ds → SR K F (vs.map some ++ List.replicate m Option.none) (ds.map some ++ List.replicate m Option.none) := by
    intro m vs ds h
    induction ds generalizing vs with
    | nil => cases h; exact SR.none m
    | cons d ds ih =>
      cases h with
      | cons a r => exact ⟨fun d' q => by cases q; exact ⟨_, rfl, a⟩, ih r⟩
  have hl := h.len
  unfold L2.start vstart
  rw [← hl]
  exact go _ h
end
end VL
namespace VL
open PySem PySem.Spec L2

abbrev VK := D → Mem → Prop
abbrev VTE := VEnv → Mem → VK → Prop
abbrev VTT := VEnv → Mem → (Bool → Mem → Prop) → Prop
abbrev VTA := VEnv → Mem → (List D → Mem → Prop) → Prop
abbrev VTO := VEnv → Mem → (Option Int → Mem → Prop) → Prop
abbrev VTG := D → VEnv → Mem → (VEnv → Mem → Prop) → Prop
abbrev VTGs := List D → VEnv → Mem → (VEnv → Mem → Prop) → Prop
structure VEnds where
  nx : VEnv → Mem → Prop
  rt : VK
  bk : VEnv → Mem → Prop := fun _ _ => False
  ct : VEnv → Mem → Prop := fun _ _ => False
abbrev VTS := VEnds → VEnv → Mem → Prop
abbrev VR2 := D → D → Mem → VK → Prop
abbrev VR1 := D → Mem → VK → Prop
abbrev VRs := List D → Mem → VK → Prop

/-- what follows a value -/
def OutE (K : PySem.W.Frag) (F G : Hp) (Q' : VK) (Q : L2.VK) : Prop := ∀ v H F' M d, Same F F' → Rel K F' M G H → DR K F' v d → Q' d M → Q v H
def OutT (K : PySem.W.Frag) (F G : Hp) (Q' : Bool → Mem → Prop) (Q : Bool → Hp → Prop) : Prop := ∀ b H F' M, Same F F' → Rel K F' M G H → Q' b M → Q b H
def OutA (K : PySem.W.Frag) (F G : Hp) (Q' : List D → Mem → Prop) (Q : List V → Hp → Prop) : Prop := ∀ vs H F' M ds, Same F F' → Rel K F' M G H → DRs K F' vs ds → Q' ds M → Q vs H
def OutO (K : PySem.W.Frag) (F G : Hp) (Q' : Option Int → Mem → Prop) (Q : Option Int → Hp → Prop) : Prop := ∀ b H F' M, Same F F' → Rel K F' M G H → Q' b M → Q b H
def OutS (K : PySem.W.Frag) (F G : Hp) (Q' : VEnv → Mem → Prop) (Q : L2.St → Hp → Prop) : Prop := ∀ σ H F' M e, Same F F' → Rel K F' M G H → SR K F' σ e → Q' e M → Q σ H
structure OutD (K : PySem.W.Frag) (F G : Hp) (D' : VEnds) (D : Ends) : Prop where
  nx : OutS K F G D'.nx D.nx
  rt : OutE K F G D'.rt D.rt
  bk : OutS K F G D'.bk D.bk
  ct : OutS K F G D'.ct D.ct
section
variable {K : PySem.W.Frag} {F F' G : Hp}
theorem OutE.up {Q' : VK} {Q : L2.VK} (o : OutE K F G Q' Q) (s : Same F F') : OutE K F' G Q' Q := fun v H F1 M d s1 => o v H F1 M d (s.trans s1)
theorem OutT.up {Q' : Bool → Mem → Prop} {Q : Bool → Hp → Prop} (o : OutT K F G Q' Q) (s : Same F F') : OutT K F' G Q' Q := fun b H F1 M s1 => o b H F1 M (s.trans s1)
theorem OutA.up {Q' : List D → Mem → Prop} {Q : List V → Hp → Prop} (o : OutA K F G Q' Q) (s : Same F F') : OutA K F' G Q' Q := fun v H F1 M d s1 => o v H F1 M d (s.trans s1)
theorem OutO.up {Q' : Option Int → Mem → Prop} {Q : Option Int → Hp → Prop} (o : OutO K F G Q' Q) (s : Same F F') : OutO K F' G Q' Q := fun b H F1 M s1 => o b H F1 M (s.trans s1)
theorem OutS.up {Q' : VEnv → Mem → Prop} {Q : L2.St → Hp → Prop} (o : OutS K F G Q' Q) (s : Same F F') : OutS K F' G Q' Q := fun v H F1 M d s1 => o v H F1 M d (s.trans s1)
theorem OutD.up {D' : VEnds} {D : Ends} (o : OutD K F G D' D) (s : Same F F') : OutD K F' G D' D := ⟨o.nx.up s, o.rt.up s, o.bk.up s, o.ct.up s⟩
end
def lE (K : PySem.W.Frag) (t : VTE) : TE := fun σ H Q => ∃ F M G e Q', SR K F σ e ∧ Rel K F M G H ∧ t e M Q' ∧ OutE K F G Q' Q
def lT (K : PySem.W.Frag) (t : VTT) : TT := fun σ H Q => ∃ F M G e Q', SR K F σ e ∧ Rel K F M G H ∧ t e M Q' ∧ OutT K F G Q' Q
def lA (K : PySem.W.Frag) (t : VTA) : TA := fun σ H Q => ∃ F M G e Q', SR K F σ e ∧ Rel K F M G H ∧ t e M Q' ∧ OutA K F G Q' Q
def lO (K : PySem.W.Frag) (t : VTO) : TO := fun σ H Q => ∃ F M G e Q', SR K F σ e ∧ Rel K F M G H ∧ t e M Q' ∧ OutO K F G Q' Q
def lG (K : PySem.W.Frag) (t : VTG) : TG := fun v σ H Q => ∃ F M G e d Q', SR K F σ e ∧ Rel K F M G H ∧ DR K F v d ∧ t d e M Q' ∧ OutS K F G Q' Q
def lGs (K : PySem.W.Frag) (t : VTGs) : TGs := fun vs σ H Q => ∃ F M G e ds Q', SR K F σ e ∧ Rel K F M G H ∧ DRs K F vs ds ∧ t ds e M Q' ∧ OutS K F G Q' Q
def lS (K : PySem.W.Frag) (t : VTS) : TS := fun D σ H => ∃ F M G e D', SR K F σ e ∧ Rel K F M G H ∧ t D' e M ∧ OutD K F G D' D
def l2 (K : PySem.W.Frag) (r : VR2) : R2 := fun x y H Q => ∃ F M G a b Q', Rel K F M G H ∧ DR K F x a ∧ DR K F y b ∧ r a b M Q' ∧ OutE K F G Q' Q
def l1 (K : PySem.W.Frag) (r : VR1) : V → Hp → L2.VK → Prop := fun x H Q => ∃ F M G a Q', Rel K F M G H ∧ DR K F x a ∧ r a M Q' ∧ OutE K F G Q' Q
def ls (K : PySem.W.Frag) (r : VRs) : List V → Hp → L2.VK → Prop := fun xs H Q => ∃ F M G as Q', Rel K F M G H ∧ DRs K F xs as ∧ r as M Q' ∧ OutE K F G Q' Q

def VE (X : Cx) (e : Expr) (t : VTE) : Prop := PE X e (lE X.K t)
def VT (X : Cx) (e : Expr) (t : VTT) : Prop := PT X e (lT X.K t)
def VW (X : Cx) (e : Expr) (t : VTT) : Prop := PW X e (lT X.K t)
def VA (X : Cx) (es : List Expr) (t : VTA) : Prop := PA X es (lA X.K t)
def VO (X : Cx) (e : Option Expr) (t : VTO) : Prop := PO X e (lO X.K t)
def VG (X : Cx) (e : Expr) (t : VTG) : Prop := PG X e (lG X.K t)
def VGs (X : Cx) (e : List Expr) (t : VTGs) : Prop := PGs X e (lGs X.K t)
def VS (X : Cx) (e : Stmt) (t : VTS) : Prop := PS X e (lS X.K t)
def VSs (X : Cx) (e : List Stmt) (t : VTS) : Prop := PSs X e (lS X.K t)

section
variable {X : Cx}
theorem PE_imp {e : Expr} {t t' : TE} (h : PE X e t) (i : ∀ σ H Q, t' σ H Q → t σ H Q) : PE X e t' := ⟨fun p s σ H Q I w => h.run p s σ H Q I (i _ _ _ w)⟩
theorem PT_imp {e : Expr} {t t' : TT} (h : PT X e t) (i : ∀ σ H Q, t' σ H Q → t σ H Q) : PT X e t' := ⟨fun p s σ H Q I w => h.run p s σ H Q I (i _ _ _ w)⟩
theorem PW_imp {e : Expr} {t t' : TT} (h : PW X e t) (i : ∀ σ H Q, t' σ H Q → t σ H Q) : PW X e t' := ⟨fun wh p s σ H Q I w => h.run wh p s σ H Q I (i _ _ _ w)⟩
theorem PA_imp {e : List Expr} {t t' : TA} (h : PA X e t) (i : ∀ σ H Q, t' σ H Q → t σ H Q) : PA X e t' := ⟨fun po p s σ H Q I w => h.run po p s σ H Q I (i _ _ _ w)⟩
theorem PO_imp {e : Option Expr} {t t' : TO} (h : PO X e t) (i : ∀ σ H Q, t' σ H Q → t σ H Q) : PO X e t' := ⟨fun p s σ H Q I w => h.run p s σ H Q I (i _ _ _ w)⟩
theorem PG_imp {e : Expr} {t t' : TG} (h : PG X e t) (i : ∀ v σ H Q, t' v σ H Q → t v σ H Q) : PG X e t' := ⟨fun p s σ H v u Q I r w => h.run p s σ H v u Q I r (i _ _ _ _ w)⟩
theorem PGs_imp {e : List Expr} {t t' : TGs} (h : PGs X e t) (i : ∀ v σ H Q, t' v σ H Q → t v σ H Q) : PGs X e t' := ⟨fun p s σ H v u Q I r w => h.run p s σ H v u Q I r (i _ _ _ _ w)⟩
theorem PS_imp {e : Stmt} {t t' : TS} (h : PS X e t) (i : ∀ D σ H, t' D σ H → t D σ H) : PS X e t' := ⟨fun p s σ H D I w => h.run p s σ H D I (i _ _ _ w)⟩
theorem PSs_imp {e : List Stmt} {t t' : TS} (h : PSs X e t) (i : ∀ D σ H, t' D σ H → t D σ H) : PSs X e t' := ⟨fun p s σ H D I w => h.run p s σ H D I (i _ _ _ w)⟩
theorem OpR_imp {f : Value → Value → Sem Value} {r r' : R2} (h : OpR X f r) (i : ∀ x y H Q, r' x y H Q → r x y H Q) : OpR X f r' := fun p s σ H x y v u Q I rx ry w => h p s σ H x y v u Q I rx ry (i _ _ _ _ w)
theorem UnR_imp {f : Value → Sem Value} {r r' : V → Hp → L2.VK → Prop} (h : UnR X f r) (i : ∀ x H Q, r' x H Q → r x H Q) : UnR X f r' := fun p s σ H x v Q I rx w => h p s σ H x v Q I rx (i _ _ _ w)
theorem CallR_imp {f : Value} {r r' : List V → Hp → L2.VK → Prop} (h : CallR X f r) (i : ∀ x H Q, r' x H Q → r x H Q) : CallR X f r' := fun p s σ H x v Q I rx w => h p s σ H x v Q I rx (i _ _ _ w)
theorem MtR_imp {id : String} {r r' : V → List V → Hp → L2.VK → Prop} (h : MtR X id r) (i : ∀ x xs H Q, r' x xs H Q → r x xs H Q) : MtR X id r' := fun p s σ H x xs v us Q I rx rs w => h p s σ H x xs v us Q I rx rs (i _ _ _ _ w)
theorem IxR_imp {r r' : R2} (h : IxR X r) (i : ∀ x y H Q, r' x y H Q → r x y H Q) : IxR X r' := fun a b p s σ H x y v u Q I rx ry w => h a b p s σ H x y v u Q I rx ry (i _ _ _ _ w)
theorem SlR_imp {r r' : V → Option Int → Option Int → Hp → L2.VK → Prop} (h : SlR X r) (i : ∀ x y z H Q, r' x y z H Q → r x y z H Q) : SlR X r' := fun p s σ H x v vl vu lo hi sl Q I rx a b c w => h p s σ H x v vl vu lo hi sl Q I rx a b c (i _ _ _ _ _ w)

@[simp] def vVar (i : Nat) : VTE := fun e M Q => ∃ d, e[i]? = some (some d) ∧ Q d M
@[simp] def vC (d : D) : VTE := fun _ M Q => Q d M
theorem v_pe {e : Expr} {te : TE} {t : VTE} (h : PE X e te) (i : ∀ F M G σ H e Q' Q, SR X.K F σ e → Rel X.K F M G H → t e M Q' → OutE X.K F G Q' Q → te σ H Q) : VE X e t :=
  PE_imp h fun σ H Q ⟨F, M, G, e, Q', h1, h2, h3, h4⟩ => i F M G σ H e Q' Q h1 h2 h3 h4
theorem v_var {i : Nat} {e : Expr} (h : PE X e (tVar i)) : VE X e (vVar i) := v_pe h fun F M G σ H e Q' Q hs hr ⟨d, hd, q⟩ o => by
  obtain ⟨v, a, b⟩ := hs.get hd
  exact ⟨v, a, o v H F M d (Same.refl F) hr b q⟩
theorem v_c {e : Expr} {v : V} {d : D} (h : PE X e (tC v)) (hd : ∀ F, DR X.K F v d) : VE X e (vC d) := v_pe h fun F M G σ H e Q' Q hs hr q o => o v H F M d (Same.refl F) hr (hd F) q
theorem v_int {i : Int} {j pos} : VE X (.Constant (.int i) j pos) (vC (.int i)) := v_c pe_int fun _ => .int i
theorem v_bl {b : Bool} {j pos} : VE X (.Constant (.bool b) j pos) (vC (.bl b)) := v_c pe_bl fun _ => .bl b
theorem v_non {j pos} : VE X (.Constant .none j pos) (vC .non) := v_c pe_non fun _ => .non
theorem v_str {x : Str} {j pos} : VE X (.Constant (.str x) j pos) (vC (.str x)) := v_c pe_str fun _ => .str x

def asL (M : Mem) : D → Option (List D)
  | .lst xs => some xs
  | .rd xs => some xs
  | .obj a => match M a with
    | some (.lst xs) => some xs
    | _ => none
  | _ => none
/-- a list that is not locked -/
def asP (M : Mem) : D → Option (List D)
  | .lst xs => some xs
  | .obj a => match M a with
    | some (.lst xs) => some xs
    | _ => none
  | _ => none
theorem asL_obj {M : Mem} {a : Addr} {xs : List D} (h : M a = some (.lst xs)) : asL M (.obj a) = some xs := by unfold asL; simp [h]
theorem asP_obj {M : Mem} {a : Addr} {xs : List D} (h : M a = some (.lst xs)) : asP M (.obj a) = some xs := by unfold asP; simp [h]
theorem asP_at {K : PySem.W.Frag} {F G H : Hp} {M : Mem} {v : V} {d : D} {xs : List D} (r : Rel K F M G H) (h : DR K F v d) (e : asP M d = some xs) : ∃ a vs, v = .ref a ∧ H a = some (.lst vs) ∧ DRs K F vs xs := by
  cases h with
  | lst q z => cases e; exact ⟨_, _, rfl, r.sub _ _ q, z⟩
  | obj a =>
    unfold asP at e
    dsimp only at e
    cases hm : M a with
    | none => rw [hm] at e; cases e
    | some o =>
      rw [hm] at e
      cases o with
      | lst ys =>
        have e' : ys = xs := Option.some.inj e
        subst e'
        obtain ⟨_, _, ho, h1, vs, rfl, z⟩ := r.ob a _ hm
        exact ⟨a, vs, rfl, h1, z⟩
      | dk _ => cases e
      | dt _ => cases e
      | ex _ => cases e
      | ti _ _ _ => cases e
  | non => cases e
  | bl _ => cases e
  | int _ => cases e
  | str _ => cases e
  | tup _ _ => cases e
  | rd _ _ => cases e
theorem asL_at {K : PySem.W.Frag} {F G H : Hp} {M : Mem} {v : V} {d : D} {xs : List D} (r : Rel K F M G H) (h : DR K F v d) (e : asL M d = some xs) : ∃ a vs, v = .ref a ∧ SqL K H a vs ∧ DRs K F vs xs := by
  cases h with
  | lst q z => cases e; exact ⟨_, _, rfl, SqL.of (r.sub _ _ q), z⟩
  | obj a =>
    unfold asL at e
    dsimp only at e
    cases hm : M a with
    | none => rw [hm] at e; cases e
    | some o =>
      rw [hm] at e
      cases o with
      | lst ys =>
        have e' : ys = xs := Option.some.inj e
        subst e'
        obtain ⟨_, _, ho, h1, vs, rfl, z⟩ := r.ob a _ hm
        exact ⟨a, vs, rfl, SqL.of h1, z⟩
      | dk _ => cases e
      | dt _ => cases e
      | ex _ => cases e
      | ti _ _ _ => cases e
  | non => cases e
  | bl _ => cases e
  | int _ => cases e
  | str _ => cases e
  | tup _ _ => cases e
  | rd q z => cases e; exact ⟨_, _, rfl, r.sub.seq q, z⟩
@[simp] def vOp (r : VR2) (ta tb : VTE) : VTE := fun e M Q => ta e M fun x M1 => tb e M1 fun y M2 => r x y M2 Q
theorem v_op {op : Operator} {r : VR2} {a b : Expr} {ta tb : VTE} {pos : Pos} (ho : OpR X (binaryOp op) (l2 X.K r)) (ha : VE X a ta) (hb : VE X b tb) : VE X (.BinOp a op b pos) (vOp r ta tb) :=
  v_pe (pe_op ho ha hb) fun F M G σ H e Q' Q hs hr q o => ⟨F, M, G, e, _, hs, hr, q, fun x H1 F1 M1 d s1 r1 d1 q1 => ⟨F1, M1, G, e, _, hs.up s1, r1, q1, fun y H2 F2 M2 d' s2 r2 d2 q2 => ⟨F2, M2, G, d, d', Q', r2, d1.up s2, d2, q2, o.up (s1.trans s2)⟩⟩⟩
theorem v_cmp {op : CmpOp} {r : VR2} {a b : Expr} {ta tb : VTE} {pos : Pos} (ho : OpR X (compareOp op) (l2 X.K r)) (ha : VE X a ta) (hb : VE X b tb) (hm : behindInMarks op b = false) : VE X (.Compare a [op] [b] pos) (vOp r ta tb) :=
  v_pe (pe_cmpR ho ha hb hm) fun F M G σ H e Q' Q hs hr q o => ⟨F, M, G, e, _, hs, hr, q, fun x H1 F1 M1 d s1 r1 d1 q1 => ⟨F1, M1, G, e, _, hs.up s1, r1, q1, fun y H2 F2 M2 d' s2 r2 d2 q2 => ⟨F2, M2, G, d, d', Q', r2, d1.up s2, d2, q2, o.up (s1.trans s2)⟩⟩⟩
@[simp] def vTest (t : VTE) : VTT := fun e M Q => t e M fun x M1 => ∃ k, x = .bl k ∧ Q k M1
theorem t_cmp {op : CmpOp} {r : VR2} {a b : Expr} {ta tb : VTE} {pos : Pos} (ho : OpR X (compareOp op) (l2 X.K r)) (ha : VE X a ta) (hb : VE X b tb) (hm : behindInMarks op b = false) : VT X (.Compare a [op] [b] pos) (vTest (vOp r ta tb)) :=
  PT_imp (pt_cmpR ho ha hb hm) fun σ H Q ⟨F, M, G, e, Q', hs, hr, q, o⟩ => ⟨F, M, G, e, _, hs, hr, q, fun x H1 F1 M1 d s1 r1 d1 q1 => ⟨F1, M1, G, e, _, hs.up s1, r1, q1, fun y H2 F2 M2 d' s2 r2 d2 q2 => ⟨F2, M2, G, d, d', _, r2, d1.up s2, d2, q2, fun v H3 F3 M3 d3 s3 r3 z q3 => by
    obtain ⟨k, rfl, q4⟩ := q3
    cases z
    exact ⟨k, rfl, o k H3 F3 M3 ((s1.trans s2).trans s3) r3 q4⟩⟩⟩⟩
/-- a bool's value as a test -/
theorem t_val {e : Expr} {t : VTE} (h : VE X e t) (he : ∀ whole, isTrue e X.env whole = (do let v ← whole; standAt e.pos; holding [v] (truthy v)) := by intro _; rfl) : VT X e (vTest t) :=
  PT_imp (pt_val h he) fun σ H Q ⟨F, M, G, e, Q', hs, hr, q, o⟩ => ⟨F, M, G, e, _, hs, hr, q, fun x H1 F1 M1 d s1 r1 d1 q1 => by
    obtain ⟨k, rfl, q2⟩ := q1
    cases d1
    exact ⟨k, rfl, o k H1 F1 M1 s1 r1 q2⟩⟩
@[simp] def vUn (r : VR1) (ta : VTE) : VTE := fun e M Q => ta e M fun x M1 => r x M1 Q
theorem v_un {op : UnaryOp} {r : VR1} {a : Expr} {ta : VTE} {pos : Pos} (ho : UnR X (unaryOp op) (l1 X.K r)) (ha : VE X a ta) : VE X (.UnaryOp op a pos) (vUn r ta) :=
  v_pe (pe_un ho ha) fun F M G σ H e Q' Q hs hr q o => ⟨F, M, G, e, _, hs, hr, q, fun x H1 F1 M1 d s1 r1 d1 q1 => ⟨F1, M1, G, d, Q', r1, d1, q1, o.up s1⟩⟩

@[simp] def vAnd (ta tb : VTE) : VTE := fun e M Q => ta e M fun x M1 => ∃ c, x = .bl c ∧ if c = true then tb e M1 Q else Q (.bl false) M1
@[simp] def vOr (ta tb : VTE) : VTE := fun e M Q => ta e M fun x M1 => ∃ c, x = .bl c ∧ if c = true then Q (.bl true) M1 else tb e M1 Q
@[simp] def vNot (ta : VTE) : VTE := fun e M Q => ta e M fun x M1 => ∃ c, x = .bl c ∧ Q (.bl (!c)) M1
@[simp] def vIf (t : VTT) (ta tb : VTE) : VTE := fun e M Q => t e M fun c M1 => if c = true then ta e M1 Q else tb e M1 Q
variable {a b : Expr} {rest : List Expr} {ta tb : VTE} {pos : Pos} {tA tB : VTT}
theorem v_one {op : BoolOp} (h : VE X a ta) : VE X (.BoolOp op [a] pos) ta := pe_one h
theorem v_and (ha : VE X a ta) (hb : VE X (.BoolOp .And (b :: rest) pos) tb) : VE X (.BoolOp .And (a :: b :: rest) pos) (vAnd ta tb) :=
  v_pe (pe_and ha hb) fun F M G σ H e Q' Q hs hr q o => ⟨F, M, G, e, _, hs, hr, q, fun x H1 F1 M1 d s1 r1 d1 q1 => by
    obtain ⟨c, rfl, q1⟩ := q1
    cases d1
    refine ⟨c, rfl, ?_⟩
    cases c with
    | true => rw [if_pos rfl] at q1 ⊢; exact ⟨F1, M1, G, e, Q', hs.up s1, r1, q1, o.up s1⟩
    | false => rw [if_neg Bool.false_ne_true] at q1 ⊢; exact o _ H1 F1 M1 _ s1 r1 (.bl false) q1⟩
theorem v_or (ha : VE X a ta) (hb : VE X (.BoolOp .Or (b :: rest) pos) tb) : VE X (.BoolOp .Or (a :: b :: rest) pos) (vOr ta tb) :=
  v_pe (pe_or ha hb) fun F M G σ H e Q' Q hs hr q o => ⟨F, M, G, e, _, hs, hr, q, fun x H1 F1 M1 d s1 r1 d1 q1 => by
    obtain ⟨c, rfl, q1⟩ := q1
    cases d1
    refine ⟨c, rfl, ?_⟩
    cases c with
    | true => rw [if_pos rfl] at q1 ⊢; exact o _ H1 F1 M1 _ s1 r1 (.bl true) q1
    | false => rw [if_neg Bool.false_ne_true] at q1 ⊢; exact ⟨F1, M1, G, e, Q', hs.up s1, r1, q1, o.up s1⟩⟩
theorem v_not (ha : VE X a ta) : VE X (.UnaryOp .Not a pos) (vNot ta) :=
  v_pe (pe_not ha) fun F M G σ H e Q' Q hs hr q o => ⟨F, M, G, e, _, hs, hr, q, fun x H1 F1 M1 d s1 r1 d1 q1 => by
    obtain ⟨c, rfl, q1⟩ := q1
    cases d1
    exact ⟨c, rfl, o _ H1 F1 M1 _ s1 r1 (.bl _) q1⟩⟩
theorem v_if {c : Expr} (hc : VT X c tA) (ha : VE X a ta) (hb : VE X b tb) : VE X (.IfExp c a b pos) (vIf tA ta tb) :=
  v_pe (pe_ifExp hc ha hb) fun F M G σ H e Q' Q hs hr q o => ⟨F, M, G, e, _, hs, hr, q, fun c H1 F1 M1 s1 r1 q1 => by
    cases c with
    | true => rw [if_pos rfl] at q1 ⊢; exact ⟨F1, M1, G, e, Q', hs.up s1, r1, q1, o.up s1⟩
    | false => rw [if_neg Bool.false_ne_true] at q1 ⊢; exact ⟨F1, M1, G, e, Q', hs.up s1, r1, q1, o.up s1⟩⟩
@[simp] def vAndT (t u : VTT) : VTT := fun e M Q => t e M fun c M1 => if c = true then u e M1 Q else Q false M1
@[simp] def vOrT (t u : VTT) : VTT := fun e M Q => t e M fun c M1 => if c = true then Q true M1 else u e M1 Q
@[simp] def vNotT (t : VTT) : VTT := fun e M Q => t e M fun c M1 => Q (!c) M1
theorem t_pw (h : VW X a tA) : VT X a tA := h.pt
theorem t_and1 (ha : VT X a tA) : VW X (.BoolOp .And [a] pos) tA := pw_and1 ha
theorem t_or1 (ha : VT X a tA) : VW X (.BoolOp .Or [a] pos) tA := pw_or1 ha
theorem t_and (ha : VT X a tA) (hb : VW X (.BoolOp .And (b :: rest) pos) tB) : VW X (.BoolOp .And (a :: b :: rest) pos) (vAndT tA tB) :=
  PW_imp (pw_and ha hb) fun σ H Q ⟨F, M, G, e, Q', hs, hr, q, o⟩ => ⟨F, M, G, e, _, hs, hr, q, fun c H1 F1 M1 s1 r1 q1 => by
    cases c with
    | true => rw [if_pos rfl] at q1 ⊢; exact ⟨F1, M1, G, e, Q', hs.up s1, r1, q1, o.up s1⟩
    | false => rw [if_neg Bool.false_ne_true] at q1 ⊢; exact o _ H1 F1 M1 s1 r1 q1⟩
theorem t_or (ha : VT X a tA) (hb : VW X (.BoolOp .Or (b :: rest) pos) tB) : VW X (.BoolOp .Or (a :: b :: rest) pos) (vOrT tA tB) :=
  PW_imp (pw_or ha hb) fun σ H Q ⟨F, M, G, e, Q', hs, hr, q, o⟩ => ⟨F, M, G, e, _, hs, hr, q, fun c H1 F1 M1 s1 r1 q1 => by
    cases c with
    | true => rw [if_pos rfl] at q1 ⊢; exact o _ H1 F1 M1 s1 r1 q1
    | false => rw [if_neg Bool.false_ne_true] at q1 ⊢; exact ⟨F1, M1, G, e, Q', hs.up s1, r1, q1, o.up s1⟩⟩
theorem t_not (ha : VT X a tA) : VT X (.UnaryOp .Not a pos) (vNotT tA) :=
  PT_imp (pt_not ha) fun σ H Q ⟨F, M, G, e, Q', hs, hr, q, o⟩ => ⟨F, M, G, e, _, hs, hr, q, fun c H1 F1 M1 s1 r1 q1 => o _ H1 F1 M1 s1 r1 q1⟩
@[simp] def vChain (r r' : VR2) (ta tb tc : VTE) : VTE := fun e M Q => ta e M fun x M1 => tb e M1 fun y M2 => r x y M2 fun z M3 => ∃ k, z = .bl k ∧ if k = true then tc e M3 fun w M4 => r' y w M4 Q else Q (.bl false) M3

theorem v_chain {c : Expr} {tc : VTE} {op op' : CmpOp} {r r' : VR2} (ho : OpR X (compareOp op) (l2 X.K r)) (ho' : OpR X (compareOp op') (l2 X.K r')) (ha : VE X a ta) (hb : VE X b tb) (hc : VE X c tc)
    (hm : lastMarks [op, op'] [b, c] = false := by with_unfolding_all rfl) : VE X (.Compare a [op, op'] [b, c] pos) (vChain r r' ta tb tc) :=
  v_pe (pe_chain ho ho' ha hb hc hm) fun F M G σ H e Q' Q hs hr q o => ⟨F, M, G, e, _, hs, hr, q, fun x H1 F1 M1 d s1 r1 d1 q1 => ⟨F1, M1, G, e, _, hs.up s1, r1, q1, fun y H2 F2 M2 d' s2 r2 d2 q2 => ⟨F2, M2, G, d, d', _, r2, d1.up s2, d2, q2, fun z H3 F3 M3 dz s3 r3 d3 q3 => by
    obtain ⟨k, rfl, q3⟩ := q3
    cases d3
    refine ⟨k, rfl, ?_⟩
    cases k with
    | true =>
      rw [if_pos rfl] at q3 ⊢
      exact ⟨F3, M3, G, e, _, hs.up ((s1.trans s2).trans s3), r3, q3, fun w H4 F4 M4 dw s4 r4 d4 q4 => ⟨F4, M4, G, d', dw, Q', r4, d2.up (s3.trans s4), d4, q4, o.up (((s1.trans s2).trans s3).trans s4)⟩⟩
    | false =>
      rw [if_neg Bool.false_ne_true] at q3 ⊢
      exact o _ H3 F3 M3 _ ((s1.trans s2).trans s3) r3 (.bl false) q3⟩⟩⟩
theorem t_chain {c : Expr} {tc : VTE} {op op' : CmpOp} {r r' : VR2} (ho : OpR X (compareOp op) (l2 X.K r)) (ho' : OpR X (compareOp op') (l2 X.K r')) (ha : VE X a ta) (hb : VE X b tb) (hc : VE X c tc)
    (hm : lastMarks [op, op'] [b, c] = false := by with_unfolding_all rfl) : VT X (.Compare a [op, op'] [b, c] pos) (vTest (vChain r r' ta tb tc)) :=
  PT_imp (pt_chain ho ho' ha hb hc hm) fun σ H Q ⟨F, M, G, e, Q', hs, hr, q, o⟩ => ⟨F, M, G, e, _, hs, hr, q, fun x H1 F1 M1 d s1 r1 d1 q1 => ⟨F1, M1, G, e, _, hs.up s1, r1, q1, fun y H2 F2 M2 d' s2 r2 d2 q2 => ⟨F2, M2, G, d, d', _, r2, d1.up s2, d2, q2, fun z H3 F3 M3 dz s3 r3 d3 q3 => by
    obtain ⟨k, rfl, q3⟩ := q3
    cases d3
    refine ⟨k, rfl, ?_⟩
    cases k with
    | true =>
      rw [if_pos rfl] at q3 ⊢
      refine ⟨F3, M3, G, e, _, hs.up ((s1.trans s2).trans s3), r3, q3, fun w H4 F4 M4 dw s4 r4 d4 q4 => ⟨F4, M4, G, d', dw, _, r4, d2.up (s3.trans s4), d4, q4, fun u H5 F5 M5 du s5 r5 d5 q5 => ?_⟩⟩
      obtain ⟨k, rfl, q5⟩ := q5
      cases d5
      exact ⟨k, rfl, o k H5 F5 M5 ((((s1.trans s2).trans s3).trans s4).trans s5) r5 q5⟩
    | false =>
      rw [if_neg Bool.false_ne_true] at q3 ⊢
      obtain ⟨k, e, q5⟩ := q3
      cases e
      exact ⟨false, rfl, o _ H3 F3 M3 ((s1.trans s2).trans s3) r3 q5⟩⟩⟩⟩
end
end VL
namespace VL
open PySem PySem.Spec L2

mutual
def py : D → PyData
  | .non => .none
  | .bl b => .bool b
  | .int i => .int i
  | .str x => .str x
  | .lst xs => .list (pys xs)
  | .tup xs => .tuple (pys xs)
  | .obj _ => .none
  | .rd xs => .list (pys xs)
def pys : List D → List PyData
  | [] => []
  | x :: xs => py x :: pys xs
end
/-- data of depth n at most, no object in it -/
def Sh : Nat → D → Prop
  | _, .non => True
  | _, .bl _ => True
  | _, .int _ => True
  | _, .str x => PyData.strOk x = true
  | 0, .lst _ => False
  | 0, .tup _ => False
  | n + 1, .lst xs => ∀ x ∈ xs, Sh n x
  | n + 1, .tup xs => ∀ x ∈ xs, Sh n x
  | 0, .rd _ => False
  | n + 1, .rd xs => ∀ x ∈ xs, Sh n x
  | _, .obj _ => False
theorem sh_int {n : Nat} {i : Int} : Sh n (.int i) := by cases n <;> trivial
theorem sh_bl {n : Nat} {i : Bool} : Sh n (.bl i) := by cases n <;> trivial
theorem sh_non {n : Nat} : Sh n .non := by cases n <;> trivial
theorem sh_str {n : Nat} {x : Str} (h : PyData.strOk x = true) : Sh n (.str x) := by cases n <;> exact h
theorem sh_lst {n : Nat} {xs : List D} (h : ∀ x ∈ xs, Sh n x) : Sh (n + 1) (.lst xs) := h
theorem sh_tup {n : Nat} {xs : List D} (h : ∀ x ∈ xs, Sh n x) : Sh (n + 1) (.tup xs) := h
theorem pys_len : ∀ xs : List D, (pys xs).length = xs.length
  | [] => rfl
  | x :: xs => by simp [pys, pys_len xs]
theorem sh_py : ∀ (n : Nat) (d : D), Sh n d → (py d).canLay0 = true ∧ (py d).depth ≤ n := by
  have go : ∀ (n : Nat), (∀ d : D, Sh n d → (py d).canLay0 = true ∧ (py d).depth ≤ n) → ∀ xs : List D, (∀ x ∈ xs, Sh n x) → PyData.canLayAll0 (pys xs) = true ∧ PyData.depthAll (pys xs) ≤ n := by
    intro n ih xs
    induction xs with
    | nil => intro _; simp [pys, PyData.canLayAll0, PyData.depthAll]
    | cons x xs ih2 =>
      intro h
      obtain ⟨a, b⟩ := ih x (h x List.mem_cons_self)
      obtain ⟨c, d⟩ := ih2 fun y hy => h y (List.mem_cons_of_mem _ hy)
      simp only [pys, PyData.canLayAll0, PyData.depthAll, a, c, Bool.and_self, true_and]
      omega
  intro n
  induction n with
  | zero =>
    intro d h
    cases d with
    | non => simp [py, PyData.canLay0, PyData.depth]
    | bl b => simp [py, PyData.canLay0, PyData.depth]
    | int b => simp [py, PyData.canLay0, PyData.depth]
    | str x => have h' : PyData.strOk x = true := h; simp [py, PyData.canLay0, PyData.depth, h']
    | lst xs => exact h.elim
    | tup xs => exact h.elim
    | rd xs => exact h.elim
    | obj a => exact h.elim
  | succ n ih =>
    intro d h
    cases d with
    | non => simp [py, PyData.canLay0, PyData.depth]
    | bl b => simp [py, PyData.canLay0, PyData.depth]
    | int b => simp [py, PyData.canLay0, PyData.depth]
    | str x => have h' : PyData.strOk x = true := h; simp [py, PyData.canLay0, PyData.depth, h']
    | lst xs =>
      obtain ⟨a, b⟩ := go n ih xs h
      simp only [py, PyData.canLay0, PyData.depth, a, true_and]
      omega
    | tup xs =>
      obtain ⟨a, b⟩ := go n ih xs h
      simp only [py, PyData.canLay0, PyData.depth, a, true_and]
      omega
    | rd xs =>
      obtain ⟨a, b⟩ := go n ih xs h
      simp only [py, PyData.canLay0, PyData.depth, a, true_and]
      omega
    | obj a => exact h.elim
theorem sh_shaped {n : Nat} {d : D} (h : Sh n d) (hn : n ≤ 64) : SeqAt.shaped (py d) = true := by
  obtain ⟨a, b⟩ := sh_py n d h
  unfold SeqAt.shaped
  rw [a, Bool.true_and]
  exact decide_eq_true (by omega)
mutual
def noObj : D → Bool
  | .obj _ => false
  | .lst xs => noObjs xs
  | .tup xs => noObjs xs
  | .rd xs => noObjs xs
  | _ => true
def noObjs : List D → Bool
  | [] => true
  | x :: xs => noObj x && noObjs xs
end
theorem noObjs_of : ∀ {xs : List D}, (∀ x ∈ xs, noObj x = true) → noObjs xs = true
  | [], _ => rfl
  | x :: xs, h => by
    unfold noObjs
    rw [h x List.mem_cons_self, noObjs_of fun y hy => h y (List.mem_cons_of_mem _ hy)] <;> rfl
theorem sh_noObj : ∀ (n : Nat) (d : D), Sh n d → noObj d = true := by
  intro n
  induction n with
  | zero => intro d h; cases d <;> first | rfl | exact h.elim
  | succ n ih =>
    intro d h
    cases d with
    | lst xs => unfold noObj; exact noObjs_of fun x hx => ih x (h x hx)
    | tup xs => unfold noObj; exact noObjs_of fun x hx => ih x (h x hx)
    | rd xs => unfold noObj; exact noObjs_of fun x hx => ih x (h x hx)
    | obj a => exact h.elim
    | _ => rfl
section
variable {K : PySem.W.Frag} {F H : Hp}
mutual
theorem DR.dp (s : Same F H) : ∀ (d : D) (v : V), noObj d = true → DR K F v d → Dp K H v (py d)
  | .non, _, _, h => by cases h; exact .non
  | .bl b, _, _, h => by cases h; exact .bl b
  | .int i, _, _, h => by cases h; exact .int i
  | .str x, _, _, h => by cases h; exact .str x
  | .obj a, _, o, _ => by cases o
  | .lst ds, _, o, h => by
    cases h with
    | lst q r => exact .lst (SqL.of (s _ _ q)) (DRs.dp s ds _ (by unfold noObj at o; exact o) r)
  | .tup ds, _, o, h => by
    cases h with
    | tup q r => exact .tup (same_tup s q) (DRs.dp s ds _ (by unfold noObj at o; exact o) r)
  | .rd ds, _, o, h => by
    cases h with
    | rd q r => exact .lst (s.seq q) (DRs.dp s ds _ (by unfold noObj at o; exact o) r)
theorem DRs.dp (s : Same F H) : ∀ (ds : List D) (vs : List V), noObjs ds = true → DRs K F vs ds → DpAll K H vs (pys ds)
  | [], _, _, h => by cases h; exact .nil
  | d :: ds, _, o, h => by
    have o' := Bool.and_eq_true_iff.mp (show (noObj d && noObjs ds) = true from o)
    cases h with
    | cons q r => exact .cons (DR.dp s d _ o'.1 q) (DRs.dp s ds _ o'.2 r)
end
end
/-- an object that is a list, read -/
def fz (M : Mem) (d : D) : D := match asL M d with
  | some xs => .lst xs
  | none => d
theorem fz_int {M : Mem} {i : Int} : fz M (.int i) = .int i := rfl
theorem fz_bl {M : Mem} {i : Bool} : fz M (.bl i) = .bl i := rfl
theorem fz_non {M : Mem} : fz M .non = .non := rfl
theorem fz_str {M : Mem} {i : Str} : fz M (.str i) = .str i := rfl
theorem fz_lst {M : Mem} {i : List D} : fz M (.lst i) = .lst i := rfl
theorem fz_tup {M : Mem} {i : List D} : fz M (.tup i) = .tup i := rfl
theorem fz_obj {M : Mem} {a : Addr} {xs : List D} (h : M a = some (.lst xs)) : fz M (.obj a) = .lst xs := by unfold fz; rw [asL_obj h]
theorem fz_dp {K : PySem.W.Frag} {F G H : Hp} {M : Mem} {v : V} {d : D} {n : Nat} (r : Rel K F M G H) (h : DR K F v d) (s : Sh n (fz M d)) : Dp K H v (py (fz M d)) := by
  cases e : asL M d with
  | none =>
    have e2 : fz M d = d := by unfold fz; rw [e]
    rw [e2] at s ⊢
    exact DR.dp r.sub d v (sh_noObj n d s) h
  | some xs =>
    have e2 : fz M d = .lst xs := by unfold fz; rw [e]
    rw [e2] at s ⊢
    obtain ⟨a, vs, rfl, q, z⟩ := asL_at r h e
    exact .lst q (DRs.dp r.sub xs vs (by have := sh_noObj n _ s; unfold noObj at this; exact this) z)

def eqD (x y : D) : Bool := PyData.eqv (py x) (py y)
def eqDs (x y : List D) : Bool := PyData.eqvAll (pys x) (pys y)
theorem eqD_int {i j : Int} : eqD (.int i) (.int j) = decide (i = j) := by simp only [eqD, py, PyData.eqv, Bool.beq_eq_decide_eq]
theorem eqD_bl {i j : Bool} : eqD (.bl i) (.bl j) = (i == j) := by simp [eqD, py, PyData.eqv]
theorem eqD_str {i j : Str} : eqD (.str i) (.str j) = decide (i = j) := by simp only [eqD, py, PyData.eqv, Bool.beq_eq_decide_eq]
theorem eqD_lst {i j : List D} : eqD (.lst i) (.lst j) = eqDs i j := by simp [eqD, eqDs, py, PyData.eqv]
theorem eqD_tup {i j : List D} : eqD (.tup i) (.tup j) = eqDs i j := by simp [eqD, eqDs, py, PyData.eqv]
theorem eqD_nn : eqD .non .non = true := by simp [eqD, py, PyData.eqv]
theorem eqDs_nil : eqDs [] [] = true := by simp [eqDs, pys, PyData.eqvAll]
theorem eqDs_cons {x y : D} {xs ys : List D} : eqDs (x :: xs) (y :: ys) = (eqD x y && eqDs xs ys) := by simp [eqDs, eqD, pys, PyData.eqvAll]
theorem eqDs_nc {y : D} {ys : List D} : eqDs [] (y :: ys) = false := by simp [eqDs, pys, PyData.eqvAll]
theorem eqDs_cn {y : D} {ys : List D} : eqDs (y :: ys) [] = false := by simp [eqDs, pys, PyData.eqvAll]
theorem eqD_n_int {i : Int} : eqD .non (.int i) = false := by simp [eqD, py, PyData.eqv]
theorem eqD_int_n {i : Int} : eqD (.int i) .non = false := by simp [eqD, py, PyData.eqv]
theorem eqD_n_tup {i : List D} : eqD .non (.tup i) = false := by simp [eqD, py, PyData.eqv]
theorem eqD_tup_n {i : List D} : eqD (.tup i) .non = false := by simp [eqD, py, PyData.eqv]
theorem eqD_n_str {i : Str} : eqD .non (.str i) = false := by simp [eqD, py, PyData.eqv]
theorem eqD_str_n {i : Str} : eqD (.str i) .non = false := by simp [eqD, py, PyData.eqv]
theorem eqD_int_str {i : Int} {j : Str} : eqD (.int i) (.str j) = false := by simp [eqD, py, PyData.eqv]
theorem eqD_str_int {i : Int} {j : Str} : eqD (.str j) (.int i) = false := by simp [eqD, py, PyData.eqv]
theorem eqD_tup_str {i : List D} {j : Str} : eqD (.tup i) (.str j) = false := by simp [eqD, py, PyData.eqv]
theorem eqD_str_tup {i : List D} {j : Str} : eqD (.str j) (.tup i) = false := by simp [eqD, py, PyData.eqv]
theorem eqD_tup_int {i : List D} {j : Int} : eqD (.tup i) (.int j) = false := by simp [eqD, py, PyData.eqv]
theorem eqD_int_tup {i : List D} {j : Int} : eqD (.int j) (.tup i) = false := by simp [eqD, py, PyData.eqv]
theorem eqDs_ints : ∀ {xs ys : List Int}, eqDs (xs.map D.int) (ys.map D.int) = decide (xs = ys)
  | [], [] => by rw [List.map_nil, eqDs_nil, decide_eq_true rfl]
  | [], y :: ys => by rw [List.map_nil, List.map_cons, eqDs_nc]; simp
  | x :: xs, [] => by rw [List.map_nil, List.map_cons, eqDs_cn]; simp
  | x :: xs, y :: ys => by
    rw [List.map_cons, List.map_cons, eqDs_cons, eqDs_ints, eqD_int]
    simp [List.cons.injEq]
theorem eqD_refl {n : Nat} {d : D} (h : Sh n d) : eqD d d = true := PySem.SeqAt.eqv_refl _ (sh_py n d h).1
mutual
/-- plain data: ints, texts, None, tuples, lists of such, no bool: equal only what is the same -/
def numD : D → Bool
  | .int _ => true
  | .str _ => true
  | .non => true
  | .bl _ => false
  | .obj _ => false
  | .rd _ => false
  | .lst xs => numDs xs
  | .tup xs => numDs xs
def numDs : List D → Bool
  | [] => true
  | x :: xs => numD x && numDs xs
end
mutual
theorem eqD_eq : ∀ (x y : D), numD x = true → numD y = true → eqD x y = true → x = y
  | .int i, .int j, _, _, h => by rw [eqD_int] at h; rw [of_decide_eq_true h]
  | .str i, .str j, _, _, h => by rw [eqD_str] at h; rw [of_decide_eq_true h]
  | .non, .non, _, _, _ => rfl
  | .lst xs, .lst ys, a, b, h => by rw [eqD_lst] at h; rw [eqDs_eq xs ys (by unfold numD at a; exact a) (by unfold numD at b; exact b) h]
  | .tup xs, .tup ys, a, b, h => by rw [eqD_tup] at h; rw [eqDs_eq xs ys (by unfold numD at a; exact a) (by unfold numD at b; exact b) h]
  | .bl _, _, a, _, _ => by unfold numD at a; cases a
  | .obj _, _, a, _, _ => by unfold numD at a; cases a
  | .rd _, _, a, _, _ => by unfold numD at a; cases a
  | .int _, .bl _, _, b, _ => by unfold numD at b; cases b
  | .int _, .obj _, _, b, _ => by unfold numD at b; cases b
  | .int _, .rd _, _, b, _ => by unfold numD at b; cases b
  | .str _, .bl _, _, b, _ => by unfold numD at b; cases b
  | .str _, .obj _, _, b, _ => by unfold numD at b; cases b
  | .str _, .rd _, _, b, _ => by unfold numD at b; cases b
  | .non, .bl _, _, b, _ => by unfold numD at b; cases b
  | .non, .obj _, _, b, _ => by unfold numD at b; cases b
  | .non, .rd _, _, b, _ => by unfold numD at b; cases b
  | .lst _, .bl _, _, b, _ => by unfold numD at b; cases b
  | .lst _, .obj _, _, b, _ => by unfold numD at b; cases b
  | .lst _, .rd _, _, b, _ => by unfold numD at b; cases b
  | .tup _, .bl _, _, b, _ => by unfold numD at b; cases b
  | .tup _, .obj _, _, b, _ => by unfold numD at b; cases b
  | .tup _, .rd _, _, b, _ => by unfold numD at b; cases b
  | .int _, .str _, _, _, h => by simp [eqD, py, PyData.eqv] at h
  | .int _, .non, _, _, h => by simp [eqD, py, PyData.eqv] at h
  | .int _, .lst _, _, _, h => by simp [eqD, py, PyData.eqv] at h
  | .int _, .tup _, _, _, h => by simp [eqD, py, PyData.eqv] at h
  | .str _, .int _, _, _, h => by simp [eqD, py, PyData.eqv] at h
  | .str _, .non, _, _, h => by simp [eqD, py, PyData.eqv] at h
  | .str _, .lst _, _, _, h => by simp [eqD, py, PyData.eqv] at h
  | .str _, .tup _, _, _, h => by simp [eqD, py, PyData.eqv] at h
  | .non, .int _, _, _, h => by simp [eqD, py, PyData.eqv] at h
  | .non, .str _, _, _, h => by simp [eqD, py, PyData.eqv] at h
  | .non, .lst _, _, _, h => by simp [eqD, py, PyData.eqv] at h
  | .non, .tup _, _, _, h => by simp [eqD, py, PyData.eqv] at h
  | .lst _, .int _, _, _, h => by simp [eqD, py, PyData.eqv] at h
  | .lst _, .str _, _, _, h => by simp [eqD, py, PyData.eqv] at h
  | .lst _, .non, _, _, h => by simp [eqD, py, PyData.eqv] at h
  | .lst _, .tup _, _, _, h => by simp [eqD, py, PyData.eqv] at h
  | .tup _, .int _, _, _, h => by simp [eqD, py, PyData.eqv] at h
  | .tup _, .str _, _, _, h => by simp [eqD, py, PyData.eqv] at h
  | .tup _, .non, _, _, h => by simp [eqD, py, PyData.eqv] at h
  | .tup _, .lst _, _, _, h => by simp [eqD, py, PyData.eqv] at h
theorem eqDs_eq : ∀ (xs ys : List D), numDs xs = true → numDs ys = true → eqDs xs ys = true → xs = ys
  | [], [], _, _, _ => rfl
  | [], y :: ys, _, _, h => by rw [eqDs_nc] at h; cases h
  | x :: xs, [], _, _, h => by rw [eqDs_cn] at h; cases h
  | x :: xs, y :: ys, a, b, h => by
    rw [eqDs_cons, Bool.and_eq_true] at h
    have a' := Bool.and_eq_true_iff.mp (show (numD x && numDs xs) = true from a)
    have b' := Bool.and_eq_true_iff.mp (show (numD y && numDs ys) = true from b)
    rw [eqD_eq x y a'.1 b'.1 h.1, eqDs_eq xs ys a'.2 b'.2 h.2]
end
theorem numDs_of : ∀ {xs : List D}, (∀ x ∈ xs, numD x = true) → numDs xs = true
  | [], _ => rfl
  | x :: xs, h => by
    unfold numDs
    rw [h x List.mem_cons_self, numDs_of fun y hy => h y (List.mem_cons_of_mem _ hy)] <;> rfl

section
variable {X : Cx}
theorem hu64 {A : Around} {k : Nat} (hr : Room k A) : A.units + 70 < cLine := by have := hr.un; omega
@[simp] def oAdd : VR2 := fun x y M Q => match x, y with
  | .int i, .int j => Q (.int (i + j)) M
  | .str x, .str y => x.length + y.length ≤ sizeLine ∧ Q (.str (x ++ y)) M
  | .tup xs, .tup ys => xs.length + ys.length ≤ sizeLine ∧ Q (.tup (xs ++ ys)) M
  | x, y => ∃ xs ys, asP M x = some xs ∧ asP M y = some ys ∧ xs.length + ys.length ≤ sizeLine ∧ Q (.lst (xs ++ ys)) M
theorem cat_lists {F G H : Hp} {M : Mem} {x y : V} {a b : D} {xs ys : List D} {Q' : VK} {Q : L2.VK} (r : Rel X.K F M G H) (da : DR X.K F x a) (db : DR X.K F y b) (ea : asP M a = some xs) (eb : asP M b = some ys) (hl : xs.length + ys.length ≤ sizeLine)
    (q : Q' (.lst (xs ++ ys)) M) (o : OutE X.K F G Q' Q) : rCat x y H Q := by
  obtain ⟨p, vs, rfl, hp, dv⟩ := asP_at r da ea
  obtain ⟨p', ws, rfl, hp', dw⟩ := asP_at r db eb
  refine ⟨p, p', vs, ws, rfl, rfl, hp, hp', by rw [dv.len, dw.len]; exact hl, fun n hn => ?_⟩
  have s := r.sF (o := .lst (vs ++ ws)) hn
  exact o _ _ _ _ _ s (r.newF hn) (.lst upd_same ((dv.app dw).up s)) q
theorem o_add : OpR X (binaryOp .Add) (l2 X.K oAdd) := by
  intro pins s σ H x y v u Q I rx ry ⟨F, M, G, a, b, Q', r, da, db, q, o⟩
  have lists : (∃ xs ys, asP M a = some xs ∧ asP M b = some ys ∧ xs.length + ys.length ≤ sizeLine ∧ Q' (.lst (xs ++ ys)) M) → wpAny (model X.prog X.w) X.A (binaryOp .Add v u) (EP X pins σ Q) X.xe s := fun ⟨xs, ys, ea, eb, hl, q⟩ =>
    op_cat pins s σ H x y v u Q I rx ry (cat_lists r da db ea eb hl q o)
  cases a with
  | int i =>
    cases b with
    | int j => cases da; cases db; exact op_add pins s σ H _ _ v u Q I rx ry ⟨i, j, rfl, rfl, o _ H F M _ (Same.refl F) r (.int _) q⟩
    | _ => exact lists q
  | str i =>
    cases b with
    | str j => cases da; cases db; exact op_add_str pins s σ H _ _ v u Q I rx ry ⟨i, j, rfl, rfl, q.1, o _ H F M _ (Same.refl F) r (.str _) q.2⟩
    | _ => exact lists q
  | tup i =>
    cases b with
    | tup j =>
      cases da with
      | tup h1 z1 =>
        cases db with
        | tup h2 z2 =>
          refine op_catA pins s σ H _ _ v u Q I rx ry ⟨_, _, _, _, rfl, rfl, same_tup r.sub h1, same_tup r.sub h2, by rw [z1.len, z2.len]; exact q.1, fun e => ?_, fun e e2 => ?_, fun e e2 p hp => ?_⟩
          · subst e
            have : i = [] := List.eq_nil_of_length_eq_zero (z1.len.symm)
            subst this
            exact o _ H F M _ (Same.refl F) r (.tup h2 z2) q.2
          · subst e2
            have : j = [] := List.eq_nil_of_length_eq_zero (z2.len.symm)
            subst this
            have q2 := q.2
            rw [List.append_nil] at q2
            exact o _ H F M _ (Same.refl F) r (.tup h1 z1) q2
          · exact o _ _ _ _ _ (r.sF hp) (r.newF hp) (.tup (SqT.of upd_same) ((z1.app z2).up (r.sF hp))) q.2
    | _ => exact lists q
  | _ => exact lists q
@[simp] def oSub : VR2 := fun x y M Q => ∃ i j, x = .int i ∧ y = .int j ∧ Q (.int (i - j)) M
theorem of_int2 {f : Value → Value → Sem Value} {C : Int → Int → Prop} {g : Int → Int → Int} (h : OpR X f (rI C fun i j => .int (g i j))) : OpR X f (l2 X.K fun x y M Q => ∃ i j, x = .int i ∧ y = .int j ∧ C i j ∧ Q (.int (g i j)) M) :=
  OpR_imp h fun x y H Q ⟨F, M, G, a, b, Q', r, da, db, q, o⟩ => by
    obtain ⟨i, j, rfl, rfl, c, q⟩ := q
    cases da; cases db
    exact ⟨i, j, rfl, rfl, c, o _ H F M _ (Same.refl F) r (.int _) q⟩
theorem of_int2b {f : Value → Value → Sem Value} {g : Int → Int → Bool} (h : OpR X f (rI0 fun i j => .bl (g i j))) : OpR X f (l2 X.K fun x y M Q => ∃ i j, x = .int i ∧ y = .int j ∧ Q (.bl (g i j)) M) :=
  OpR_imp h fun x y H Q ⟨F, M, G, a, b, Q', r, da, db, q, o⟩ => by
    obtain ⟨i, j, rfl, rfl, q⟩ := q
    cases da; cases db
    exact ⟨i, j, rfl, rfl, o _ H F M _ (Same.refl F) r (.bl _) q⟩
theorem o_sub : OpR X (binaryOp .Sub) (l2 X.K oSub) :=
  OpR_imp op_sub fun x y H Q ⟨F, M, G, a, b, Q', r, da, db, q, o⟩ => by
    obtain ⟨i, j, rfl, rfl, q⟩ := q
    cases da; cases db
    exact ⟨i, j, rfl, rfl, o _ H F M _ (Same.refl F) r (.int _) q⟩
/-- a factor is short, or both together are not too long -/
def MulOk (i j : Int) : Prop := i.natAbs < 18446744073709551616 ∨ j.natAbs < 18446744073709551616 ∨ CMulW i j
@[simp] def oMulI : VR2 := fun x y M Q => ∃ i j, x = .int i ∧ y = .int j ∧ MulOk i j ∧ Q (.int (i * j)) M
theorem MulOk.ok {i j : Int} (h : MulOk i j) : PySem.IntMulOk i j := by
  have e : (18446744073709551616 : Nat) = 2 ^ 64 := by decide
  rcases h with h | h | h
  · exact CMul.ok (.inl (by omega))
  · exact CMul.ok (.inr (by omega))
  · exact h.ok
theorem o_mulI : OpR X (binaryOp .Mult) (l2 X.K oMulI) := of_int2 (opI fun _ _ _ _ _ _ _ hc q => PyProof.Rows.mul_int q (MulOk.ok hc))
/-- a list times an int -/
def oRep : VR2 := fun x y M Q => ∃ xs k, asP M x = some xs ∧ y = .int k ∧ -(2 ^ 63) ≤ k ∧ k < 2 ^ 63 ∧ xs.length * k.toNat ≤ sizeLine ∧ Q (.lst (List.replicate k.toNat xs).flatten) M
theorem DRs.rep {K : PySem.W.Frag} {F : Hp} {vs : List V} {ds : List D} (h : DRs K F vs ds) : ∀ n : Nat, DRs K F (List.replicate n vs).flatten (List.replicate n ds).flatten
  | 0 => .nil
  | n + 1 => by
    rw [List.replicate_succ, List.replicate_succ, List.flatten_cons, List.flatten_cons]
    exact h.app (DRs.rep h n)
theorem o_rep : OpR X (binaryOp .Mult) (l2 X.K oRep) :=
  OpR_imp op_rep fun x y H Q ⟨F, M, G, a, b, Q', r, da, db, q, o⟩ => by
    obtain ⟨xs, k, ea, rfl, h1, h2, hl, q⟩ := q
    cases db
    obtain ⟨p, vs, rfl, hp, dv⟩ := asP_at r da ea
    refine ⟨p, k, vs, rfl, rfl, hp, h1, h2, by rw [dv.len]; exact hl, fun n hn => ?_⟩
    exact o _ _ _ _ _ (r.sF hn) (r.newF hn) (.lst upd_same ((dv.rep _).up (r.sF hn))) q
@[simp] def oFdiv : VR2 := fun x y M Q => ∃ i j, x = .int i ∧ y = .int j ∧ (0 < j ∧ j.natAbs.log2 < 9000) ∧ Q (.int (i / j)) M
theorem o_fdiv : OpR X (binaryOp .FloorDiv) (l2 X.K oFdiv) := of_int2 (C := CDivW) op_fdivW
@[simp] def oMod : VR2 := fun x y M Q => ∃ i j, x = .int i ∧ y = .int j ∧ 0 < j ∧ Q (.int (i % j)) M
theorem o_mod : OpR X (binaryOp .Mod) (l2 X.K oMod) := of_int2 op_mod
@[simp] def oModN : VR2 := fun x y M Q => ∃ i j, x = .int i ∧ y = .int j ∧ j ≠ 0 ∧ Q (.int (i.fmod j)) M
theorem o_modN : OpR X (binaryOp .Mod) (l2 X.K oModN) := of_int2 op_modN
def PowOk (i j : Int) : Prop := 0 ≤ j ∧ j ≤ 1000000 ∧ i.natAbs.log2 ≤ 1000000 ∧ ((i.natAbs.log2 + 1 : Nat) : Int) * j ≤ 134217728
@[simp] def oPow : VR2 := fun x y M Q => ∃ i j, x = .int i ∧ y = .int j ∧ PowOk i j ∧ Q (.int (i ^ j.toNat)) M
theorem PowOk.ok {i j : Int} (h : PowOk i j) : (Builtin.Int.intBits i : Int) * j ≤ 2 ^ 27 := by
  obtain ⟨h0, h1, h2, h3⟩ := h
  have b : (Builtin.Int.intBits i : Int) ≤ ((i.natAbs.log2 + 1 : Nat) : Int) := by
    unfold Builtin.Int.intBits
    split <;> omega
  have := Int.mul_le_mul_of_nonneg_right b h0
  have e : (2 : Int) ^ 27 = 134217728 := by decide
  omega
theorem o_pow : OpR X (binaryOp .Pow) (l2 X.K oPow) := of_int2 (opI fun _ _ _ _ _ _ _ hc q => PyProof.Rows.pow_int hc.1 hc.ok q)
@[simp] def oNeg : VR1 := fun x M Q => ∃ i, x = .int i ∧ Q (.int (-i)) M
theorem o_neg : UnR X (unaryOp .USub) (l1 X.K oNeg) := UnR_imp un_neg fun x H Q ⟨F, M, G, a, Q', r, da, q, o⟩ => by
  obtain ⟨i, rfl, q⟩ := q
  cases da
  exact ⟨i, rfl, o _ H F M _ (Same.refl F) r (.int _) q⟩
@[simp] def oLt : VR2 := fun x y M Q => ∃ i j, x = .int i ∧ y = .int j ∧ Q (.bl (decide (i < j))) M
@[simp] def oLe : VR2 := fun x y M Q => ∃ i j, x = .int i ∧ y = .int j ∧ Q (.bl (decide (i ≤ j))) M
@[simp] def oGt : VR2 := fun x y M Q => ∃ i j, x = .int i ∧ y = .int j ∧ Q (.bl (decide (j < i))) M
@[simp] def oGe : VR2 := fun x y M Q => ∃ i j, x = .int i ∧ y = .int j ∧ Q (.bl (decide (j ≤ i))) M
theorem o_lt : OpR X (compareOp .Lt) (l2 X.K oLt) := of_int2b op_lt
theorem o_le : OpR X (compareOp .LtE) (l2 X.K oLe) := of_int2b op_le
theorem o_gt : OpR X (compareOp .Gt) (l2 X.K oGt) := of_int2b op_gt
theorem o_ge : OpR X (compareOp .GtE) (l2 X.K oGe) := of_int2b op_ge
def oEq : VR2 := fun x y M Q => (∃ a b, x = .str a ∧ y = .str b ∧ Q (.bl (decide (a = b))) M) ∨ (Sh 30 (fz M x) ∧ Sh 30 (fz M y) ∧ Q (.bl (eqD (fz M x) (fz M y))) M)
def oNe : VR2 := fun x y M Q => (∃ a b, x = .str a ∧ y = .str b ∧ Q (.bl (!decide (a = b))) M) ∨ (Sh 30 (fz M x) ∧ Sh 30 (fz M y) ∧ Q (.bl (!eqD (fz M x) (fz M y))) M)
theorem dec_strV {a b : Str} : decide (V.str a = V.str b) = decide (a = b) := by
  by_cases h : a = b
  · rw [h, decide_eq_true rfl, decide_eq_true rfl]
  · rw [decide_eq_false h, decide_eq_false fun z => h (V.str.inj z)]
theorem o_eq {k : Nat} (hr : Room k X.A) : OpR X (compareOp .Eq) (l2 X.K oEq) := fun pins s σ H x y v u Q I rx ry ⟨F, M, G, a, b, Q', r, da, db, q, o⟩ => by
  rcases q with ⟨i, j, rfl, rfl, q⟩ | ⟨s1, s2, q⟩
  · cases da; cases db
    exact op_eq pins s σ H _ _ v u Q I rx ry ⟨rfl, by rw [dec_strV]; exact o _ H F M _ (Same.refl F) r (.bl _) q⟩
  · exact op_eqD hr.units pins s σ H x y v u Q I rx ry ⟨_, _, fz_dp r da s1, fz_dp r db s2, sh_shaped s1 (by decide), sh_shaped s2 (by decide), o _ H F M _ (Same.refl F) r (.bl _) q⟩
theorem o_ne {k : Nat} (hr : Room k X.A) : OpR X (compareOp .NotEq) (l2 X.K oNe) := fun pins s σ H x y v u Q I rx ry ⟨F, M, G, a, b, Q', r, da, db, q, o⟩ => by
  rcases q with ⟨i, j, rfl, rfl, q⟩ | ⟨s1, s2, q⟩
  · cases da; cases db
    exact op_ne pins s σ H _ _ v u Q I rx ry ⟨rfl, by rw [dec_strV]; exact o _ H F M _ (Same.refl F) r (.bl _) q⟩
  · exact op_neD hr.units pins s σ H x y v u Q I rx ry ⟨_, _, fz_dp r da s1, fz_dp r db s2, sh_shaped s1 (by decide), sh_shaped s2 (by decide), o _ H F M _ (Same.refl F) r (.bl _) q⟩
@[simp] def isNon : D → Bool
  | .non => true
  | _ => false
theorem dr_non {K : PySem.W.Frag} {F : Hp} {v : V} {d : D} (h : DR K F v d) : decide (v = .non) = isNon d := by
  cases h <;> first | rfl | exact decide_eq_false (fun z => nomatch z) | exact decide_eq_true rfl
@[simp] def oIs : VR2 := fun x y M Q => y = .non ∧ Q (.bl (isNon x)) M
@[simp] def oIsNot : VR2 := fun x y M Q => y = .non ∧ Q (.bl (!isNon x)) M
theorem o_is : OpR X (compareOp .Is) (l2 X.K oIs) := OpR_imp op_isN fun x y H Q ⟨F, M, G, a, b, Q', r, da, db, ⟨e, q⟩, o⟩ => by
  subst e; cases db
  refine ⟨rfl, ?_⟩
  rw [dr_non da]
  exact o _ H F M _ (Same.refl F) r (.bl _) q
theorem o_isNot : OpR X (compareOp .IsNot) (l2 X.K oIsNot) := OpR_imp op_notN fun x y H Q ⟨F, M, G, a, b, Q', r, da, db, ⟨e, q⟩, o⟩ => by
  subst e; cases db
  refine ⟨rfl, ?_⟩
  rw [dr_non da]
  exact o _ H F M _ (Same.refl F) r (.bl _) q
/-- the items of a list or a tuple -/
@[simp] def asI (M : Mem) : D → Option (List D)
  | .tup xs => some xs
  | d => asL M d
def inD (x : D) (ys : List D) : Bool := ys.any fun y => eqD y x
def oIn : VR2 := fun x y M Q => ∃ ys, asI M y = some ys ∧ Sh 30 x ∧ (∀ z ∈ ys, Sh 30 z) ∧ Q (.bl (inD x ys)) M
def oNotIn : VR2 := fun x y M Q => ∃ ys, asI M y = some ys ∧ Sh 30 x ∧ (∀ z ∈ ys, Sh 30 z) ∧ Q (.bl (!inD x ys)) M
theorem any_pys (x : D) : ∀ ys : List D, ((pys ys).any fun z => PyData.eqv z (py x)) = inD x ys
  | [] => rfl
  | y :: ys => by
    have := any_pys x ys
    unfold inD at this ⊢
    simp only [pys, List.any_cons, this, eqD]
theorem asI_cases {M : Mem} {y : D} {ys : List D} (h : asI M y = some ys) : y = .tup ys ∨ asL M y = some ys := by
  cases y with
  | tup xs => cases h; exact .inl rfl
  | _ => exact .inr h
theorem in_core {F G H : Hp} {M : Mem} {x y : V} {a b : D} {ys : List D} {pins : List (Addr × Obj)} {σ : L2.St} {s : Shared} {v u : Value} (I : Inv X pins σ H s) (rx : RelV x v) (ry : RelV y u) (r : Rel X.K F M G H) (da : DR X.K F x a) (db : DR X.K F y b)
    (e : asI M b = some ys) (s1 : Sh 30 a) (s2 : ∀ z ∈ ys, Sh 30 z) : (∃ as, Reads s.heap v (py a) as) ∧ ((∃ bs, Reads s.heap u (.list (pys ys)) bs) ∨ ∃ bs, Reads s.heap u (.tuple (pys ys)) bs) ∧ PyData.canLayAll0 (pys ys) = true ∧ (py a).canLay0 = true := by
  have c := sh_py 31 (.lst ys) s2
  simp only [py, PyData.canLay0] at c
  have c2 := sh_py 30 a s1
  have n1 := sh_noObj 30 a s1
  have n2 : noObjs ys = true := noObjs_of fun z hz => sh_noObj 30 z (s2 z hz)
  refine ⟨Dp.reads I _ _ _ (DR.dp r.sub a x n1 da) rx, ?_, c.1, c2.1⟩
  rcases asI_cases e with rfl | e
  · cases db with
    | tup h z => exact .inr (Dp.reads I _ _ _ (.tup (same_tup r.sub h) (DRs.dp r.sub ys _ n2 z)) ry)
  · obtain ⟨p, vs, rfl, h, z⟩ := asL_at r db e
    exact .inl (Dp.reads I _ _ _ (.lst h (DRs.dp r.sub ys _ n2 z)) ry)
theorem room_in {A : Around} {d : D} {n : Nat} (h : Sh n d) (hn : n ≤ 60) (hu : A.units + 70 < cLine) (k : Nat) : A.units + 1 + min k (py d).depth < cLine := by
  have h1 := (sh_py n d h).2
  have h2 : min k (py d).depth ≤ (py d).depth := Nat.min_le_right _ _
  omega
theorem o_in {k : Nat} (hr : Room k X.A) : OpR X (compareOp .In) (l2 X.K oIn) := by
  intro pins s σ H x y v u Q I rx ry ⟨F, M, G, a, b, Q', r, da, db, ⟨ys, e, s1, s2, q⟩, o⟩
  obtain ⟨⟨as, r1⟩, r2, c1, c2⟩ := in_core I rx ry r da db e s1 s2
  have q2 := o _ H F M _ (Same.refl F) r (.bl _) q
  rw [← any_pys] at q2
  rcases r2 with ⟨bs, r2⟩ | ⟨bs, r2⟩
  · exact SeqAt.in_list_reads r2 r1 c1 c2 (room_in s1 (by decide) (hu64 hr) _) ⟨.bl _, H, I, rfl, q2⟩
  · exact SeqAt.in_tuple_reads r2 r1 c1 c2 (room_in s1 (by decide) (hu64 hr) _) ⟨.bl _, H, I, rfl, q2⟩
theorem o_notIn {k : Nat} (hr : Room k X.A) : OpR X (compareOp .NotIn) (l2 X.K oNotIn) := by
  intro pins s σ H x y v u Q I rx ry ⟨F, M, G, a, b, Q', r, da, db, ⟨ys, e, s1, s2, q⟩, o⟩
  obtain ⟨⟨as, r1⟩, r2, c1, c2⟩ := in_core I rx ry r da db e s1 s2
  have q2 := o _ H F M _ (Same.refl F) r (.bl _) q
  rw [← any_pys] at q2
  rcases r2 with ⟨bs, r2⟩ | ⟨bs, r2⟩
  · exact SeqAt.notIn_list_reads r2 r1 c1 c2 (room_in s1 (by decide) (hu64 hr) _) ⟨.bl _, H, I, rfl, q2⟩
  · exact SeqAt.notIn_tuple_reads r2 r1 c1 c2 (room_in s1 (by decide) (hu64 hr) _) ⟨.bl _, H, I, rfl, q2⟩
end
end VL
namespace VL
open PySem PySem.Spec L2

section
variable {X : Cx} {e a b : Expr} {es : List Expr} {te ta tb : VTE} {t : VTA} {pos : Pos}
@[simp] def vaNil : VTA := fun _ M Q => Q [] M
@[simp] def vaCons (ta : VTE) (tr : VTA) : VTA := fun e M Q => ta e M fun x M1 => tr e M1 fun xs M2 => Q (x :: xs) M2
theorem va_nil : VA X [] vaNil := PA_imp pa_nil fun σ H Q ⟨F, M, G, e, Q', hs, hr, q, o⟩ => o [] H F M [] (Same.refl F) hr .nil q
theorem va_cons (ha : VE X e te) (hr : VA X es t) (hs : starEach (e :: es) X.env = (false, eval e X.env) :: starEach es X.env := by rfl) : VA X (e :: es) (vaCons te t) :=
  PA_imp (pa_cons ha hr hs) fun σ H Q ⟨F, M, G, e, Q', hs, hr, q, o⟩ => ⟨F, M, G, e, _, hs, hr, q, fun x H1 F1 M1 d s1 r1 d1 q1 => ⟨F1, M1, G, e, _, hs.up s1, r1, q1, fun xs H2 F2 M2 ds s2 r2 d2 q2 =>
    o _ H2 F2 M2 _ (s1.trans s2) r2 (.cons (d1.up s2) d2) q2⟩⟩
@[simp] def vTup (t : VTA) : VTE := fun e M Q => t e M fun xs M1 => xs.length ≤ sizeLine ∧ Q (.tup xs) M1
@[simp] def vLst (t : VTA) : VTE := fun e M Q => t e M fun xs M1 => xs.length ≤ sizeLine ∧ Q (.lst xs) M1
/-- a list that may change -/
@[simp] def vLstO (t : VTA) : VTE := fun e M Q => t e M fun xs M1 => xs.length ≤ sizeLine ∧ ∀ p, M1 p = none → Q (.obj p) (mupd M1 p (.lst xs))
theorem v_tup {x1} (h : VA X es t) : VE X (.Tuple es x1 pos) (vTup t) :=
  v_pe (pe_tup h) fun F M G σ H e Q' Q hs hr q o => ⟨F, M, G, e, _, hs, hr, q, fun vs H1 F1 M1 ds s1 r1 d1 q1 => ⟨by rw [d1.len]; exact q1.1, fun p hp =>
    o _ _ _ _ _ (s1.trans (r1.sF hp)) (r1.newF hp) (.tup (SqT.of upd_same) (d1.up (r1.sF hp))) q1.2⟩⟩
theorem v_lst (h : VA X es t) : VE X (.List es pos) (vLst t) :=
  v_pe (pe_lst h) fun F M G σ H e Q' Q hs hr q o => ⟨F, M, G, e, _, hs, hr, q, fun vs H1 F1 M1 ds s1 r1 d1 q1 => ⟨by rw [d1.len]; exact q1.1, fun p hp =>
    o _ _ _ _ _ (s1.trans (r1.sF hp)) (r1.newF hp) (.lst upd_same (d1.up (r1.sF hp))) q1.2⟩⟩
theorem v_lstO (h : VA X es t) : VE X (.List es pos) (vLstO t) :=
  v_pe (pe_lst h) fun F M G σ H e Q' Q hs hr q o => ⟨F, M, G, e, _, hs, hr, q, fun vs H1 F1 M1 ds s1 r1 d1 q1 => ⟨by rw [d1.len]; exact q1.1, fun p hp =>
    o _ _ _ _ _ s1 (r1.newM hp (m := .lst ds) ⟨vs, rfl, d1⟩) (.obj p) (q1.2 p (r1.m0 hp))⟩⟩

theorem DRs.atI {K : PySem.W.Frag} {F : Hp} {vs : List V} {ds : List D} {i : Int} {d : D} (h : DRs K F vs ds) (e : L2.atI ds i = some d) : ∃ v, L2.atI vs i = some v ∧ DR K F v d := by
  unfold L2.atI at e ⊢
  rw [h.len]
  cases q : ixN ds.length i with
  | none => rw [q] at e; cases e
  | some j =>
    rw [q] at e
    exact DRs.geti h e
@[simp] def oIx : VR2 := fun x y M Q => match x, y with
  | .tup xs, .int i => ∃ d, atI xs i = some d ∧ Q d M
  | .str z, .int i => ∃ c, z.length ≤ sizeLine ∧ atI z.cps.toList i = some c ∧ Q (.str ⟨#[c]⟩) M
  | x, .int i => ∃ xs d, asL M x = some xs ∧ atI xs i = some d ∧ Q d M
  | _, _ => False
theorem o_ix : IxR X (l2 X.K oIx) := by
  intro value slice pins s σ H x y v u Q I rx ry ⟨F, M, G, a, b, Q', r, da, db, q, o⟩ hs
  have lists : ∀ i, b = .int i → (∃ xs d, asL M a = some xs ∧ atI xs i = some d ∧ Q' d M) → wpAny (model X.prog X.w) X.A (PyProof.Rows.subscriptTail value slice v u) (EP X pins σ Q) X.xe s := fun i e ⟨xs, d, ea, ei, q2⟩ => by
    subst e; cases db
    obtain ⟨p, vs, rfl, hp, z⟩ := asL_at r da ea
    obtain ⟨w, e1, e2⟩ := z.atI ei
    exact ix_list value slice pins s σ H _ _ v u Q I rx ry ⟨p, vs, i, w, rfl, rfl, hp, e1, o _ H F M _ (Same.refl F) r e2 q2⟩ hs
  cases b with
  | int i =>
    cases a with
    | tup xs =>
      cases da with
      | tup h z =>
        cases db
        obtain ⟨d, ei, q⟩ := q
        obtain ⟨w, e1, e2⟩ := z.atI ei
        exact ix_tup value slice pins s σ H _ _ v u Q I rx ry ⟨_, _, i, w, rfl, rfl, same_tup r.sub h, e1, o _ H F M _ (Same.refl F) r e2 q⟩ hs
    | str z =>
      cases da; cases db
      obtain ⟨c, h1, h2, q⟩ := q
      exact ix_str value slice pins s σ H _ _ v u Q I rx ry ⟨z, i, c, rfl, rfl, h1, h2, o _ H F M _ (Same.refl F) r (.str _) q⟩ hs
    | _ => exact lists i rfl q
  | _ => cases a <;> exact q.elim
theorem v_ix (ha : VE X a ta) (hb : VE X b tb) (hs : PlainIx b := by exact fun _ _ => rfl) : VE X (.Subscript a b pos) (vOp oIx ta tb) :=
  v_pe (pe_ix o_ix ha hb hs) fun F M G σ H e Q' Q hs hr q o => ⟨F, M, G, e, _, hs, hr, q, fun x H1 F1 M1 d s1 r1 d1 q1 => ⟨F1, M1, G, e, _, hs.up s1, r1, q1, fun y H2 F2 M2 d' s2 r2 d2 q2 => ⟨F2, M2, G, d, d', Q', r2, d1.up s2, d2, q2, o.up (s1.trans s2)⟩⟩⟩
@[simp] def vNoPart : VTO := fun _ M Q => Q none M
@[simp] def vPart (t : VTE) : VTO := fun e M Q => t e M fun x M1 => ∃ i, x = .int i ∧ Q (some i) M1
theorem vo_none : VO X none vNoPart := PO_imp po_none fun σ H Q ⟨F, M, G, e, Q', hs, hr, q, o⟩ => o none H F M (Same.refl F) hr q
theorem vo_some (h : VE X e te) : VO X (some e) (vPart te) := PO_imp (po_some h) fun σ H Q ⟨F, M, G, e, Q', hs, hr, q, o⟩ => ⟨F, M, G, e, _, hs, hr, q, fun x H1 F1 M1 d s1 r1 d1 q1 => by
  obtain ⟨i, rfl, q1⟩ := q1
  cases d1
  exact ⟨i, rfl, o _ H1 F1 M1 s1 r1 q1⟩⟩
def cutD {α : Type} (xs : List α) (lo hi : Option Int) : List α := (xs.drop (HT.sIx xs.length 0 lo)).take (HT.sIx xs.length xs.length hi - HT.sIx xs.length 0 lo)
theorem DRs.cut {K : PySem.W.Frag} {F : Hp} {vs : List V} {ds : List D} (h : DRs K F vs ds) (lo hi : Option Int) : DRs K F (cutV vs lo hi) (cutD ds lo hi) := by
  unfold cutV cutD
  rw [h.len]
  exact (h.drop _).take _
theorem cutD_whole {α : Type} {xs : List α} {lo hi : Option Int} (h : HT.sIx xs.length 0 lo = 0 ∧ HT.sIx xs.length xs.length hi = xs.length) : cutD xs lo hi = xs := by
  unfold cutD
  rw [h.1, h.2, Nat.sub_zero, List.drop_zero]
  exact List.take_length
def oSl (x : D) (lo hi : Option Int) (M : Mem) (Q : VK) : Prop := match x with
  | .tup xs => Q (.tup (cutD xs lo hi)) M
  | .str z => z.length ≤ sizeLine ∧ Q (.str (cutS z lo hi)) M
  | x => ∃ xs, asL M x = some xs ∧ Q (.lst (cutD xs lo hi)) M
def lSl (K : PySem.W.Frag) : V → Option Int → Option Int → Hp → L2.VK → Prop := fun x lo hi H Q => ∃ F M G a Q', Rel K F M G H ∧ DR K F x a ∧ oSl a lo hi M Q' ∧ OutE K F G Q' Q
theorem o_sl : SlR X (lSl X.K) := by
  intro pins s σ H x v vl vu lo hi sl Q I rx hs pl pu ⟨F, M, G, a, Q', r, da, q, o⟩
  have lists : (∃ xs, asL M a = some xs ∧ Q' (.lst (cutD xs lo hi)) M) → ∃ T id, typeLookup (.type T) "__getitem__" = pure (some (.builtin id)) ∧ s.TypeIs v T ∧ wpAny (model X.prog X.w) X.A (getItem v (.ref sl)) (EP X pins σ Q) X.xe s := fun ⟨xs, ea, q⟩ => by
    obtain ⟨p, vs, rfl, hp, z⟩ := asL_at r da ea
    exact sl_list pins s σ H _ v vl vu lo hi sl Q I rx hs pl pu ⟨p, vs, rfl, hp, fun n hn => o _ _ _ _ _ (r.sF hn) (r.newF hn) (.lst upd_same ((z.cut lo hi).up (r.sF hn))) q⟩
  cases a with
  | tup xs =>
    cases da with
    | tup h z =>
      refine sl_tupA pins s σ H _ v vl vu lo hi sl Q I rx hs pl pu ⟨_, _, rfl, same_tup r.sub h, fun hw => ?_, fun hw n hn => ?_⟩
      · rw [z.len] at hw
        have q' : Q' (.tup (cutD xs lo hi)) M := q
        rw [cutD_whole hw] at q'
        exact o _ H F M _ (Same.refl F) r (.tup h z) q'
      · exact o _ _ _ _ _ (r.sF hn) (r.newF hn) (.tup (SqT.of upd_same) ((z.cut lo hi).up (r.sF hn))) q
  | str z =>
    cases da
    exact sl_str pins s σ H _ v vl vu lo hi sl Q I rx hs pl pu ⟨z, rfl, q.1, o _ H F M _ (Same.refl F) r (.str _) q.2⟩
  | _ => exact lists q
@[simp] def vSl (te : VTE) (tl th : VTO) : VTE := fun e M Q => te e M fun x M1 => tl e M1 fun l M2 => th e M2 fun h M3 => oSl x l h M3 Q
theorem v_sl {lo hi : Option Expr} {tl th : VTO} {p2 : Pos} (he : VE X e te) (hl : VO X lo tl) (hu : VO X hi th) : VE X (.Subscript e (.Slice lo hi none p2) pos) (vSl te tl th) :=
  v_pe (pe_slice o_sl he hl hu) fun F M G σ H e Q' Q hs hr q o => ⟨F, M, G, e, _, hs, hr, q, fun x H1 F1 M1 d s1 r1 d1 q1 => ⟨F1, M1, G, e, _, hs.up s1, r1, q1, fun l H2 F2 M2 s2 r2 q2 => ⟨F2, M2, G, e, _, hs.up (s1.trans s2), r2, q2, fun h H3 F3 M3 s3 r3 q3 =>
    ⟨F3, M3, G, d, Q', r3, d1.up (s2.trans s3), q3, o.up ((s1.trans s2).trans s3)⟩⟩⟩⟩

variable {x : Str} {p : Pos} {r : VRs}
@[simp] def vCall (r : VRs) (t : VTA) : VTE := fun e M Q => t e M fun xs M1 => r xs M1 Q
theorem v_callB {id : String} (hc : CallR X (.builtin id) (ls X.K r)) (hm : X.mg x = none) (ha : VA X (e :: es) t) (hg : Gl X x := by rfl) (hv : bootBuiltins x = some (.builtin id) := by decide +kernel) (hn : x ≠ "__name__" := by decide) (hdb : (x == ("__debug__" : Str)) = false := by decide)
    (he : starEach (e :: es) X.env = (false, eval e X.env) :: starEach es X.env := by rfl) (hpl : (backTo pos (starEach es X.env)).any (·.1) = false := by rfl) : VE X (.Call (.Name x p) (e :: es) [] pos) (vCall r t) :=
  v_pe (pe_callB hc hg hm hv ha hn hdb he hpl) fun F M G σ H e Q' Q hs hr q o => ⟨F, M, G, e, _, hs, hr, q, fun vs H1 F1 M1 ds s1 r1 d1 q1 => ⟨F1, M1, G, ds, Q', r1, d1, q1, o.up s1⟩⟩
theorem v_callTy {T : String} (hc : CallR X (.type T) (ls X.K r)) (hm : X.mg x = none) (ha : VA X (e :: es) t) (hg : Gl X x := by rfl) (hv : bootBuiltins x = some (.type T) := by decide +kernel) (hn : x ≠ "__name__" := by decide) (hdb : (x == ("__debug__" : Str)) = false := by decide)
    (he : starEach (e :: es) X.env = (false, eval e X.env) :: starEach es X.env := by rfl) (hpl : (backTo pos (starEach es X.env)).any (·.1) = false := by rfl) : VE X (.Call (.Name x p) (e :: es) [] pos) (vCall r t) :=
  v_pe (pe_callTy hc hg hm hv ha hn hdb he hpl) fun F M G σ H e Q' Q hs hr q o => ⟨F, M, G, e, _, hs, hr, q, fun vs H1 F1 M1 ds s1 r1 d1 q1 => ⟨F1, M1, G, ds, Q', r1, d1, q1, o.up s1⟩⟩

variable {st : Stmt} {rest body : List Stmt} {u1 u2 : VTS} {g : VTG}
@[simp] def sNext : VTS := fun D e M => D.nx e M
@[simp] def sSeq (t u : VTS) : VTS := fun D e M => t { D with nx := u D } e M
@[simp] def sDrop (t : VTE) : VTS := fun D e M => t e M fun _ M1 => D.nx e M1
@[simp] def sRet (t : VTE) : VTS := fun D e M => t e M D.rt
@[simp] def sRetN : VTS := fun D _ M => D.rt .non M
@[simp] def sIf (c : VTT) (t u : VTS) : VTS := fun D e M => c e M fun b M1 => if b = true then t D e M1 else u D e M1
@[simp] def sAsg (t : VTE) (g : VTG) : VTS := fun D e M => t e M fun x M1 => g x e M1 D.nx
@[simp] def sNever : VTS := fun _ _ _ => False
theorem vs_ps {st : Stmt} {ts : TS} {t : VTS} (h : PS X st ts) (i : ∀ F M G σ H e D' D, SR X.K F σ e → Rel X.K F M G H → t D' e M → OutD X.K F G D' D → ts D σ H) : VS X st t :=
  PS_imp h fun D σ H ⟨F, M, G, e, D', h1, h2, h3, h4⟩ => i F M G σ H e D' D h1 h2 h3 h4
theorem vss_nil : VSs X [] sNext := PSs_imp pss_nil fun D σ H ⟨F, M, G, e, D', hs, hr, q, o⟩ => o.nx σ H F M e (Same.refl F) hr hs q
theorem vss_one (h : VS X st u1) : VSs X [st] u1 := pss_one h
theorem vss_cons (h1 : VS X st u1) (h2 : VSs X rest u2) : VSs X (st :: rest) (sSeq u1 u2) :=
  PSs_imp (pss_cons h1 h2) fun D σ H ⟨F, M, G, e, D', hs, hr, q, o⟩ => ⟨F, M, G, e, _, hs, hr, q, ⟨fun σ1 H1 F1 M1 e1 s1 r1 z1 q1 => ⟨F1, M1, G, e1, D', z1, r1, q1, o.up s1⟩, o.rt, o.bk, o.ct⟩⟩
theorem vs_pass : VS X (.Pass pos) sNext := vs_ps ps_pass fun F M G σ H e D' D hs hr q o => o.nx σ H F M e (Same.refl F) hr hs q
theorem vs_break : VS X (.Break pos) (fun D e M => D.bk e M) := vs_ps ps_break fun F M G σ H e D' D hs hr q o => o.bk σ H F M e (Same.refl F) hr hs q
theorem vs_continue : VS X (.Continue pos) (fun D e M => D.ct e M) := vs_ps ps_continue fun F M G σ H e D' D hs hr q o => o.ct σ H F M e (Same.refl F) hr hs q
theorem vs_never : VS X st sNever := vs_ps ps_never fun F M G σ H e D' D hs hr q o => q
theorem vss_never : VSs X rest sNever := PSs_imp pss_never fun D σ H ⟨F, M, G, e, D', hs, hr, q, o⟩ => q
theorem vs_expr (he : VE X e te) (hs : swapsWith e none pos.line X.env = pure false := by rfl) : VS X (.Expr e pos) (sDrop te) :=
  vs_ps (ps_expr he hs) fun F M G σ H e D' D hs hr q o => ⟨F, M, G, e, _, hs, hr, q, fun x H1 F1 M1 d s1 r1 d1 q1 => o.nx σ H1 F1 M1 e s1 r1 (hs.up s1) q1⟩
theorem vs_ret (he : VE X e te) : VS X (.Return (some e) pos) (sRet te) := vs_ps (ps_ret he) fun F M G σ H e D' D hs hr q o => ⟨F, M, G, e, _, hs, hr, q, o.rt⟩
theorem vs_retN : VS X (.Return none pos) sRetN := vs_ps ps_retN fun F M G σ H e D' D hs hr q o => o.rt _ H F M _ (Same.refl F) hr .non q
theorem vs_if {c : Expr} {s1 s2 : List Stmt} {tc : VTT} (hc : VT X c tc) (ha : VSs X s1 u1) (hb : VSs X s2 u2) : VS X (.If c s1 s2 pos) (sIf tc u1 u2) :=
  vs_ps (ps_if hc ha hb) fun F M G σ H e D' D hs hr q o => ⟨F, M, G, e, _, hs, hr, q, fun b H1 F1 M1 s1 r1 q1 => by
    cases b with
    | true => rw [if_pos rfl] at q1 ⊢; exact ⟨F1, M1, G, e, D', hs.up s1, r1, q1, o.up s1⟩
    | false => rw [if_neg Bool.false_ne_true] at q1 ⊢; exact ⟨F1, M1, G, e, D', hs.up s1, r1, q1, o.up s1⟩⟩
@[simp] def gN (i : Nat) : VTG := fun d e M Q => Q (e.set i (some d)) M
theorem vg_name {i : Nat} {tg : Expr} (h : PG X tg (gName i)) : VG X tg (gN i) := PG_imp h fun v σ H Q ⟨F, M, G, e, d, Q', hs, hr, dv, q, o⟩ => o _ H F M _ (Same.refl F) hr (hs.put dv i) q
def gNone : VTGs := fun ds e M Q => ds = [] ∧ Q e M
def gMore (t : VTG) (u : VTGs) : VTGs := fun ds e M Q => ∃ d r, ds = d :: r ∧ t d e M fun e1 M1 => u r e1 M1 Q
theorem vgs_nil : VGs X [] gNone := PGs_imp pgs_nil fun v σ H Q ⟨F, M, G, e, d, Q', hs, hr, dv, q, o⟩ => by
  obtain ⟨rfl, q⟩ := q
  cases dv
  exact ⟨rfl, o _ H F M _ (Same.refl F) hr hs q⟩
theorem vgs_cons {us : VTGs} (h1 : VG X e g) (h2 : VGs X es us) (hs : (assignEach (e :: es) X.env).map (·.2) = assign e X.env :: (assignEach es X.env).map (·.2) := by rfl) : VGs X (e :: es) (gMore g us) :=
  PGs_imp (pgs_cons h1 h2 hs) fun v σ H Q ⟨F, M, G, e, d, Q', hs, hr, dv, q, o⟩ => by
    obtain ⟨d, r, rfl, q⟩ := q
    cases dv with
    | cons z zs =>
      exact ⟨_, _, rfl, F, M, G, e, d, _, hs, hr, z, q, fun σ1 H1 F1 M1 e1 s1 r1 hs1 q1 => ⟨F1, M1, G, e1, r, Q', hs1, r1, zs.up s1, q1, o.up s1⟩⟩
@[simp] def gTp (n : Nat) (t : VTGs) : VTG := fun d e M Q => ∃ xs, d = .tup xs ∧ xs.length = n ∧ t xs e M Q
theorem vg_tup {k : Nat} {us : VTGs} {n : Nat} (hc : X.calm = true) (h : VGs X es us) (hn : (assignEach es X.env).length = n := by rfl) (hst : (assignEach es X.env).findIdx? (·.1) = none := by rfl) : VG X (.Tuple es k pos) (gTp n us) :=
  PG_imp (pg_tup hc h hn hst) fun v σ H Q ⟨F, M, G, e, d, Q', hs, hr, dv, q, o⟩ => by
    obtain ⟨xs, rfl, hl, q⟩ := q
    cases dv with
    | tup z zs => exact ⟨_, _, rfl, same_tup hr.sub z, by rw [zs.len]; exact hl, F, M, G, e, xs, Q', hs, hr, zs, q, o⟩
/-- o[i] = v, a list -/
@[simp] def gSubL (to ti : VTE) : VTG := fun d e M Q => to e M fun o M1 => ti e M1 fun i M2 => ∃ p xs k j, o = .obj p ∧ i = .int k ∧ M2 p = some (.lst xs) ∧ ixN xs.length k = some j ∧ Q e (mupd M2 p (.lst (xs.set j d)))
theorem vg_subL {o i : Expr} {to ti : VTE} (ho : VE X o to) (hi : VE X i ti)
    (ha : ∀ v, assign (.Subscript o i pos) X.env v = (do
      let ov ← holding [v] (eval o X.env)
      let iv ← holding [v, ov] (eval i X.env)
      standAt pos
      holding [v, ov, iv] (setItem ov iv v)
      release [v, ov, iv] []) := by intro _; rfl) : VG X (.Subscript o i pos) (gSubL to ti) :=
  PG_imp (pg_sub ho hi set_list ha) fun v σ H Q ⟨F, M, G, e, d, Q', hs, hr, dv, q, o⟩ => ⟨F, M, G, e, _, hs, hr, q, fun x H1 F1 M1 dx s1 r1 d1 q1 => ⟨F1, M1, G, e, _, hs.up s1, r1, q1, fun y H2 F2 M2 dy s2 r2 d2 q2 => by
    obtain ⟨p, xs, k, j, rfl, rfl, hp, hj, q2⟩ := q2
    cases d1; cases d2
    obtain ⟨_, _, ho, e1, vs, rfl, z⟩ := r2.ob p _ hp
    refine ⟨p, vs, k, j, rfl, rfl, e1, by rw [z.len]; exact hj, ?_⟩
    exact o _ _ _ _ _ (s1.trans s2) (r2.wr hp (m := .lst (xs.set j d)) ⟨_, rfl, z.set j (dv.up (s1.trans s2))⟩) (hs.up (s1.trans s2)) q2⟩⟩
theorem vs_asg {tg : Expr} (he : VE X e te) (hg : VG X tg g) (hs : swapsWithSole [tg] e pos.line X.env = pure false := by rfl) (hw : swappedStores [tg] e X.env = pure none := by rfl)
    (h1 : (assignEach [tg] X.env).map (·.2) = [assign tg X.env] := by rfl) : VS X (.Assign [tg] e pos) (sAsg te g) :=
  vs_ps (ps_asg he hg hs hw h1) fun F M G σ H e D' D hs hr q o => ⟨F, M, G, e, _, hs, hr, q, fun x H1 F1 M1 d s1 r1 d1 q1 => ⟨F1, M1, G, e, d, D'.nx, hs.up s1, r1, d1, q1, o.nx.up s1⟩⟩
theorem vs_set {i : Nat} {y : Str} {pos' : Pos} (hN : X.N.Nodup) (hi : X.N[i]? = some y) (hx : Loc X.env.scope y) (he : VE X e te) (hs : swapsWith e (some (.Name y pos')) pos.line X.env = pure false := by rfl)
    (hf : X.fn y = true ∨ X.env.scope.names.lookup y = some .local := by first | exact .inl rfl | exact .inr rfl | assumption) : VS X (.Assign [.Name y pos'] e pos) (sAsg te (gN i)) :=
  vs_ps (ps_set hN hi hx he hs hf) fun F M G σ H e D' D hs hr q o => ⟨F, M, G, e, _, hs, hr, q, fun x H1 F1 M1 d s1 r1 d1 q1 => o.nx _ H1 F1 M1 _ s1 r1 ((hs.up s1).put d1 i) q1⟩
@[simp] def sPar (i j : Nat) (t : VTA) : VTS := fun D e M => t e M fun ds M1 => ∃ v w, ds = [v, w] ∧ D.nx ((e.set i (some v)).set j (some w)) M1
theorem vs_par {i j : Nat} {y z : Str} {px py pt : Pos} {kt k2 pt2} (hc : X.calm = true) (hN : X.N.Nodup) (hi : X.N[i]? = some y) (hj : X.N[j]? = some z) (hij : i ≠ j)
    (hx : X.env.scope.names.lookup y = some .local) (hy : X.env.scope.names.lookup z = some .local) (ha : VA X [a, b] t)
    (hw : swappedStores [.Tuple [.Name y px, .Name z py] kt pt] (.Tuple [a, b] k2 pt2) X.env = pure (some [y, z]))
    (hs : swapsWithSole [.Tuple [.Name y px, .Name z py] kt pt] (.Tuple [a, b] k2 pt2) pos.line X.env = pure false := by rfl) :
    VS X (.Assign [.Tuple [.Name y px, .Name z py] kt pt] (.Tuple [a, b] k2 pt2) pos) (sPar i j t) :=
  vs_ps (ps_par hc hN hi hj hij hx hy ha hw hs) fun F M G σ H e D' D hs hr q o => ⟨F, M, G, e, _, hs, hr, q, fun vs H1 F1 M1 ds s1 r1 d1 q1 => by
    obtain ⟨v, w, rfl, q1⟩ := q1
    cases d1 with
    | cons z1 z2 =>
      cases z2 with
      | cons z2 z3 =>
        cases z3
        exact ⟨_, _, rfl, o.nx _ H1 F1 M1 _ s1 r1 (((hs.up s1).put z1 i).put z2 j) q1⟩⟩
def sWhile (c : VTT) (tb : VTS) : VTS := fun D e M => ∃ W : Nat → VEnv → Mem → Prop, (∃ m, W m e M) ∧ ∀ m e M, W m e M →
  c e M fun b M1 => if b = true then tb { D with nx := fun e' M' => ∃ m', m' < m ∧ W m' e' M', ct := fun e' M' => ∃ m', m' < m ∧ W m' e' M', bk := D.nx } e M1 else D.nx e M1
theorem vs_while {c : Expr} {tc : VTT} {tb : VTS} (hp : PassesOwn (model X.prog X.w) X.A X.env X.xe) (hc : VT X c tc) (hb : VSs X body tb) : VS X (.While c body [] pos) (sWhile tc tb) :=
  vs_ps (ps_while hp hc hb) fun F M G σ H e D' D hs hr ⟨W, ⟨m0, w0⟩, turn⟩ o => by
    refine ⟨fun m σ H => ∃ F1 M1 e1, Same F F1 ∧ SR X.K F1 σ e1 ∧ Rel X.K F1 M1 G H ∧ W m e1 M1, ⟨m0, F, M, e, Same.refl F, hs, hr, w0⟩, fun m σ1 H1 ⟨F1, M1, e1, s1, hs1, r1, w1⟩ => ?_⟩
    refine ⟨F1, M1, G, e1, _, hs1, r1, turn m e1 M1 w1, fun b H2 F2 M2 s2 r2 q2 => ?_⟩
    cases b with
    | true =>
      rw [if_pos rfl] at q2 ⊢
      have nx : OutS X.K F2 G (fun e' M' => ∃ m', m' < m ∧ W m' e' M') (fun σ' H' => ∃ m', m' < m ∧ ∃ F1 M1 e1, Same F F1 ∧ SR X.K F1 σ' e1 ∧ Rel X.K F1 M1 G H' ∧ W m' e1 M1) := fun σ3 H3 F3 M3 e3 s3 r3 hs3 ⟨m', hm, w'⟩ => ⟨m', hm, F3, M3, e3, (s1.trans s2).trans s3, hs3, r3, w'⟩
      exact ⟨fun σ' H' => ∃ m', m' < m ∧ ∃ F1 M1 e1, Same F F1 ∧ SR X.K F1 σ' e1 ∧ Rel X.K F1 M1 G H' ∧ W m' e1 M1, fun σ' H' z => z, F2, M2, G, e1, _, hs1.up s2, r2, q2, ⟨nx, o.rt.up (s1.trans s2), o.nx.up (s1.trans s2), nx⟩⟩
    | false =>
      rw [if_neg Bool.false_ne_true] at q2 ⊢
      exact o.nx σ1 H2 F2 M2 e1 (s1.trans s2) r2 (hs1.up s2) q2
end
end VL
namespace VL
open PySem PySem.Spec L2

structure VIt where
  ds : List D
  ok : Mem → Prop
abbrev VTI := VEnv → Mem → (VIt → Mem → Prop) → Prop
structure VWalk (K : PySem.W.Frag) (F : Hp) (J : It) (w : VIt) : Prop where
  goes : ∀ i H F1 G M, Same F F1 → Rel K F1 M G H → w.ok M → i < w.ds.length → J.go i H
  stops : ∀ H F1 G M, Same F F1 → Rel K F1 M G H → w.ok M → J.stop w.ds.length H
  yields : ∀ i H x H' F1 G M, Same F F1 → Rel K F1 M G H → w.ok M → i < w.ds.length → J.yld i H x H' → ∃ F2 d, Same F1 F2 ∧ Rel K F2 M G H' ∧ w.ds[i]? = some d ∧ DR K F2 x d
theorem VWalk.up {K : PySem.W.Frag} {F F' : Hp} {J : It} {w : VIt} (h : VWalk K F J w) (s : Same F F') : VWalk K F' J w :=
  ⟨fun i H F1 G M s1 => h.goes i H F1 G M (s.trans s1), fun H F1 G M s1 => h.stops H F1 G M (s.trans s1), fun i H x H' F1 G M s1 => h.yields i H x H' F1 G M (s.trans s1)⟩
def lI (K : PySem.W.Frag) (t : VTI) : TI := fun σ H R => ∃ F M G e R', SR K F σ e ∧ Rel K F M G H ∧ t e M R' ∧ ∀ J w H' F' M', Same F F' → Rel K F' M' G H' → VWalk K F' J w → R' w M' → R J H'
def VI (X : Cx) (tg iter : Expr) (t : VTI) : Prop := PI X tg iter (lI X.K t)
section
variable {X : Cx} {tg iter e a b : Expr} {te ta tb : VTE} {t : VTA} {pos : Pos}
theorem PI_imp {t t' : TI} (h : PI X tg iter t) (i : ∀ σ H Q, t' σ H Q → t σ H Q) : PI X tg iter t' := ⟨fun p s σ H Q I w => h.run p s σ H Q I (i _ _ _ w)⟩
/-- a list or a tuple -/
@[simp] def iSeq (te : VTE) : VTI := fun e M R => te e M fun d M1 => ∃ xs, asI M1 d = some xs ∧ R ⟨xs, fun M' => asI M' d = some xs⟩ M1
theorem walk_seq_l {K : PySem.W.Frag} {F : Hp} {d : D} {a : Addr} {xs : List D} (h : ∀ F1 G H M, Same F F1 → Rel K F1 M G H → asI M d = some xs → ∃ vs, SqL K H a vs ∧ DRs K F1 vs xs) : VWalk K F (Itl K a) ⟨xs, fun M => asI M d = some xs⟩ where
  goes := fun i H F1 G M s r ok hi => by
    obtain ⟨vs, q, z⟩ := h F1 G H M s r ok
    have hl : i < vs.length := by rw [z.len]; exact hi
    exact ⟨vs, vs[i], q, by simp [hl]⟩
  stops := fun H F1 G M s r ok => by
    obtain ⟨vs, q, z⟩ := h F1 G H M s r ok
    exact ⟨vs, q, by rw [z.len]; exact Nat.le_refl _⟩
  yields := fun i H x H' F1 G M s r ok hi y => by
    obtain ⟨vs, q, z⟩ := h F1 G H M s r ok
    obtain ⟨rfl, y⟩ := y
    obtain ⟨d, e1, e2⟩ := z.get (y vs q)
    exact ⟨F1, d, Same.refl F1, r, e1, e2⟩
theorem walk_seq_t {K : PySem.W.Frag} {F : Hp} {ok : Mem → Prop} {a : Addr} {xs : List D} {vs : List V} (h : SqT K F a vs) (z : DRs K F vs xs) : VWalk K F (Itt K a) ⟨xs, ok⟩ where
  goes := fun i H F1 G M s r _ hi => by
    have hl : i < vs.length := by rw [z.len]; exact hi
    exact ⟨vs, vs[i], same_tup r.sub (same_tup s h), by simp [hl]⟩
  stops := fun H F1 G M s r _ => ⟨vs, same_tup r.sub (same_tup s h), by rw [z.len]; exact Nat.le_refl _⟩
  yields := fun i H x H' F1 G M s r _ hi y => by
    obtain ⟨rfl, y⟩ := y
    obtain ⟨d, e1, e2⟩ := (z.up s).get (y vs (same_tup r.sub (same_tup s h)))
    exact ⟨F1, d, Same.refl F1, r, e1, e2⟩
theorem vi_seq (h : VE X e te) : VI X tg e (iSeq te) := by
  refine ⟨fun pins s σ H R I ⟨F, M, G, e', R', hs, hr, q, o⟩ => ?_⟩
  refine thn (h.run pins s σ H (fun v H1 => ∃ F1 M1 d, Same F F1 ∧ Rel X.K F1 M1 G H1 ∧ DR X.K F1 v d ∧ ∃ xs, asI M1 d = some xs ∧ R' ⟨xs, fun M' => asI M' d = some xs⟩ M1) I ⟨F, M, G, e', _, hs, hr, q, fun v H1 F1 M1 d s1 r1 d1 q1 => ⟨F1, M1, d, s1, r1, d1, q1⟩⟩)
    fun v s1 ⟨x, H1, I1, rx, F1, M1, d, s1', r1, d1, xs, ex, q1⟩ => ?_
  have tup : ∀ a vs, x = .ref a → SqT X.K F1 a vs → DRs X.K F1 vs xs → wpAny (model X.prog X.w) X.A (pyIter v) (PIE X pins σ tg R) X.xe s1 := fun a vs ea hq z => by
    subst ea
    cases rx
    obtain ⟨its, rv, p, hz⟩ := I1.tuple (same_tup r1.sub hq)
    refine wpAny_pyIter_tuple (show s1.heap.IsTuple a its.toArray from p) ?_
    refine ⟨s1.heap.objs.size, [s1.heap.objs.size], _, Itt X.K a, H1, rfl, I1.kept (t' := s1.toks) fun b o e => Heap.get?_push_of_some _ e, turn_tuple a _, ⟨_, Heap.get?_push_size _ rfl, rfl, rfl⟩, fun b hb => ?_, o _ _ H1 F1 M1 s1' r1 (walk_seq_t hq z) q1⟩
    have e : b = s1.heap.objs.size := by simpa using hb
    subst e
    exact I1.fpOk (Nat.le_refl _) (I1.hok.fresh (Nat.le_refl _))
  rcases asI_cases ex with rfl | el
  · cases d1 with
    | tup hq z => exact tup _ _ rfl hq z
  · obtain ⟨a, vs, rfl, hq, z⟩ := asL_at r1 d1 el
    have hd : d ≠ .tup xs := by
      rintro rfl
      cases el
    cases rx
    obtain ⟨its, rv, p, hz⟩ := I1.list hq
    refine wpAny_pyIter_list p.isList ?_
    refine ⟨s1.heap.objs.size, [s1.heap.objs.size], _, Itl X.K a, H1, rfl, I1.kept (t' := s1.toks) fun b o e => Heap.get?_push_of_some _ e, turn_list a _, ⟨_, Heap.get?_push_size _ rfl, rfl, rfl⟩, fun b hb => ?_, o _ _ H1 F1 M1 s1' r1 (walk_seq_l fun F2 G2 H2 M2 s2 r2 e2 => ?_) q1⟩
    · have e : b = s1.heap.objs.size := by simpa using hb
      subst e
      exact I1.fpOk (Nat.le_refl _) (I1.hok.fresh (Nat.le_refl _))
    · rcases asI_cases e2 with rfl | e2
      · exact absurd rfl hd
      · obtain ⟨a', vs', ea, hq', z'⟩ := asL_at r2 (d1.up s2) e2
        cases ea
        exact ⟨vs', hq', z'⟩

def rgD (lo : Int) (n : Nat) : List D := (List.range n).map fun i => D.int (lo + ((i : Nat) : Int))
theorem rgD_len {lo : Int} {n : Nat} : (rgD lo n).length = n := by simp [rgD]
theorem rgD_get {lo : Int} {n i : Nat} (h : i < n) : (rgD lo n)[i]? = some (.int (lo + ((i : Nat) : Int))) := by simp [rgD, h]
theorem walk_rg {K : PySem.W.Frag} {F : Hp} {lo : Int} {n : Nat} : VWalk K F (Itr lo n) ⟨rgD lo n, fun _ => True⟩ where
  goes := fun i H F1 G M s r _ hi => by rw [show (VIt.mk (rgD lo n) fun _ => True).ds.length = n from rgD_len] at hi; exact hi
  stops := fun H F1 G M s r _ => by rw [show (VIt.mk (rgD lo n) fun _ => True).ds.length = n from rgD_len]; exact Nat.le_refl _
  yields := fun i H x H' F1 G M s r _ hi y => by
    obtain ⟨rfl, rfl⟩ := y
    rw [show (VIt.mk (rgD lo n) fun _ => True).ds.length = n from rgD_len] at hi
    exact ⟨F1, _, Same.refl F1, r, rgD_get hi, .int _⟩
@[simp] def iRg1 (t : VTA) : VTI := fun e M R => t e M fun ds M1 => ∃ j, ds = [.int j] ∧ -4611686018427387904 ≤ j ∧ j < 4611686018427387904 ∧ R ⟨rgD 0 j.toNat, fun _ => True⟩ M1
@[simp] def iRg2 (t : VTA) : VTI := fun e M R => t e M fun ds M1 => ∃ i j, ds = [.int i, .int j] ∧ (-4611686018427387904 ≤ i ∧ i < 4611686018427387904 ∧ -4611686018427387904 ≤ j ∧ j < 4611686018427387904) ∧ R ⟨rgD i (j - i).toNat, fun _ => True⟩ M1
theorem vi_range1 {p : Pos} (hm : X.mg "range" = none) (ha : VA X [a] t) (hg : Gl X "range" := by rfl) (hs : starEach [a] X.env = [(false, eval a X.env)] := by rfl) : VI X tg (.Call (.Name "range" p) [a] [] pos) (iRg1 t) :=
  PI_imp (pi_range1 hg hm ha hs) fun σ H R ⟨F, M, G, e, R', hs, hr, q, o⟩ => ⟨F, M, G, e, _, hs, hr, q, fun vs H1 F1 M1 ds s1 r1 d1 q1 => by
    obtain ⟨j, rfl, h1, h2, q1⟩ := q1
    cases d1 with
    | cons z z2 =>
      cases z2
      cases z
      exact ⟨j, rfl, by omega, by omega, o _ _ H1 F1 M1 s1 r1 walk_rg q1⟩⟩
theorem vi_range2 {p : Pos} (hm : X.mg "range" = none) (ha : VA X [a, b] t) (hg : Gl X "range" := by rfl) (hs : starEach [a, b] X.env = [(false, eval a X.env), (false, eval b X.env)] := by rfl) (hs2 : starEach [b] X.env = [(false, eval b X.env)] := by rfl) : VI X tg (.Call (.Name "range" p) [a, b] [] pos) (iRg2 t) :=
  PI_imp (pi_range2 hg hm ha hs hs2) fun σ H R ⟨F, M, G, e, R', hs, hr, q, o⟩ => ⟨F, M, G, e, _, hs, hr, q, fun vs H1 F1 M1 ds s1 r1 d1 q1 => by
    obtain ⟨i, j, rfl, ⟨h1, h2, h3, h4⟩, q1⟩ := q1
    cases d1 with
    | cons z z2 =>
      cases z2 with
      | cons z2 z3 =>
        cases z3
        cases z
        cases z2
        exact ⟨i, j, rfl, ⟨by omega, by omega, by omega, by omega⟩, o _ _ H1 F1 M1 s1 r1 walk_rg q1⟩⟩

def sFor (ti : VTI) (g : VTG) (tb : VTS) : VTS := fun D e M => ti e M fun w M1 => ∃ P : Nat → VEnv → Mem → Prop, P 0 e M1 ∧ (∀ i e M, i ≤ w.ds.length → P i e M → w.ok M) ∧
  (∀ i d e M, w.ds[i]? = some d → P i e M → g d e M fun e2 M2 => tb { D with nx := P (i + 1), ct := P (i + 1), bk := D.nx } e2 M2) ∧ ∀ e M, P w.ds.length e M → D.nx e M
theorem vs_for {body : List Stmt} {ti : VTI} {g : VTG} {tb : VTS} (hp : PassesOwn (model X.prog X.w) X.A X.env X.xe) (hc : X.calm = true) (hi : VI X tg iter ti) (hg : VG X tg g) (hb : VSs X body tb)
    (hs : ∀ x, foldedSetIterable iter X.env x = pure x := by intro _; rfl) : VS X (.For tg iter body [] pos) (sFor ti g tb) :=
  vs_ps (ps_for hp hc hi hg hb hs) fun F M G σ H e D' D hs hr q o => ⟨F, M, G, e, _, hs, hr, q, fun J w H1 F1 M1 s1 r1 hw ⟨P, p0, pok, pt, pe⟩ => by
    refine ⟨fun i m σ H => ∃ F2 M2 e2, Same F1 F2 ∧ SR X.K F2 σ e2 ∧ Rel X.K F2 M2 G H ∧ i ≤ w.ds.length ∧ m = w.ds.length - i ∧ P i e2 M2, ⟨_, F1, M1, e, Same.refl F1, hs.up s1, r1, Nat.zero_le _, rfl, p0⟩, ?_⟩
    rintro i m σ2 H2 ⟨F2, M2, e2, s2, hs2, r2, hi, rfl, p⟩
    by_cases hlt : i < w.ds.length
    · refine .inr ⟨hw.goes i H2 F2 G M2 s2 r2 (pok i e2 M2 hi p) hlt, fun σ' H' => ∃ F2 M2 e2, Same F1 F2 ∧ SR X.K F2 σ' e2 ∧ Rel X.K F2 M2 G H' ∧ P (i + 1) e2 M2, fun σ' H' ⟨F3, M3, e3, s3, hs3, r3, p3⟩ => ⟨_, by omega, F3, M3, e3, s3, hs3, r3, hlt, rfl, p3⟩, fun x H' y => ?_⟩
      obtain ⟨F3, d, s3, r3, hd, dx⟩ := hw.yields i H2 x H' F2 G M2 s2 r2 (pok i e2 M2 hi p) hlt y
      refine ⟨F3, M2, G, e2, d, _, hs2.up s3, r3, dx, pt i d e2 M2 hd p, fun σ4 H4 F4 M4 e4 s4 r4 hs4 q4 => ?_⟩
      have s14 := ((s2.trans s3).trans s4)
      have nx : OutS X.K F4 G (P (i + 1)) (fun σ' H' => ∃ F2 M2 e2, Same F1 F2 ∧ SR X.K F2 σ' e2 ∧ Rel X.K F2 M2 G H' ∧ P (i + 1) e2 M2) := fun σ5 H5 F5 M5 e5 s5 r5 hs5 q5 => ⟨F5, M5, e5, s14.trans s5, hs5, r5, q5⟩
      exact ⟨F4, M4, G, e4, _, hs4, r4, q4, ⟨nx, o.rt.up (s1.trans s14), o.nx.up (s1.trans s14), nx⟩⟩
    · have ei : i = w.ds.length := by omega
      subst ei
      exact .inl ⟨hw.stops H2 F2 G M2 s2 r2 (pok _ e2 M2 hi p), o.nx σ2 H2 F2 M2 e2 (s1.trans s2) r2 hs2 (pe e2 M2 p)⟩⟩

def VTs (X : Cx) (es : List Expr) (t : VTT) : Prop := PTs X es (lT X.K t)
@[simp] def vYes : VTT := fun _ M Q => Q true M
theorem PTs_imp {es : List Expr} {t t' : TT} (h : PTs X es t) (i : ∀ σ H Q, t' σ H Q → t σ H Q) : PTs X es t' := ⟨fun p s σ H Q I w => h.run p s σ H Q I (i _ _ _ w)⟩
theorem vts_nil : VTs X [] vYes := PTs_imp pts_nil fun σ H Q ⟨F, M, G, e, Q', hs, hr, q, o⟩ => o true H F M (Same.refl F) hr q
theorem vts_one {c : Expr} {t : VTT} (h : VT X c t) : VTs X [c] t := pts_one h
def vLc (ti : VTI) (g : VTG) (tt : VTT) (te : VTE) (vs : List Nat) : VTE := fun e M Q => ti e M fun w M1 => ∃ P : Nat → List D → Mem → Prop, P 0 [] M1 ∧ (∀ i acc M, i ≤ w.ds.length → P i acc M → w.ok M) ∧
  (∀ i d acc M, w.ds[i]? = some d → P i acc M → g d (vwipe e vs) M fun e2 M2 => tt e2 M2 fun b M3 => if b = true then te e2 M3 fun y M4 => acc.length < sizeLine ∧ P (i + 1) (acc ++ [y]) M4 else P (i + 1) acc M3) ∧
  ∀ acc M, P w.ds.length acc M → Q (.lst acc) M
/-- .. a list that may change -/
def vLcO (ti : VTI) (g : VTG) (tt : VTT) (te : VTE) (vs : List Nat) : VTE := fun e M Q => ti e M fun w M1 => ∃ P : Nat → List D → Mem → Prop, P 0 [] M1 ∧ (∀ i acc M, i ≤ w.ds.length → P i acc M → w.ok M) ∧
  (∀ i d acc M, w.ds[i]? = some d → P i acc M → g d (vwipe e vs) M fun e2 M2 => tt e2 M2 fun b M3 => if b = true then te e2 M3 fun y M4 => acc.length < sizeLine ∧ P (i + 1) (acc ++ [y]) M4 else P (i + 1) acc M3) ∧
  ∀ acc M, P w.ds.length acc M → ∀ p, M p = none → Q (.obj p) (mupd M p (.lst acc))
/-- own targets: only they may be stored -/
def GOwn (g : TG) (vs : List Nat) : Prop := ∀ v σ H (Q : L2.St → Hp → Prop), g v σ H Q → g v σ H fun σ2 H2 => wipe σ2 vs = wipe σ vs ∧ Q σ2 H2
theorem wipe_get (σ : L2.St) (i : Nat) : ∀ vs : List Nat, (wipe σ vs)[i]? = if i ∈ vs then (σ[i]?).map (fun _ => none) else σ[i]?
  | [] => by simp [wipe]
  | v :: vs => by
    unfold wipe
    rw [List.getElem?_set]
    have ih := wipe_get σ i vs
    by_cases h : v = i
    · subst h
      rw [if_pos rfl, if_pos List.mem_cons_self, wipe_length]
      by_cases hl : v < σ.length
      · rw [if_pos hl, List.getElem?_eq_getElem hl] <;> rfl
      · rw [if_neg hl, List.getElem?_eq_none (by omega)] <;> rfl
    · rw [if_neg h, ih]
      have : (i ∈ v :: vs) = (i ∈ vs) := by simp [List.mem_cons, Ne.symm h]
      simp only [this]
theorem wipe_wipe (σ : L2.St) (vs : List Nat) : wipe (wipe σ vs) vs = wipe σ vs := by
  apply List.ext_getElem?
  intro i
  rw [wipe_get, wipe_get]
  by_cases h : i ∈ vs
  · rw [if_pos h, if_pos h, Option.map_map] <;> rfl
  · rw [if_neg h, if_neg h]
theorem wipe_set (σ : L2.St) (vs : List Nat) (j : Nat) (x : Option V) (hj : j ∈ vs) : wipe (σ.set j x) vs = wipe σ vs := by
  apply List.ext_getElem?
  intro i
  rw [wipe_get, wipe_get]
  by_cases h : i ∈ vs
  · rw [if_pos h, if_pos h, List.getElem?_set]
    by_cases e : j = i
    · subst e
      rw [if_pos rfl]
      by_cases hl : j < σ.length
      · rw [if_pos hl, List.getElem?_eq_getElem hl] <;> rfl
      · rw [if_neg hl, List.getElem?_eq_none (by omega)]
    · rw [if_neg e]
  · rw [if_neg h, if_neg h, List.getElem?_set_ne (fun e : j = i => h (by rw [← e]; exact hj))]
theorem own_name {i : Nat} {vs : List Nat} (h : i ∈ vs) : GOwn (gName i) vs := fun v σ H Q q => ⟨wipe_set σ vs i _ h, q⟩
def GsOwn (g : TGs) (vs : List Nat) : Prop := ∀ v σ H (Q : L2.St → Hp → Prop), g v σ H Q → g v σ H fun σ2 H2 => wipe σ2 vs = wipe σ vs ∧ Q σ2 H2
theorem own_nil {vs : List Nat} : GsOwn gNil vs := fun v σ H Q ⟨e, q⟩ => ⟨e, rfl, q⟩
theorem own_cons {t : TG} {u : TGs} {vs : List Nat} (h1 : GOwn t vs) (h2 : GsOwn u vs) (m1 : ∀ v σ H Q Q', (∀ σ H, Q σ H → Q' σ H) → t v σ H Q → t v σ H Q') (m2 : ∀ v σ H Q Q', (∀ σ H, Q σ H → Q' σ H) → u v σ H Q → u v σ H Q') : GsOwn (gCons t u) vs := fun v σ H Q ⟨x, r, e, q⟩ =>
  ⟨x, r, e, m1 _ _ _ _ _ (fun σ1 H1 ⟨w1, q1⟩ => m2 _ _ _ _ _ (fun σ2 H2 ⟨w2, q2⟩ => ⟨w2.trans w1, q2⟩) (h2 _ _ _ _ q1)) (h1 _ _ _ _ q)⟩
theorem own_tup {K : PySem.W.Frag} {n : Nat} {t : TGs} {vs : List Nat} (h : GsOwn t vs) : GOwn (gTup K n t) vs := fun v σ H Q ⟨a, xs, e, hq, hl, q⟩ => ⟨a, xs, e, hq, hl, h _ _ _ _ q⟩
/-- how the slots that are wiped agree -/
theorem lc_lift {ti : VTI} {g : VTG} {g0 : TG} {tt : VTT} {te : VTE} {vs : List Nat} {F G H : Hp} {M : Mem} {σ : L2.St} {e : VEnv} {Qf : List D → Mem → Prop} {Q : L2.VK} (hs : SR X.K F σ e) (hr : Rel X.K F M G H)
    (hg0 : ∀ v σ H Q, lG X.K g v σ H Q → g0 v σ H Q) (hown : GOwn g0 vs)
    (q : ti e M fun w M1 => ∃ P : Nat → List D → Mem → Prop, P 0 [] M1 ∧ (∀ i acc M, i ≤ w.ds.length → P i acc M → w.ok M) ∧
      (∀ i d acc M, w.ds[i]? = some d → P i acc M → g d (vwipe e vs) M fun e2 M2 => tt e2 M2 fun b M3 => if b = true then te e2 M3 fun y M4 => acc.length < sizeLine ∧ P (i + 1) (acc ++ [y]) M4 else P (i + 1) acc M3) ∧
      ∀ acc M, P w.ds.length acc M → Qf acc M)
    (o : ∀ D H F' M acc accV, Same F F' → Rel X.K F' M (upd G D (.lst accV)) H → G D = none → DRs X.K F' accV acc → Qf acc M → Q (.ref D) H) : tLc (lI X.K ti) g0 (lT X.K tt) (lE X.K te) vs σ H Q := by
  refine ⟨F, M, G, e, _, hs, hr, q, fun J w H1 F1 M1 s1 r1 hw ⟨P, p0, pok, pt, pe⟩ D hD => ?_⟩
  have gD : G D = none := r1.g0 hD
  refine ⟨fun i m H => ∃ F2 M2 acc accV, Same F1 F2 ∧ Rel X.K F2 M2 (upd G D (.lst accV)) H ∧ DRs X.K F2 accV acc ∧ i ≤ w.ds.length ∧ m = w.ds.length - i ∧ P i acc M2, ⟨_, F1, M1, [], [], Same.refl F1, r1.hide hD, .nil, Nat.zero_le _, rfl, p0⟩, ?_⟩
  rintro i m H2 ⟨F2, M2, acc, accV, s2, r2, za, hi, rfl, p⟩
  by_cases hlt : i < w.ds.length
  · refine .inr ⟨hw.goes i H2 F2 _ M2 s2 r2 (pok i acc M2 hi p) hlt, fun H' => ∃ F2 M2 acc accV, Same F1 F2 ∧ Rel X.K F2 M2 (upd G D (.lst accV)) H' ∧ DRs X.K F2 accV acc ∧ P (i + 1) acc M2, fun H' ⟨F3, M3, acc3, accV3, s3, r3, z3, p3⟩ => ⟨_, by omega, F3, M3, acc3, accV3, s3, r3, z3, hlt, rfl, p3⟩, fun x H' y => ?_⟩
    obtain ⟨F3, d, s3, r3, hd, dx⟩ := hw.yields i H2 x H' F2 _ M2 s2 r2 (pok i acc M2 hi p) hlt y
    have hw2 := wipe_wipe σ vs
    have key := hown x (wipe σ vs) H' _ (hg0 x _ _ _ ⟨F3, M2, upd G D (.lst accV), vwipe e vs, d, _, (hs.wiped vs).up ((s1.trans s2).trans s3), r3, dx, pt i d acc M2 hd p, fun σ4 H4 F4 M4 e4 s4 r4 hs4 q4 => (?_ : (fun σ2 H2 => lT X.K tt σ2 H2 fun b H3 => if b = true then lE X.K te σ2 H3 fun y H4 => ∃ acc, H4 D = some (.lst acc) ∧ acc.length < sizeLine ∧ ∃ F2 M2 ac accV, Same F1 F2 ∧ Rel X.K F2 M2 (upd G D (.lst accV)) (upd H4 D (.lst (acc ++ [y]))) ∧ DRs X.K F2 accV ac ∧ P (i + 1) ac M2 else ∃ F2 M2 acc accV, Same F1 F2 ∧ Rel X.K F2 M2 (upd G D (.lst accV)) H3 ∧ DRs X.K F2 accV acc ∧ P (i + 1) acc M2) σ4 H4)⟩)
    · rw [hw2] at key; exact key
    refine ⟨F4, M4, upd G D (.lst accV), e4, _, hs4, r4, q4, fun b H5 F5 M5 s5 r5 q5 => ?_⟩
    have s15 := (((s2.trans s3).trans s4).trans s5)
    show (if b = true then _ else _)
    cases b with
    | true =>
      rw [if_pos rfl] at q5 ⊢
      refine ⟨F5, M5, upd G D (.lst accV), e4, _, hs4.up s5, r5, q5, fun v H6 F6 M6 dy s6 r6 d6 ⟨hz, q6⟩ => ?_⟩
      have za6 := za.up ((((s3.trans s4).trans s5).trans s6))
      refine ⟨accV, r6.hid D _ upd_same, by rw [za.len]; exact hz, F6, M6, acc ++ [dy], accV ++ [v], s15.trans s6, ?_, za6.app (.cons d6 .nil), q6⟩
      have := r6.hwr (o := .lst (accV ++ [v])) (u := .lst accV) upd_same
      rw [upd_upd] at this
      exact this
    | false =>
      rw [if_neg Bool.false_ne_true] at q5 ⊢
      exact ⟨F5, M5, acc, accV, s15, r5, za.up ((s3.trans s4).trans s5), q5⟩
  · have ei : i = w.ds.length := by omega
    subst ei
    exact .inl ⟨hw.stops H2 F2 _ M2 s2 r2 (pok _ acc M2 hi p), o D H2 F2 M2 acc accV (s1.trans s2) r2 gD za (pe acc M2 p)⟩

/-- a comprehension's target -/
structure LcG (X : Cx) (tg : Expr) (scope : Scope) (g : VTG) (g0 : TG) (vs : List Nat) : Prop where
  pg : ∀ (s : Shared) (H : Hp) (C : Addr) (cl : List (Str × Addr)) (fp : List Addr), PG (X.blk s H scope (compEnvC scope cl C X.env) fp) tg g0
  lift : ∀ v σ H Q, lG X.K g v σ H Q → g0 v σ H Q
  own : GOwn g0 vs
  mono : ∀ v σ H Q Q', (∀ σ H, Q σ H → Q' σ H) → g0 v σ H Q → g0 v σ H Q'
structure LcGs (X : Cx) (tgs : List Expr) (scope : Scope) (g : VTGs) (g0 : TGs) (vs : List Nat) : Prop where
  pg : ∀ (s : Shared) (H : Hp) (C : Addr) (cl : List (Str × Addr)) (fp : List Addr), PGs (X.blk s H scope (compEnvC scope cl C X.env) fp) tgs g0
  lift : ∀ v σ H Q, lGs X.K g v σ H Q → g0 v σ H Q
  own : GsOwn g0 vs
  mono : ∀ v σ H Q Q', (∀ σ H, Q σ H → Q' σ H) → g0 v σ H Q → g0 v σ H Q'
theorem lcg_name {scope : Scope} {vs : List Nat} {i : Nat} (h : ∀ (s : Shared) (H : Hp) (C : Addr) (cl : List (Str × Addr)) (fp : List Addr), PG (X.blk s H scope (compEnvC scope cl C X.env) fp) tg (gName i)) (m : i ∈ vs := by decide) : LcG X tg scope (gN i) (gName i) vs :=
  ⟨h, fun v σ H Q ⟨F, M, G, e, d, Q', hs, hr, dv, q, o⟩ => o _ H F M _ (Same.refl F) hr (hs.put dv i) q, own_name m, fun v σ H Q Q' i q => i _ _ q⟩
theorem lcgs_nil {scope : Scope} {vs : List Nat} : LcGs X [] scope gNone gNil vs :=
  ⟨fun _ _ _ _ _ => pgs_nil, fun v σ H Q ⟨F, M, G, e, d, Q', hs, hr, dv, q, o⟩ => by
    obtain ⟨rfl, q⟩ := q
    cases dv
    exact ⟨rfl, o _ H F M _ (Same.refl F) hr hs q⟩, own_nil, fun v σ H Q Q' i q => ⟨q.1, i _ _ q.2⟩⟩
theorem lcgs_cons {es : List Expr} {scope : Scope} {vs : List Nat} {g : VTG} {g0 : TG} {us : VTGs} {u0 : TGs} (h1 : LcG X e scope g g0 vs) (h2 : LcGs X es scope us u0 vs)
    (hs : ∀ env, (assignEach (e :: es) env).map (·.2) = assign e env :: (assignEach es env).map (·.2) := by intro _; rfl) : LcGs X (e :: es) scope (gMore g us) (gCons g0 u0) vs :=
  ⟨fun s H C cl fp => pgs_cons (h1.pg s H C cl fp) (h2.pg s H C cl fp) (hs _), fun v σ H Q ⟨F, M, G, e, d, Q', hs, hr, dv, q, o⟩ => by
    obtain ⟨d, r, rfl, q⟩ := q
    cases dv with
    | cons z zs =>
      refine ⟨_, _, rfl, h1.lift _ _ _ _ ⟨F, M, G, e, d, _, hs, hr, z, q, fun σ1 H1 F1 M1 e1 s1 r1 hs1 q1 => h2.lift _ _ _ _ ⟨F1, M1, G, e1, r, Q', hs1, r1, zs.up s1, q1, o.up s1⟩⟩⟩,
    own_cons h1.own h2.own h1.mono h2.mono, fun v σ H Q Q' i ⟨x, r, e, q⟩ => ⟨x, r, e, h1.mono _ _ _ _ _ (fun _ _ q => h2.mono _ _ _ _ _ i q) q⟩⟩
theorem lcg_tup {es : List Expr} {scope : Scope} {vs : List Nat} {us : VTGs} {u0 : TGs} {k n : Nat} (hc : X.calm = true) (h : LcGs X es scope us u0 vs) (hn : ∀ env, (assignEach es env).length = n := by intro _; rfl) (hst : ∀ env, (assignEach es env).findIdx? (·.1) = none := by intro _; rfl) :
    LcG X (.Tuple es k pos) scope (gTp n us) (gTup X.K n u0) vs :=
  ⟨fun s H C cl fp => pg_tup hc (h.pg s H C cl fp) (hn _) (hst _), fun v σ H Q ⟨F, M, G, e, d, Q', hs, hr, dv, q, o⟩ => by
    obtain ⟨xs, rfl, hl, q⟩ := q
    cases dv with
    | tup z zs => exact ⟨_, _, rfl, same_tup hr.sub z, by rw [zs.len]; exact hl, h.lift _ _ _ _ ⟨F, M, G, e, xs, Q', hs, hr, zs, q, o⟩⟩,
    own_tup h.own, fun v σ H Q Q' i ⟨a, xs, e, hq, hl, q⟩ => ⟨a, xs, e, hq, hl, h.mono _ _ _ _ _ i q⟩⟩
section
variable {elt : Expr} {ifs : List Expr} {scope : Scope} {own : List (Str × Nat)} {ti : VTI} {g : VTG} {g0 : TG} {tt : VTT}
theorem lc_out {F G : Hp} {Q' : VK} {Q : L2.VK} (o : OutE X.K F G Q' Q) : ∀ D H F' M acc accV, Same F F' → Rel X.K F' M (upd G D (.lst accV)) H → G D = none → DRs X.K F' accV acc → Q' (.lst acc) M → Q (.ref D) H := fun D H F' M acc accV s r gD z q => by
  obtain ⟨s2, r2⟩ := r.give gD
  exact o _ _ _ _ _ (s.trans s2) r2 (.lst upd_same (z.up s2)) q
theorem v_lc (hc : X.calm = true) (hN : X.N.Nodup) (hi : VI X tg iter ti) (ok : BlkOk X.N X.env.scope scope own) (hg : LcG X tg scope g g0 (own.map (·.2)))
    (ht : ∀ (s : Shared) (H : Hp) (C : Addr) (cl : List (Str × Addr)) (fp : List Addr), VTs (X.blk s H scope (compEnvC scope cl C X.env) fp) ifs tt)
    (he : ∀ (s : Shared) (H : Hp) (C : Addr) (cl : List (Str × Addr)) (fp : List Addr), VE (X.blk s H scope (compEnvC scope cl C X.env) fp) elt te) (hs : ∀ x, foldedSetIterable iter X.env x = pure x := by intro _; rfl) :
    VE X (.ListComp elt [⟨tg, iter, ifs, 0⟩] scope pos) (vLc ti g tt te (own.map (·.2))) :=
  v_pe (pe_lc (tt := lT X.K tt) (te := lE X.K te) hc hN hi ok hg.pg ht he hs) fun F M G σ H e Q' Q hs hr q o => lc_lift hs hr hg.lift hg.own q (lc_out o)
theorem lc_outO {F G : Hp} {Q' : VK} {Q : L2.VK} (o : OutE X.K F G Q' Q) : ∀ D H F' M acc accV, Same F F' → Rel X.K F' M (upd G D (.lst accV)) H → G D = none → DRs X.K F' accV acc → (∀ p, M p = none → Q' (.obj p) (mupd M p (.lst acc))) → Q (.ref D) H := fun D H F' M acc accV s r gD z q => by
  have hm : M D = none := by
    cases e : M D with
    | none => rfl
    | some m =>
      have := (r.ob D m e).2.1
      rw [upd_same] at this; cases this
  exact o _ _ _ _ _ s (r.giveM (m := .lst acc) gD ⟨accV, rfl, z⟩ hm) (.obj D) (q D hm)
theorem v_lcO (hc : X.calm = true) (hN : X.N.Nodup) (hi : VI X tg iter ti) (ok : BlkOk X.N X.env.scope scope own) (hg : LcG X tg scope g g0 (own.map (·.2)))
    (ht : ∀ (s : Shared) (H : Hp) (C : Addr) (cl : List (Str × Addr)) (fp : List Addr), VTs (X.blk s H scope (compEnvC scope cl C X.env) fp) ifs tt)
    (he : ∀ (s : Shared) (H : Hp) (C : Addr) (cl : List (Str × Addr)) (fp : List Addr), VE (X.blk s H scope (compEnvC scope cl C X.env) fp) elt te) (hs : ∀ x, foldedSetIterable iter X.env x = pure x := by intro _; rfl) :
    VE X (.ListComp elt [⟨tg, iter, ifs, 0⟩] scope pos) (vLcO ti g tt te (own.map (·.2))) :=
  v_pe (pe_lc (tt := lT X.K tt) (te := lE X.K te) hc hN hi ok hg.pg ht he hs) fun F M G σ H e Q' Q hs hr q o => lc_lift (Qf := fun acc M => ∀ p, M p = none → Q' (.obj p) (mupd M p (.lst acc))) hs hr hg.lift hg.own q (lc_outO o)
theorem vs_setLc {i : Nat} {y : Str} {py : Pos} {spos : Pos} (hc : X.calm = true) (hN : X.N.Nodup) (hy : X.N[i]? = some y) (hyl : X.env.scope.names.lookup y = some .local)
    (hsw : swapsWith (.ListComp elt [⟨tg, iter, ifs, 0⟩] scope pos) (some (.Name y py)) spos.line X.env = pure true) (hi : VI X tg iter ti) (ok : BlkOk X.N X.env.scope scope own) (hg : LcG X tg scope g g0 (own.map (·.2)))
    (ht : ∀ (s : Shared) (H : Hp) (C : Addr) (cl : List (Str × Addr)) (fp : List Addr), VTs (X.blk s H scope (compEnvC scope cl C X.env) fp) ifs tt)
    (he : ∀ (s : Shared) (H : Hp) (C : Addr) (cl : List (Str × Addr)) (fp : List Addr), VE (X.blk s H scope (compEnvC scope cl C X.env) fp) elt te) (hs : ∀ x, foldedSetIterable iter X.env x = pure x := by intro _; rfl) :
    VS X (.Assign [.Name y py] (.ListComp elt [⟨tg, iter, ifs, 0⟩] scope pos) spos) (sAsg (vLc ti g tt te (own.map (·.2))) (gN i)) :=
  vs_ps (ps_setLc (tt := lT X.K tt) (te := lE X.K te) hc hN hy hyl hsw hi ok hg.pg ht he hs) fun F M G σ H e D' D hs hr q o =>
    lc_lift hs hr hg.lift hg.own q (lc_out (Q := fun x H1 => gName i x σ H1 D.nx) fun v H1 F1 M1 d s1 r1 d1 q1 => o.nx _ H1 F1 M1 _ s1 r1 ((hs.up s1).put d1 i) q1)
theorem vs_setLcO {i : Nat} {y : Str} {py : Pos} {spos : Pos} (hc : X.calm = true) (hN : X.N.Nodup) (hy : X.N[i]? = some y) (hyl : X.env.scope.names.lookup y = some .local)
    (hsw : swapsWith (.ListComp elt [⟨tg, iter, ifs, 0⟩] scope pos) (some (.Name y py)) spos.line X.env = pure true) (hi : VI X tg iter ti) (ok : BlkOk X.N X.env.scope scope own) (hg : LcG X tg scope g g0 (own.map (·.2)))
    (ht : ∀ (s : Shared) (H : Hp) (C : Addr) (cl : List (Str × Addr)) (fp : List Addr), VTs (X.blk s H scope (compEnvC scope cl C X.env) fp) ifs tt)
    (he : ∀ (s : Shared) (H : Hp) (C : Addr) (cl : List (Str × Addr)) (fp : List Addr), VE (X.blk s H scope (compEnvC scope cl C X.env) fp) elt te) (hs : ∀ x, foldedSetIterable iter X.env x = pure x := by intro _; rfl) :
    VS X (.Assign [.Name y py] (.ListComp elt [⟨tg, iter, ifs, 0⟩] scope pos) spos) (sAsg (vLcO ti g tt te (own.map (·.2))) (gN i)) :=
  vs_ps (ps_setLc (tt := lT X.K tt) (te := lE X.K te) hc hN hy hyl hsw hi ok hg.pg ht he hs) fun F M G σ H e D' D hs hr q o =>
    lc_lift (Qf := fun acc M => ∀ p, M p = none → D'.nx (e.set i (some (.obj p))) (mupd M p (.lst acc))) hs hr hg.lift hg.own q (lc_outO (Q' := fun d M => D'.nx (e.set i (some d)) M) (Q := fun x H1 => gName i x σ H1 D.nx) fun v H1 F1 M1 d s1 r1 d1 q1 => o.nx _ H1 F1 M1 _ s1 r1 ((hs.up s1).put d1 i) q1)
end
end
abbrev VSp := List D → Mem → VK → Prop
def lSp (K : PySem.W.Frag) (φ : VSp) : Sp := fun vs H Q _ => ∃ F M G ds Q', DRs K F vs ds ∧ Rel K F M G H ∧ φ ds M Q' ∧ OutE K F G Q' Q
end VL
namespace VL
open PySem PySem.Spec L2
open PyProof.Rows (envOfC IntsAre AllBare)

structure RmG (k : Nat) (A : Around) : Prop where
  r : Room k A
  g : A.guards = some []
theorem RmG.mono {j k : Nat} {A : Around} (h : RmG k A) (l : j ≤ k) : RmG j A := ⟨h.r.mono l, h.g⟩
structure FnG (P : Program) (w : World) (K : PySem.W.Frag) (mg : Str → Option Value) (base : Heap) (CX : CXT) (k : Nat) (f : Addr) (fd : FuncData) (ps : List Str) (sp : Sp) : Prop where
  len : ∀ vs H Q E, sp vs H Q E → vs.length = ps.length
  run : ∀ (A : Around) (outer : List Env) (s : Shared) (H : Hp) (args : Args) (us : List Value) (vs : List V) (Q : L2.VK) (E : XK), RmG k A → Env0 P w K mg base A outer s H →
    BindsTo s fd args (ps.zip us) → Vals vs us → sp vs H Q E → codeAny (model P w) A (.call (.ref f) args) (CR CX outer P w H s Q E) s
theorem FnG.mono {P : Program} {w : World} {K : PySem.W.Frag} {mg : Str → Option Value} {base : Heap} {CX : CXT} {j k : Nat} {f : Addr} {fd : FuncData} {ps : List Str} {sp : Sp} (F : FnG P w K mg base CX j f fd ps sp) (l : j ≤ k) : FnG P w K mg base CX k f fd ps sp :=
  ⟨F.len, fun A outer s H args us vs Q E hr => F.run A outer s H args us vs Q E (hr.mono l)⟩
/-- a def by its body, the guards known -/
theorem fnG_of {CX : CXT} {P : Program} {w : World} {K : PySem.W.Frag} {mg : Str → Option Value} {base : Heap} {k : Nat} {f : Addr} {nm ql : Str} {pa : Arguments} {bd : List Stmt} {sc : Scope} {dV kV doc pm cdv ct oc : Value} {an od : Option Addr}
    {osl : Array (Option Value)} {N ps : List Str} {sp : Sp} (atf : K.lookup f = some ⟨oc, od, .func (PySem.W.fnOf nm ql pa bd sc dV kV doc pm an cdv ct), osl⟩) (code : PySem.W.codeIn K cdv ql = true) (S : FnScope N ps sc)
    (len : ∀ vs H Q E, sp vs H Q E → vs.length = ps.length)
    (body : ∀ (A : Around) (outer : List Env) (s : Shared) (H : Hp) (vs : List V) (Q : L2.VK) (E : XK), RmG k (A.deeper (envOfC ql sc s.heap.objs.size f cdv)) → sp vs H Q E →
      ∃ t, PSs (cxOf CX P w K mg base N ql sc f cdv A outer s H E) bd t ∧ t { nx := fun _ H' => Q .non H', rt := Q } (start N vs) H) :
    FnG P w K mg base CX (k + 1) f (PySem.W.fnOf nm ql pa bd sc dV kV doc pm an cdv ct) ps sp := by
  refine ⟨len, fun A out s0 H0 args us vs Q E room env bind rel promise => ?_⟩
  have kin : K.In s0.heap := env.mod.kin.keeps fun b o e => (env.bs b o e).1
  have nolim : s0.heap.NoLimit := env.mod.nolimit.keeps fun b o e => (env.bs b o e).1
  have kinds : ∀ y ∈ ps.zip us, sc.names.lookup y.1 = some .local ∨
      (sc.names.lookup y.1 = some .cell ∧ ((cellsFrom (s0.heap.objs.size + 1) sc.names []).lookup y.1).isSome = true) := fun y hy => by
    have z := List.of_mem_zip (show (y.1, y.2) ∈ ps.zip us from hy)
    exact (S.par y.1 z.1).imp id fun q => ⟨q, PySem.W.cellsFrom_some _ _ _ (.inl q)⟩
  apply codeAny_call_function room.r.depth (kin _ _ atf) rfl S.co S.gen rfl (PySem.W.codeRec_of kin code)
  apply bind
  apply wpAny_newFunctionEnv_cells S.kind kinds
  intro env1 isEnv s1 inCall
  subst isEnv
  refine ⟨nolim.keeps inCall.toInCall.keep, codeAny_func ?_⟩
  obtain ⟨t, run, rd⟩ := body A out s0 H0 vs Q E ⟨room.r.deeper _, room.g⟩ promise
  have J0 : Inv (cxOf CX P w K mg base N ql sc f cdv A out s0 H0 E) [] (start N vs) H0 s1 := inv_start S room.r.hd env (len _ _ _ _ promise) rel inCall
  refine wpAny_mono (run.run [] s1 (start N vs) H0 _ J0 rd) (fun flow s2 done => ?_) fun _ _ z => z
  cases flow with
  | next =>
    obtain ⟨_, H2, J, q⟩ := done
    exact ⟨V.non, H2, J.os, J.bare, J.base, J.hok, rfl, q⟩
  | ret u =>
    obtain ⟨v, _, H2, J, rv, q⟩ := done
    exact ⟨v, H2, J.os, J.bare, J.base, J.hok, rv, q⟩
  | brk => exact done.elim fun _ z => z.elim fun _ z => z.2.elim
  | cont => exact done.elim fun _ z => z.elim fun _ z => z.2.elim
theorem okG {P : Program} {w : World} {K : PySem.W.Frag} {mg : Str → Option Value} {base : Heap} {x qual : Str} {params : Arguments} {body : List Stmt} {scope : Scope} {dvs : List V} {kws : List (Str × V)} {f : Addr} {fd : FuncData}
    {N ps : List Str} {k : Nat} {φ : VSp} (F : FunD K x qual params body scope dvs kws f fd) (S : FnScope N ps scope) (len : ∀ ds M Q, φ ds M Q → ds.length = ps.length)
    (hbody : ∀ (cdv : Value) (A : Around) (outer : List Env) (s : Shared) (H : Hp) (E : XK), RmG k (A.deeper (envOfC qual scope s.heap.objs.size f cdv)) →
      ∃ t, VSs (cxOf CX0 P w K mg base N qual scope f cdv A outer s H E).nox body t ∧ ∀ ds M Q, φ ds M Q → t { nx := fun _ M' => Q .non M', rt := Q } (vstart N.length ds) M) : FnG P w K mg base CX0 (k + 1) f fd ps (lSp K φ) := by
  obtain ⟨oc, od, dV, kV, doc, pm, an, cdv, ct, osl, rfl, lk, hcd, _, _⟩ := F.ex
  refine fnG_of lk hcd S (fun vs H Q E ⟨F, M, G, ds, Q', dv, r, q, o⟩ => by rw [dv.len]; exact len ds M Q' q) fun A outer s H vs Q E hr ⟨F', M, G, ds, Q', dv, r, q, o⟩ => ?_
  obtain ⟨t, h1, h2⟩ := hbody cdv A outer s H E hr
  exact ⟨lS K t, PSs.nox h1, F', M, G, vstart N.length ds, _, SR.start dv, r, h2 ds M Q' q, ⟨fun σ H1 F1 M1 e s1 r1 hs1 q1 => o _ H1 F1 M1 _ s1 r1 .non q1, o, fun _ _ _ _ _ _ _ _ z => z.elim, fun _ _ _ _ _ _ _ _ z => z.elim⟩⟩
def Sub (M M' : Mem) : Prop := ∀ a o, M a = some o → M' a = some o
theorem Sub.refl {M : Mem} : Sub M M := fun _ _ h => h
theorem Sub.trans {M M1 M2 : Mem} (h : Sub M M1) (h' : Sub M1 M2) : Sub M M2 := fun a o e => h' a o (h a o e)
theorem Sub.new {M : Mem} {p : Addr} {o : MO} (h : M p = none) : Sub M (mupd M p o) := fun a x e => by
  rw [mupd_ne (fun z => by rw [z, h] at e; cases e)]; exact e
/-- what M knows is left alone: p is none of it -/
theorem Sub.wr {M M1 : Mem} {p : Addr} {o : MO} (h : Sub M M1) (hp : M p = none) : Sub M (mupd M1 p o) := fun a x e => by
  rw [mupd_ne (fun z => by rw [z, hp] at e; cases e)]; exact h a x e
theorem Sub.both {M M1 : Mem} {p : Addr} {o : MO} (h : Sub M M1) : Sub (mupd M p o) (mupd M1 p o) := fun a x e => by
  by_cases z : a = p
  · subst z; rw [mupd_same] at e ⊢; exact e
  · rw [mupd_ne z] at e ⊢; exact h a x e
/-- the same, what was made in the call may be left behind -/
theorem okGD {P : Program} {w : World} {K : PySem.W.Frag} {mg : Str → Option Value} {base : Heap} {x qual : Str} {params : Arguments} {body : List Stmt} {scope : Scope} {dvs : List V} {kws : List (Str × V)} {f : Addr} {fd : FuncData}
    {N ps : List Str} {k : Nat} {φ : VSp} (F : FunD K x qual params body scope dvs kws f fd) (S : FnScope N ps scope) (len : ∀ ds M Q, φ ds M Q → ds.length = ps.length)
    (hbody : ∀ (cdv : Value) (A : Around) (outer : List Env) (s : Shared) (H : Hp) (E : XK), RmG k (A.deeper (envOfC qual scope s.heap.objs.size f cdv)) →
      ∃ t, VSs (cxOf CX0 P w K mg base N qual scope f cdv A outer s H E).nox body t ∧ ∀ ds M Q, φ ds M Q → t { nx := fun _ M' => ∃ M'', Sub M'' M' ∧ Q .non M'', rt := fun d M' => ∃ M'', Sub M'' M' ∧ Q d M'' } (vstart N.length ds) M) : FnG P w K mg base CX0 (k + 1) f fd ps (lSp K φ) := by
  obtain ⟨oc, od, dV, kV, doc, pm, an, cdv, ct, osl, rfl, lk, hcd, _, _⟩ := F.ex
  refine fnG_of lk hcd S (fun vs H Q E ⟨F, M, G, ds, Q', dv, r, q, o⟩ => by rw [dv.len]; exact len ds M Q' q) fun A outer s H vs Q E hr ⟨F', M, G, ds, Q', dv, r, q, o⟩ => ?_
  obtain ⟨t, h1, h2⟩ := hbody cdv A outer s H E hr
  exact ⟨lS K t, PSs.nox h1, F', M, G, vstart N.length ds, _, SR.start dv, r, h2 ds M Q' q, ⟨fun σ H1 F1 M1 e s1 r1 hs1 ⟨M2, sb, q1⟩ => o _ H1 F1 M2 _ s1 (r1.drop sb) .non q1, fun v H1 F1 M1 d s1 r1 d1 ⟨M2, sb, q1⟩ => o v H1 F1 M2 d s1 (r1.drop sb) d1 q1, fun _ _ _ _ _ _ _ _ z => z.elim, fun _ _ _ _ _ _ _ _ z => z.elim⟩⟩
section
variable {X : Cx} {e : Expr} {es : List Expr} {t : VTA} {pos p : Pos} {x : Str} {k : Nat} {f : Addr} {fd : FuncData} {ps : List Str} {φ : VSp} {sp : Sp} {E : XK} {CX : CXT}
theorem run_g {pins : List (Addr × Obj)} {σ : L2.St} {H : Hp} {s : Shared} {Q : L2.VK} {us : List Value} {vs : List V} (F : FnG X.prog X.w X.K X.mg X.base CX k f fd ps sp) (hr : RmG k X.A) (hb : Binds X.K fd ps []) (hx : Passes CX X E)
    (I : Inv X pins σ H s) (r : Vals vs us) (h : sp vs H Q E) : wpAny (model X.prog X.w) X.A (call (.ref f) us) (EP X pins σ Q) X.xe s := by
  have hl : (us ++ []).length = ps.length := by rw [List.append_nil, ← r.length]; exact F.len _ _ _ _ h
  have b0 := hb s us I.kIn hl
  rw [List.append_nil] at b0
  refine wpAny_call (codeAny_mono (F.run X.A X.stack s H ⟨us, []⟩ us vs Q E hr I.env0 b0 r h) fun res s' done => ?_)
  match res, done with
  | .error err, done => exact hx pins σ H s err s' I done
  | .ok (.ret u), done => exact I.after done
@[simp] def vFn (φ : VSp) (t : VTA) : VTE := fun e M Q => t e M fun ds M1 => φ ds M1 Q
theorem v_call (F : FnG X.prog X.w X.K X.mg X.base CX0 k f fd ps (lSp X.K φ)) (hr : RmG k X.A) (hm : X.mg x = some (.ref f)) (hk : PySem.W.keepIn X.K (.ref f) = true) (hb : Binds X.K fd ps []) (ha : VA X (e :: es) t) (hg : Gl X x := by rfl)
    (hdb : (x == ("__debug__" : Str)) = false := by decide) (he : starEach (e :: es) X.env = (false, eval e X.env) :: starEach es X.env := by rfl) (hpl : (backTo pos (starEach es X.env)).any (·.1) = false := by rfl) :
    VE X (.Call (.Name x p) (e :: es) [] pos) (vFn φ t) := by
  refine ⟨fun pins s σ H Q I ⟨F', M, G, e', Q', hs, hr', q, o⟩ => ?_⟩
  refine wpAny_Call_Name_kw (ld_glob I hg hm ?_ hdb)
  refine PySem.W.callWith_K (h₀ := X.base) I.ok.mod.kin hk (thn (ha.run pos pins s σ H (fun vs H1 => lSp X.K φ vs H1 Q E0) I ⟨F', M, G, e', _, hs, hr', q, fun vs H1 F1 M1 ds s1 r1 d1 q1 => ⟨F1, M1, G, ds, Q', d1, r1, q1, o.up s1⟩⟩) fun us s1 ⟨vs, H1, I1, r, q⟩ => ⟨I1.kIn, ?_⟩) he hpl
  exact run_g F hr hb pass0 I1 r q
theorem v_call0 (F : FnG X.prog X.w X.K X.mg X.base CX0 k f fd ps (lSp X.K φ)) (hr : RmG k X.A) (hm : X.mg x = some (.ref f)) (hk : PySem.W.keepIn X.K (.ref f) = true) (hb : Binds X.K fd ps []) (hg : Gl X x := by rfl)
    (hdb : (x == ("__debug__" : Str)) = false := by decide) : VE X (.Call (.Name x p) [] [] pos) (vFn φ vaNil) := by
  refine ⟨fun pins s σ H Q I ⟨F', M, G, e', Q', hs, hr', q, o⟩ => ?_⟩
  refine wpAny_Call_Name_kw (ld_glob I hg hm ?_ hdb)
  exact PySem.W.callWith_K0 I.kIn hk (run_g (us := []) (vs := []) F hr hb pass0 I .nil ⟨F', M, G, [], Q', .nil, hr', q, o⟩)
end

theorem law_callG {P : Program} {w : World} {K : PySem.W.Frag} {mg mb : Str → Option Value} {k : Nat} {fa a : Addr} {fd : FuncData} {x : Str} {φ : VSp} {s₁ : Shared} {vs : List Value} {ns : List Int}
    (inK : K.In s₁.heap) (names : s₁.heap.Ns mainGlobals mg) (blt : s₁.heap.Ns builtinsNs mb) (boot : ∀ x : Str, x ≠ "__name__" → mb x = bootBuiltins x) (nolim : s₁.heap.NoLimit) (nogens : s₁.gens = #[])
    (script : s₁.heap.get? a = some { cls := .type "list", data := .seq vs.toArray }) (isInts : IntsAre vs ns) (short : ns.length ≤ sizeLine) (room : Room k callerA)
    (F : ∀ base : Heap, K.In base → base.Ns mainGlobals mg → FnG P w K mg base CX0 k fa fd [x] (lSp K φ)) (binds : ∀ (s : Shared) (u : Value), BindsTo s fd ⟨[u], []⟩ [(x, u)])
    (law : ∀ M : Mem, φ [.rd (ns.map D.int)] M fun d _ => d = .bl true) :
    codeAny (model P w) callerA (.call (.ref fa) ⟨[.ref a], []⟩) (fun r s' => r = .ok (.ret (.bool true)) ∧ OldK s₁.heap s'.heap ∧ s'.os = s₁.os ∧ AllBare s'.gens) s₁ := by
  have rel := vals_ints isInts
  have slen := isInts.length
  have main : ∀ H : Hp, Only H → SqL K H a (ns.map V.int) → HOk P w H s₁.heap → (∀ b, H b ≠ none → b = a) → (H a ≠ none → K.lookup a = none) →
      codeAny (model P w) callerA (.call (.ref fa) ⟨[.ref a], []⟩) (fun r s' => r = .ok (.ret (.bool true)) ∧ OldK s₁.heap s'.heap ∧ s'.os = s₁.os ∧ AllBare s'.gens) s₁ := by
    intro H only seq hok one notK
    have free : ∀ {b : Addr} {o : Obj}, s₁.heap.get? b = some o → (∀ es ep, o.data = .dict es ep → H b = none) := fun {b o} e es ep d => by
      cases q : H b with
      | none => rfl
      | some u =>
        have eq : b = a := one b (by rw [q]; simp)
        subst eq
        rw [script] at e; cases e
        exact nomatch d
    have nsB : ∀ {b : Addr} {m : Str → Option Value}, s₁.heap.Ns b m → (hidT s₁.heap H).Ns b m := fun {b m} ⟨o, es, ep, e, d, r⟩ => ⟨o, es, ep, hidT_get e (free e es ep d), d, r⟩
    have kinB : K.In (hidT s₁.heap H) := fun b o e => by
      refine hidT_get (inK b o e) ?_
      cases q : H b with
      | none => rfl
      | some u =>
        have eq : b = a := one b (by rw [q]; simp)
        subst eq
        rw [notK (by rw [q]; simp)] at e; cases e
    obtain ⟨mc, l1, l2⟩ := nolim
    have env : Env0 P w K mg (hidT s₁.heap H) callerA [] s₁ H :=
      ⟨rfl, ⟨kinB, nsB names, ⟨mb, nsB blt, boot⟩, ⟨mc, nsB l1, l2⟩⟩, fun b o e => of_hidT e, Nat.le_of_eq (hidT_size _ _), trivial, (fun b hb => nomatch hb), hok, .of_eq nogens⟩
    have prom : lSp K φ [.ref a] H (fun v _ => v = .bl true) (fun _ _ _ => False) :=
      ⟨H, fun _ => none, fun _ => none, [.rd (ns.map D.int)], _, .cons (.rd seq (DRs.ints ns)) .nil, ⟨Same.refl H, (fun _ _ z => nomatch z), (fun _ _ z => nomatch z), (fun _ _ z => nomatch z)⟩, law _, fun v H' F' M' d _ _ dv e => by subst e; cases dv; rfl⟩
    refine codeAny_mono ((F _ kinB (nsB names)).run callerA [] s₁ H ⟨[.ref a], []⟩ [.ref a] [.ref a] _ _ ⟨room, rfl⟩ env (binds s₁ (.ref a)) (.cons rfl .nil) prom) fun res s' done => ?_
    match res, done with
    | .error err, done => exact False.elim done
    | .ok (.ret u), done =>
      obtain ⟨v, H', os, bare, un, hok', r', q⟩ := done
      have q' : v = .bl true := q
      subst q'
      obtain rfl : u = Value.bool true := r'
      refine ⟨rfl, OldK.of_keep fun b o e => ?_, os, bare⟩
      cases q : H b with
      | none => exact un.keep b o e q (fun z => nomatch z) (by simp)
      | some u =>
        rcases only b with z | ⟨ob, xs, z⟩
        · rw [q] at z; cases z
        · obtain ⟨e1, _⟩ := hok b _ z
          obtain ⟨e2, _⟩ := hok' b _ (un.frzs b ob _ z)
          rw [e] at e1; cases e1
          exact e2
  cases inOwn : K.lookup a with
  | none =>
    have at_a : ∀ {u : HO}, (if a = a then some u else none) = some u := fun {u} => if_pos rfl
    refine main (fun b => if b = a then some (.frz { cls := .type "list", data := .seq vs.toArray } (.lst (ns.map V.int))) else none) (fun b => ?_) (.inl (.inr ⟨_, at_a⟩)) (fun b u z => ?_) (fun b z => ?_) fun _ => inOwn
    · by_cases hb : b = a
      · exact .inr ⟨_, _, if_pos hb⟩
      · exact .inl (if_neg hb)
    · by_cases hb : b = a
      · subst hb
        have z2 := at_a.symm.trans z
        cases z2
        exact ⟨script, by rw [List.length_map]; exact short, vs, _, rel, script⟩
      · have z2 := (if_neg hb).symm.trans z
        cases z2
    · by_cases hb : b = a
      · exact hb
      · exact absurd (if_neg hb) z
  | some o =>
    have e := inK a o inOwn
    rw [script] at e
    cases e
    exact main (fun _ => none) (fun _ => .inl rfl) (.inr ⟨_, vs.toArray, _, inOwn, rfl, rfl, rfl, by rw [List.size_toArray, slen]; exact short, by simpa using rel⟩) (fun b u z => nomatch (show (none : Option HO) = some u from z)) (fun b z => absurd rfl z) fun z => absurd rfl z
theorem walk_G {l : PySem.W.OpenLaw} {n k : Nat} {q : Program} {loose : List Str} {XP : (Str → Option Value) → Heap → Prop} {YP : World → Heap → Prop} {d : DefRec} {x : Str}
    (most : l.most = some n) (short : n ≤ sizeLine) (nodef : d.params.defaults = []) (room : Room k callerA)
    (F : ∀ (w : World) (mg : Str → Option Value) (fa : Addr) (h : Heap), YP w h → h.Ns mainGlobals mg → mg d.name = some (.ref fa) →
      ∃ (K : PySem.W.Frag) (fd : FuncData) (φ : VSp), K.In h ∧ (∀ (s : Shared) (u : Value), BindsTo s fd ⟨[u], []⟩ [(x, u)]) ∧ (∀ (ns : List Int), ns.length ≤ n → ∀ M : Mem, φ [.rd (ns.map D.int)] M fun d _ => d = .bl true) ∧
        ∀ base : Heap, K.In base → base.Ns mainGlobals mg → FnG l.prog w K mg base CX0 k fa fd [x] (lSp K φ)) :
    PySem.W.WalkO q loose XP YP l.row.toRowW d [] (fun f vs => PySem.call f vs) := by
  refine Att.attach_call most nodef fun w s₀ s₁ mg mb fa o pm cd doc a vs ns G Y _ _ _ hmg script isInts hlen nogens => ?_
  obtain ⟨K, fd, φ, inK, binds, law, hF⟩ := F w mg fa _ Y G.T.g hmg
  exact law_callG inK G.T.g G.T.b G.T.builtins G.T.nolimit nogens script isInts (Nat.le_trans hlen short) room hF binds fun M => law ns hlen M
end VL
namespace VL
open PySem PySem.Spec L2

section
variable {X : Cx}
theorem cr_of {f : Value} {r : List V → Hp → L2.VK → Prop} {rv : VRs} (h : CallR X f r) (i : ∀ F M G H xs ds Q' Q, Rel X.K F M G H → DRs X.K F xs ds → rv ds M Q' → OutE X.K F G Q' Q → r xs H Q) : CallR X f (ls X.K rv) :=
  CallR_imp h fun xs H Q ⟨F, M, G, ds, Q', r, d, q, o⟩ => i F M G H xs ds Q' Q r d q o
theorem OutE.stay {K : PySem.W.Frag} {F G H : Hp} {M : Mem} {Q' : VK} {Q : L2.VK} {v : V} {d : D} (o : OutE K F G Q' Q) (r : Rel K F M G H) (dv : DR K F v d) (q : Q' d M) : Q v H := o v H F M d (Same.refl F) r dv q
theorem OutE.newL {K : PySem.W.Frag} {F G H : Hp} {M : Mem} {Q' : VK} {Q : L2.VK} {vs : List V} {ds : List D} (o : OutE K F G Q' Q) (r : Rel K F M G H) (dv : DRs K F vs ds) (q : Q' (.lst ds) M) (p : Addr) (hp : H p = none) : Q (.ref p) (upd H p (.lst vs)) :=
  o _ _ _ _ _ (r.sF hp) (r.newF hp) (.lst upd_same (dv.up (r.sF hp))) q
theorem OutE.newT {K : PySem.W.Frag} {F G H : Hp} {M : Mem} {Q' : VK} {Q : L2.VK} {vs : List V} {ds : List D} (o : OutE K F G Q' Q) (r : Rel K F M G H) (dv : DRs K F vs ds) (q : Q' (.tup ds) M) (p : Addr) (hp : H p = none) : Q (.ref p) (upd H p (.tup vs)) :=
  o _ _ _ _ _ (r.sF hp) (r.newF hp) (.tup (SqT.of upd_same) (dv.up (r.sF hp))) q
theorem OutE.newO {K : PySem.W.Frag} {F G H : Hp} {M : Mem} {Q' : VK} {Q : L2.VK} {ho : HO} {m : MO} (o : OutE K F G Q' Q) (r : Rel K F M G H) (dv : MR K F m ho) (p : Addr) (hp : H p = none) (q : Q' (.obj p) (mupd M p m)) : Q (.ref p) (upd H p ho) :=
  o _ _ _ _ _ (Same.refl F) (r.newM hp dv) (.obj p) q
theorem one_of {K : PySem.W.Frag} {F : Hp} {xs : List V} {x : D} (h : DRs K F xs [x]) : ∃ v, xs = [v] ∧ DR K F v x := by
  cases h with
  | cons a b => cases b; exact ⟨_, rfl, a⟩
/-- len of what is no text -/
@[simp] def lenOf (M : Mem) : D → Option Nat
  | .tup xs => some xs.length
  | .obj a => match M a with
    | some (.lst xs) => some xs.length
    | some (.dk kvs) => some kvs.length
    | some (.dt kvs) => some kvs.length
    | _ => none
  | d => (asL M d).map List.length
@[simp] def rLen : VRs
  | [.str z], M, Q => z.length ≤ sizeLine ∧ Q (.int (z.length : Nat)) M
  | [x], M, Q => ∃ n, lenOf M x = some n ∧ Q (.int (n : Nat)) M
  | _, _, _ => False
theorem c_len : CallR X (.builtin "len") (ls X.K rLen) := by
  refine cr_of (CallR.or call_len_seq (CallR.or call_len_str (CallR.or call_lenD call_len_dT))) fun F M G H xs ds Q' Q r dv q o => ?_
  match ds, dv, q with
  | [], .nil, q => exact q.elim
  | _ :: _ :: _, dv, q => simp [rLen] at q
  | [x], dv, q =>
    obtain ⟨v, rfl, z⟩ := one_of dv
    have lists : ∀ ys, asL M x = some ys → Q' (.int (ys.length : Nat)) M → ∃ p ws, [v] = [V.ref p] ∧ (SqL X.K H p ws ∨ SqT X.K H p ws) ∧ Q (.int (ws.length : Nat)) H := fun ys e q => by
      obtain ⟨p, vs, rfl, hp, z2⟩ := asL_at r z e
      exact ⟨p, vs, rfl, .inl hp, by rw [z2.len]; exact o.stay r (.int _) q⟩
    cases x with
    | str w => cases z; exact .inr (.inl ⟨w, rfl, q.1, o.stay r (.int _) q.2⟩)
    | tup ys =>
      obtain ⟨n, e, q⟩ := q
      cases e
      cases z with
      | tup h z2 => exact .inl ⟨_, _, rfl, .inr (same_tup r.sub h), by rw [z2.len]; exact o.stay r (.int _) q⟩
    | lst ys => obtain ⟨n, e, q⟩ := q; cases e; exact .inl (lists ys rfl q)
    | rd ys => obtain ⟨n, e, q⟩ := q; cases e; exact .inl (lists ys rfl q)
    | obj a =>
      obtain ⟨n, e, q⟩ := q
      unfold lenOf at e
      dsimp only at e
      cases hm : M a with
      | none => rw [hm] at e; cases e
      | some m =>
        rw [hm] at e
        cases m with
        | lst ys => cases e; exact .inl (lists ys (asL_obj hm) q)
        | dk kvs =>
          cases e
          cases z
          obtain ⟨_, _, ho, h1, kws, rfl, k1, k2⟩ := r.ob a _ hm
          have hl : kws.length = kvs.length := by have := congrArg List.length k1; simpa using this
          exact .inr (.inr (.inl ⟨a, kws, rfl, h1, by rw [hl]; exact o.stay r (.int _) q⟩))
        | dt kvs =>
          cases e
          cases z
          obtain ⟨_, _, ho, h1, kws, rfl, k1, k2⟩ := r.ob a _ hm
          have hl : kws.length = kvs.length := by have := congrArg List.length k1; simpa using this
          exact .inr (.inr (.inr ⟨a, kws, rfl, h1, by rw [hl]; exact o.stay r (.int _) q⟩))
        | ex _ => cases e
        | ti _ _ _ => cases e
    | non => obtain ⟨n, e, _⟩ := q; cases e
    | bl _ => obtain ⟨n, e, _⟩ := q; cases e
    | int _ => obtain ⟨n, e, _⟩ := q; cases e
@[simp] def rAbs : VRs
  | [.int i], M, Q => Q (.int (if i < 0 then -i else i)) M
  | _, _, _ => False
theorem c_abs : CallR X (.builtin "abs") (ls X.K rAbs) := cr_of call_abs fun F M G H xs ds Q' Q r dv q o => by
  unfold rAbs at q
  split at q
  · cases dv with
    | cons z z2 => cases z; cases z2; exact ⟨_, rfl, o.stay r (.int _) q⟩
  · exact q.elim
@[simp] def rMax2 : VRs
  | [.int i, .int j], M, Q => Q (.int (if j > i then j else i)) M
  | _, _, _ => False
@[simp] def rMin2 : VRs
  | [.int i, .int j], M, Q => Q (.int (if j < i then j else i)) M
  | _, _, _ => False
theorem c_max2 (hc : X.calm = true) : CallR X (.builtin "max") (ls X.K rMax2) := cr_of (call_max2 hc) fun F M G H xs ds Q' Q r dv q o => by
  unfold rMax2 at q
  split at q
  · cases dv with
    | cons z z2 => cases z; cases z2 with
      | cons z2 z3 => cases z2; cases z3; exact ⟨_, _, rfl, o.stay r (.int _) q⟩
  · exact q.elim
theorem c_min2 (hc : X.calm = true) : CallR X (.builtin "min") (ls X.K rMin2) := cr_of (call_min2 hc) fun F M G H xs ds Q' Q r dv q o => by
  unfold rMin2 at q
  split at q
  · cases dv with
    | cons z z2 => cases z; cases z2 with
      | cons z2 z3 => cases z2; cases z3; exact ⟨_, _, rfl, o.stay r (.int _) q⟩
  · exact q.elim
@[simp] def rInt : VRs
  | [.int i], M, Q => Q (.int i) M
  | [.bl b], M, Q => Q (.int (if b then 1 else 0)) M
  | _, _, _ => False
theorem c_int : CallR X (.type "int") (ls X.K rInt) := cr_of call_int1 fun F M G H xs ds Q' Q r dv q o => by
  unfold rInt at q
  split at q
  · cases dv with
    | cons z z2 => cases z; cases z2; exact .inl ⟨_, rfl, o.stay r (.int _) q⟩
  · cases dv with
    | cons z z2 => cases z; cases z2; exact .inr ⟨_, rfl, o.stay r (.int _) q⟩
  · exact q.elim
theorem drs_map {K : PySem.W.Frag} {F : Hp} {α : Type} {f : α → D} {g : α → V} (h : ∀ a v, DR K F v (f a) → v = g a) : ∀ {xs : List α} {vs : List V}, DRs K F vs (xs.map f) → vs = xs.map g
  | [], _, d => by cases d; rfl
  | x :: xs, _, d => by
    cases d with
    | cons a b => rw [h x _ a, drs_map h b] <;> rfl
theorem drs_ints {K : PySem.W.Frag} {F : Hp} {ns : List Int} {vs : List V} (h : DRs K F vs (ns.map D.int)) : vs = ns.map V.int := drs_map (fun a v d => by cases d; rfl) h
theorem drs_bls {K : PySem.W.Frag} {F : Hp} {ns : List Bool} {vs : List V} (h : DRs K F vs (ns.map D.bl)) : vs = ns.map V.bl := drs_map (fun a v d => by cases d; rfl) h
theorem DRs.bls {K : PySem.W.Frag} {F : Hp} : ∀ (ns : List Bool), DRs K F (ns.map V.bl) (ns.map D.bl)
  | [] => .nil
  | n :: ns => .cons (.bl n) (DRs.bls ns)
def rSum : VRs
  | [x], M, Q => ∃ ns : List Int, asL M x = some (ns.map D.int) ∧ Q (.int ns.sum) M
  | _, _, _ => False
theorem c_sum (hc : X.calm = true) : CallR X (.builtin "sum") (ls X.K rSum) := cr_of (cr_sum hc) fun F M G H xs ds Q' Q r dv q o => by
  unfold rSum at q
  split at q
  · obtain ⟨v, rfl, z⟩ := one_of dv
    obtain ⟨ns, e, q⟩ := q
    obtain ⟨a, vs, rfl, hp, z2⟩ := asL_at r z e
    rw [drs_ints z2] at hp
    exact ⟨a, ns, rfl, hp, o.stay r (.int _) q⟩
  · exact q.elim
def rAll : VRs
  | [x], M, Q => ∃ bs : List Bool, asL M x = some (bs.map D.bl) ∧ Q (.bl (bs.all id)) M
  | _, _, _ => False
def rAny : VRs
  | [x], M, Q => ∃ bs : List Bool, asL M x = some (bs.map D.bl) ∧ Q (.bl (bs.any id)) M
  | _, _, _ => False
theorem c_all (hc : X.calm = true) : CallR X (.builtin "all") (ls X.K rAll) := cr_of (cr_all hc) fun F M G H xs ds Q' Q r dv q o => by
  unfold rAll at q
  split at q
  · obtain ⟨v, rfl, z⟩ := one_of dv
    obtain ⟨ns, e, q⟩ := q
    obtain ⟨a, vs, rfl, hp, z2⟩ := asL_at r z e
    rw [drs_bls z2] at hp
    exact ⟨a, ns, rfl, hp, o.stay r (.bl _) q⟩
  · exact q.elim
theorem c_any (hc : X.calm = true) : CallR X (.builtin "any") (ls X.K rAny) := cr_of (cr_any hc) fun F M G H xs ds Q' Q r dv q o => by
  unfold rAny at q
  split at q
  · obtain ⟨v, rfl, z⟩ := one_of dv
    obtain ⟨ns, e, q⟩ := q
    obtain ⟨a, vs, rfl, hp, z2⟩ := asL_at r z e
    rw [drs_bls z2] at hp
    exact ⟨a, ns, rfl, hp, o.stay r (.bl _) q⟩
  · exact q.elim
/-- the greatest, the least of a list of ints -/
def rMaxL : VRs
  | [x], M, Q => ∃ ns : List Int, asL M x = some (ns.map D.int) ∧ 0 < ns.length ∧ ∀ m, m ∈ ns → (∀ y, y ∈ ns → y ≤ m) → Q (.int m) M
  | _, _, _ => False
def rMinL : VRs
  | [x], M, Q => ∃ ns : List Int, asL M x = some (ns.map D.int) ∧ 0 < ns.length ∧ ∀ m, m ∈ ns → (∀ y, y ∈ ns → m ≤ y) → Q (.int m) M
  | _, _, _ => False
theorem c_maxL (hc : X.calm = true) : CallR X (.builtin "max") (ls X.K rMaxL) := cr_of (cr_max hc) fun F M G H xs ds Q' Q r dv q o => by
  unfold rMaxL at q
  split at q
  · obtain ⟨v, rfl, z⟩ := one_of dv
    obtain ⟨ns, e, h0, q⟩ := q
    obtain ⟨a, vs, rfl, hp, z2⟩ := asL_at r z e
    rw [drs_ints z2] at hp
    exact ⟨a, ns, rfl, hp, h0, fun m h1 h2 => o.stay r (.int _) (q m h1 h2)⟩
  · exact q.elim
theorem c_minL (hc : X.calm = true) : CallR X (.builtin "min") (ls X.K rMinL) := cr_of (cr_min hc) fun F M G H xs ds Q' Q r dv q o => by
  unfold rMinL at q
  split at q
  · obtain ⟨v, rfl, z⟩ := one_of dv
    obtain ⟨ns, e, h0, q⟩ := q
    obtain ⟨a, vs, rfl, hp, z2⟩ := asL_at r z e
    rw [drs_ints z2] at hp
    exact ⟨a, ns, rfl, hp, h0, fun m h1 h2 => o.stay r (.int _) (q m h1 h2)⟩
  · exact q.elim
/-- list(x), tuple(x) -/
def rList : VRs
  | [x], M, Q => ∃ xs, asI M x = some xs ∧ Q (.lst xs) M
  | _, _, _ => False
def rListO : VRs
  | [x], M, Q => ∃ xs, asI M x = some xs ∧ ∀ p, M p = none → Q (.obj p) (mupd M p (.lst xs))
  | _, _, _ => False
def rTuple : VRs
  | [x], M, Q => ∃ xs, asI M x = some xs ∧ Q (.tup xs) M
  | _, _, _ => False
theorem asI_at {K : PySem.W.Frag} {F G H : Hp} {M : Mem} {v : V} {d : D} {xs : List D} (r : Rel K F M G H) (h : DR K F v d) (e : asI M d = some xs) : ∃ a vs, v = .ref a ∧ DRs K F vs xs ∧ (SqL K H a vs ∨ (SqT K H a vs ∧ DR K F v (.tup xs))) := by
  rcases asI_cases e with rfl | e
  · cases h with
    | tup q z => exact ⟨_, _, rfl, z, .inr ⟨same_tup r.sub q, .tup q z⟩⟩
  · obtain ⟨a, vs, rfl, hp, z⟩ := asL_at r h e
    exact ⟨a, vs, rfl, z, .inl hp⟩
theorem c_list : CallR X (.type "list") (ls X.K rList) := cr_of call_list_of fun F M G H xs ds Q' Q r dv q o => by
  unfold rList at q
  split at q
  · obtain ⟨v, rfl, z⟩ := one_of dv
    obtain ⟨xs, e, q⟩ := q
    obtain ⟨a, vs, rfl, z2, h⟩ := asI_at r z e
    exact ⟨a, vs, rfl, h.imp id And.left, o.newL r z2 q⟩
  · exact q.elim
theorem c_listO : CallR X (.type "list") (ls X.K rListO) := cr_of call_list_of fun F M G H xs ds Q' Q r dv q o => by
  unfold rListO at q
  split at q
  · obtain ⟨v, rfl, z⟩ := one_of dv
    obtain ⟨xs, e, q⟩ := q
    obtain ⟨a, vs, rfl, z2, h⟩ := asI_at r z e
    exact ⟨a, vs, rfl, h.imp id And.left, fun p hp => o.newO r (m := .lst xs) ⟨vs, rfl, z2⟩ p hp (q p (r.m0 hp))⟩
  · exact q.elim
theorem c_tuple : CallR X (.type "tuple") (ls X.K rTuple) := cr_of call_tuple_of fun F M G H xs ds Q' Q r dv q o => by
  unfold rTuple at q
  split at q
  · obtain ⟨v, rfl, z⟩ := one_of dv
    obtain ⟨xs, e, q⟩ := q
    obtain ⟨a, vs, rfl, z2, h⟩ := asI_at r z e
    rcases h with h | ⟨h, h2⟩
    · exact ⟨a, vs, rfl, .inl ⟨h, o.newT r z2 q⟩⟩
    · exact ⟨a, vs, rfl, .inr ⟨h, o.stay r h2 q⟩⟩
  · exact q.elim
/-- sorted of ints, any number of them -/
def rSortI : VRs
  | [x], M, Q => ∃ ns : List Int, asL M x = some (ns.map D.int) ∧ ∀ ms : List Int, ms.Perm ns → ms.Pairwise (· ≤ ·) → Q (.lst (ms.map D.int)) M
  | _, _, _ => False
theorem c_sortI : CallR X (.builtin "sorted") (ls X.K rSortI) := cr_of cr_sortedI fun F M G H xs ds Q' Q r dv q o => by
  unfold rSortI at q
  split at q
  · obtain ⟨v, rfl, z⟩ := one_of dv
    obtain ⟨ns, e, q⟩ := q
    obtain ⟨a, vs, rfl, hp, z2⟩ := asL_at r z e
    rw [drs_ints z2] at hp
    exact ⟨a, ns, rfl, hp, fun ms p h1 h2 hp2 => o.newL r (DRs.ints ms) (q ms h1 h2) p hp2⟩
  · exact q.elim
def rRepr : VRs
  | [x], M, Q => Sh 30 (fz M x) ∧ (py (fz M x)).showable = true ∧ (py (fz M x)).shown.length ≤ 16000000 ∧ Q (.str (py (fz M x)).shown) M
  | _, _, _ => False
mutual
theorem noDict : ∀ d : D, (py d).hasDict = false
  | .non => by simp [py, PyData.hasDict]
  | .bl _ => by simp [py, PyData.hasDict]
  | .int _ => by simp [py, PyData.hasDict]
  | .str _ => by simp [py, PyData.hasDict]
  | .obj _ => by simp [py, PyData.hasDict]
  | .lst xs => by simp [py, PyData.hasDict, noDicts xs]
  | .tup xs => by simp [py, PyData.hasDict, noDicts xs]
  | .rd xs => by simp [py, PyData.hasDict, noDicts xs]
theorem noDicts : ∀ xs : List D, PyData.hasDictAll (pys xs) = false
  | [] => by simp [pys, PyData.hasDictAll]
  | x :: xs => by simp [pys, PyData.hasDictAll, noDict x, noDicts xs]
end
end
end VL
namespace VL
open PySem PySem.Spec L2

section
variable {X : Cx} {e a b : Expr} {es : List Expr} {te ta tb : VTE} {t : VTA} {pos : Pos} {x : Str} {p : Pos}
theorem v_glob {v : V} {u : Value} {d : D} (hm : X.mg x = some u) (r : RelV v u) (hd : ∀ F, DR X.K F v d) (hg : Gl X x := by rfl) (hdb : (x == ("__debug__" : Str)) = false := by decide) : VE X (.Name x p) (vC d) := v_c (pe_glob hg hm r hdb) hd
theorem v_gint {i : Int} {u : Value} (hm : X.mg x = some u) (r : RelV (.int i) u) (hg : Gl X x := by rfl) (hdb : (x == ("__debug__" : Str)) = false := by decide) : VE X (.Name x p) (vC (.int i)) := v_glob hm r (fun _ => .int i) hg hdb
theorem v_gstr {i : Str} {u : Value} (hm : X.mg x = some u) (r : RelV (.str i) u) (hg : Gl X x := by rfl) (hdb : (x == ("__debug__" : Str)) = false := by decide) : VE X (.Name x p) (vC (.str i)) := v_glob hm r (fun _ => .str i) hg hdb

@[simp] def tyD (M : Mem) : D → Option String
  | .non => some "NoneType"
  | .bl _ => some "bool"
  | .int _ => some "int"
  | .str _ => some "str"
  | .tup _ => some "tuple"
  | .lst _ => some "list"
  | .rd _ => none
  | .obj a => match M a with
    | some (.lst _) => some "list"
    | some (.dk _) => some "dict"
    | some (.dt _) => some "dict"
    | _ => none
theorem tyD_is {K : PySem.W.Frag} {F G H : Hp} {M : Mem} {v : V} {d : D} {T : String} (r : Rel K F M G H) (h : DR K F v d) (e : tyD M d = some T) : TyX K H v (.type T) := by
  cases h with
  | non => cases e; exact .base .non
  | bl b => cases e; exact .base (.bl b)
  | int i => cases e; exact .base (.int i)
  | str y => cases e; exact .base (.str y)
  | lst q z => cases e; exact .base (.lst (r.sub _ _ q))
  | tup q z =>
    cases e
    rcases same_tup r.sub q with (h | ⟨o, h⟩) | ⟨o, its, n, h1, h2, _⟩
    · exact .base (.tup h)
    · exact .fTuple h
    · exact .kTuple h1 h2
  | rd q z => cases e
  | obj a =>
    unfold tyD at e
    dsimp only at e
    cases hm : M a with
    | none => rw [hm] at e; cases e
    | some o =>
      rw [hm] at e
      obtain ⟨_, _, ho, h1, z⟩ := r.ob a _ hm
      cases o with
      | lst ys => cases e; obtain ⟨vs, rfl, _⟩ := z; exact .base (.lst h1)
      | dk ys => cases e; obtain ⟨vs, rfl, _⟩ := z; exact .base (.dK h1)
      | dt ys => cases e; obtain ⟨vs, rfl, _⟩ := z; exact .base (.dT h1)
      | ex _ => cases e
      | ti _ _ _ => cases e
@[simp] def vIsi (T : String) (te : VTE) : VTE := fun e M Q => te e M fun x M1 => ∃ A b, tyD M1 x = some A ∧ kitB A T = some b ∧ Q (.bl b) M1
theorem v_isi {T : String} {nT : Str} {p2 : Pos} (hm : X.mg "isinstance" = none) (hT : X.mg nT = none) (he : VE X e te) (hbT : bootBuiltins nT = some (.type T) := by decide +kernel) (hg : Gl X "isinstance" := by rfl) (hgT : Gl X nT := by rfl) (hnT : nT ≠ "__name__" := by decide) (hdT : (nT == ("__debug__" : Str)) = false := by decide)
    (hs : starEach [e, .Name nT p2] X.env = (false, eval e X.env) :: starEach [.Name nT p2] X.env := by rfl) (hs2 : starEach [.Name nT p2] X.env = (false, eval (.Name nT p2) X.env) :: starEach [] X.env := by rfl)
    (hpl : (backTo pos (starEach [.Name nT p2] X.env)).any (·.1) = false := by rfl) : VE X (.Call (.Name "isinstance" p) [e, .Name nT p2] [] pos) (vIsi T te) :=
  v_pe (pe_callB call_isi hg hm (by decide +kernel) (pa_cons he (pa_cons (pe_bltn (v := .ty T) hgT hT hbT rfl hnT hdT) pa_nil hs2) hs) (by decide) (by decide) hs hpl) fun F M G σ H e Q' Q hs hr q o =>
    ⟨F, M, G, e, _, hs, hr, q, fun v H1 F1 M1 d s1 r1 d1 ⟨A, b, e1, e2, q1⟩ => ⟨v, .ty T, .type A, .type T, b, rfl, .ty T, tyD_is r1 d1 e1, kit_ty e2, o _ H1 F1 M1 _ s1 r1 (.bl b) q1⟩⟩

@[simp] def rReprI : VRs
  | [.int i], M, Q => i.natAbs.log2 < 1920 ∧ Q (.str (toString i)) M
  | _, _, _ => False
theorem c_reprI : CallR X (.builtin "repr") (ls X.K rReprI) := cr_of SkE.call_repr_int fun F M G H xs ds Q' Q r dv q o => by
  unfold rReprI at q
  split at q
  · obtain ⟨v, rfl, z⟩ := one_of dv
    cases z
    exact ⟨_, rfl, q.1, o.stay r (.str _) q.2⟩
  · exact q.elim

@[simp] def vMtL (r : Addr → List D → Mem → VK → Prop) (to : VTE) (t : VTA) : VTE := fun e M Q => to e M fun x M1 => ∃ a l, x = .obj a ∧ M1 a = some (.lst l) ∧ t e M1 fun xs M2 => r a xs M2 Q
@[simp] def rApp : Addr → List D → Mem → VK → Prop := fun a ds M Q => ∃ y l, ds = [y] ∧ M a = some (.lst l) ∧ l.length < sizeLine ∧ Q .non (mupd M a (.lst (l ++ [y])))
@[simp] def rExt : Addr → List D → Mem → VK → Prop := fun a ds M Q => ∃ y l zs, ds = [y] ∧ M a = some (.lst l) ∧ asP M y = some zs ∧ l.length + zs.length ≤ sizeLine ∧ Q .non (mupd M a (.lst (l ++ zs)))
@[simp] def rPopI : Addr → List D → Mem → VK → Prop := fun a ds M Q => ∃ i l k y, ds = [.int i] ∧ M a = some (.lst l) ∧ -9223372036854775808 ≤ i ∧ i < 9223372036854775808 ∧ seqIndex? i l.length = some k ∧ l[k]? = some y ∧ Q y (mupd M a (.lst (l.eraseIdx k)))
theorem v_mtL {id : String} {name : Str} {apos : Pos} {o : Expr} {to : VTE} {r : V → List V → Hp → L2.VK → Prop} {rv : Addr → List D → Mem → VK → Prop} (hm : MtR X id r) (slot : Slot "list" name id) (hty : typeOf (.builtin id) = pure (.type "method_descriptor"))
    (hi : ∀ F M G H a ds vs Q' Q, Rel X.K F M G H → DRs X.K F vs ds → rv a ds M Q' → OutE X.K F G Q' Q → r (.ref a) vs H Q) (ho : VE X o to) (ha : VA X (e :: es) t)
    (hbase : attributeBase o name X.env (eval o X.env) = eval o X.env := by rfl)
    (hfew : ((backTo pos (starEach (e :: es) X.env)).all (fun x => !x.1) && (backToKw pos (keywordEach [] X.env)).all (fun x => x.1.isSome)
      && decide ((e :: es).length + ([] : List Keyword).length + (if ([] : List Keyword).isEmpty then 0 else 1) < 30)) = true := by rfl)
    (hline : (apos.endLine == pos.line) = true := by rfl) (hs : starEach (e :: es) X.env = (false, eval e X.env) :: starEach es X.env := by rfl) (hplain : (backTo pos (starEach es X.env)).any (·.1) = false := by rfl) :
    VE X (.Call (.Attribute o name apos) (e :: es) [] pos) (vMtL rv to t) :=
  v_pe (pe_bm PySem.F.plainAttrs_list slot hty hm ho ha hbase hfew hline hs hplain) fun F M G σ H e Q' Q hs hr q o => ⟨F, M, G, e, _, hs, hr, q, fun v H1 F1 M1 d s1 r1 d1 ⟨a, l, ed, hM, q1⟩ => by
    subst ed
    cases d1
    obtain ⟨_, _, ho, h1, vs, rfl, z⟩ := r1.ob a _ hM
    exact ⟨.inl ⟨rfl, vs, SqL.of h1⟩, F1, M1, G, e, _, hs.up s1, r1, q1, fun ws H2 F2 M2 ds s2 r2 d2 q2 => hi F2 M2 G H2 a ds ws Q' Q r2 d2 q2 (o.up (s1.trans s2))⟩⟩
theorem i_app : ∀ F M G H a ds vs Q' Q, Rel X.K F M G H → DRs X.K F vs ds → rApp a ds M Q' → OutE X.K F G Q' Q → rAppend (.ref a) vs H Q := fun F M G H a ds vs Q' Q r dv ⟨y, l, e, hM, hz, q⟩ o => by
  subst e
  obtain ⟨v, rfl, z⟩ := one_of dv
  obtain ⟨_, _, ho, h1, ws, rfl, z1⟩ := r.ob a _ hM
  exact ⟨a, ws, v, rfl, rfl, h1, by rw [z1.len]; exact hz, o _ _ _ _ _ (Same.refl F) (r.wr hM (m := .lst (l ++ [y])) ⟨_, rfl, z1.app (.cons z .nil)⟩) .non q⟩
theorem i_ext : ∀ F M G H a ds vs Q' Q, Rel X.K F M G H → DRs X.K F vs ds → rExt a ds M Q' → OutE X.K F G Q' Q → rExtend (.ref a) vs H Q := fun F M G H a ds vs Q' Q r dv ⟨y, l, zs, e, hM, hy, hz, q⟩ o => by
  subst e
  obtain ⟨v, rfl, z⟩ := one_of dv
  obtain ⟨_, _, ho, h1, ws, rfl, z1⟩ := r.ob a _ hM
  obtain ⟨b, us, rfl, h2, z2⟩ := asP_at r z hy
  exact ⟨a, b, ws, us, rfl, rfl, h1, h2, by rw [z1.len, z2.len]; exact hz, o _ _ _ _ _ (Same.refl F) (r.wr hM (m := .lst (l ++ zs)) ⟨_, rfl, z1.app z2⟩) .non q⟩
theorem DRs.erase {K : PySem.W.Frag} {F : Hp} : ∀ {vs : List V} {ds : List D} (i : Nat), DRs K F vs ds → DRs K F (vs.eraseIdx i) (ds.eraseIdx i)
  | _, [], i, h => by cases h; exact .nil
  | _, d :: ds, 0, h => by
    cases h with
    | cons a r => exact r
  | _, d :: ds, i + 1, h => by
    cases h with
    | cons a r => exact .cons a (DRs.erase i r)
theorem i_pop : ∀ F M G H a ds vs Q' Q, Rel X.K F M G H → DRs X.K F vs ds → rPopI a ds M Q' → OutE X.K F G Q' Q → rPopAt (.ref a) vs H Q := fun F M G H a ds vs Q' Q r dv ⟨i, l, k, y, e, hM, b1, b2, hk, hy, q⟩ o => by
  subst e
  obtain ⟨v, rfl, z⟩ := one_of dv
  cases z
  obtain ⟨_, _, ho, h1, ws, rfl, z1⟩ := r.ob a _ hM
  obtain ⟨w, hw, dw⟩ := z1.geti hy
  exact ⟨a, ws, i, k, w, rfl, rfl, h1, by omega, by omega, by rw [z1.len]; exact hk, hw, o _ _ _ _ _ (Same.refl F) (r.wr hM (m := .lst (l.eraseIdx k)) ⟨_, rfl, z1.erase k⟩) dw q⟩
theorem v_append {apos : Pos} {o : Expr} {to : VTE} (ho : VE X o to) (ha : VA X (e :: es) t)
    (hbase : attributeBase o "append" X.env (eval o X.env) = eval o X.env := by rfl)
    (hfew : ((backTo pos (starEach (e :: es) X.env)).all (fun x => !x.1) && (backToKw pos (keywordEach [] X.env)).all (fun x => x.1.isSome)
      && decide ((e :: es).length + ([] : List Keyword).length + (if ([] : List Keyword).isEmpty then 0 else 1) < 30)) = true := by rfl)
    (hline : (apos.endLine == pos.line) = true := by rfl) (hs : starEach (e :: es) X.env = (false, eval e X.env) :: starEach es X.env := by rfl) (hplain : (backTo pos (starEach es X.env)).any (·.1) = false := by rfl) :
    VE X (.Call (.Attribute o "append" apos) (e :: es) [] pos) (vMtL rApp to t) := v_mtL mt_append PySem.F.slot_list_append PySem.F.type_list_append i_app ho ha hbase hfew hline hs hplain
theorem v_extend {apos : Pos} {o : Expr} {to : VTE} (ho : VE X o to) (ha : VA X (e :: es) t)
    (hbase : attributeBase o "extend" X.env (eval o X.env) = eval o X.env := by rfl)
    (hfew : ((backTo pos (starEach (e :: es) X.env)).all (fun x => !x.1) && (backToKw pos (keywordEach [] X.env)).all (fun x => x.1.isSome)
      && decide ((e :: es).length + ([] : List Keyword).length + (if ([] : List Keyword).isEmpty then 0 else 1) < 30)) = true := by rfl)
    (hline : (apos.endLine == pos.line) = true := by rfl) (hs : starEach (e :: es) X.env = (false, eval e X.env) :: starEach es X.env := by rfl) (hplain : (backTo pos (starEach es X.env)).any (·.1) = false := by rfl) :
    VE X (.Call (.Attribute o "extend" apos) (e :: es) [] pos) (vMtL rExt to t) := v_mtL mt_extend PySem.F.slot_list_extend PySem.F.type_list_extend i_ext ho ha hbase hfew hline hs hplain
theorem v_popI {apos : Pos} {o : Expr} {to : VTE} (ho : VE X o to) (ha : VA X (e :: es) t)
    (hbase : attributeBase o "pop" X.env (eval o X.env) = eval o X.env := by rfl)
    (hfew : ((backTo pos (starEach (e :: es) X.env)).all (fun x => !x.1) && (backToKw pos (keywordEach [] X.env)).all (fun x => x.1.isSome)
      && decide ((e :: es).length + ([] : List Keyword).length + (if ([] : List Keyword).isEmpty then 0 else 1) < 30)) = true := by rfl)
    (hline : (apos.endLine == pos.line) = true := by rfl) (hs : starEach (e :: es) X.env = (false, eval e X.env) :: starEach es X.env := by rfl) (hplain : (backTo pos (starEach es X.env)).any (·.1) = false := by rfl) :
    VE X (.Call (.Attribute o "pop" apos) (e :: es) [] pos) (vMtL rPopI to t) := v_mtL mt_popAt PySem.F.slot_list_pop PySem.F.type_list_pop i_pop ho ha hbase hfew hline hs hplain

def zipD (xs ys : List D) : List D := (xs.zip ys).map fun p => .tup [p.1, p.2]
theorem zipD_len {xs ys : List D} : (zipD xs ys).length = min xs.length ys.length := by simp [zipD]
theorem zipD_get {xs ys : List D} {i : Nat} {x y : D} (h1 : xs[i]? = some x) (h2 : ys[i]? = some y) : (zipD xs ys)[i]? = some (.tup [x, y]) := by
  simp [zipD, List.getElem?_zip_eq_some, h1, h2]
def enD (xs : List D) : List D := (List.range xs.length).map fun i => .tup [.int (i : Nat), xs.getD i .non]
theorem enD_len {xs : List D} : (enD xs).length = xs.length := by simp [enD]
theorem enD_get {xs : List D} {i : Nat} {x : D} (h : xs[i]? = some x) : (enD xs)[i]? = some (.tup [.int (i : Nat), x]) := by
  have hl : i < xs.length := by
    rcases Nat.lt_or_ge i xs.length with h1 | h1
    · exact h1
    · rw [List.getElem?_eq_none h1] at h; cases h
  simp only [enD, List.getElem?_map, List.getElem?_range hl, Option.map_some, List.getD, h, Option.getD_some]
theorem pair_new {K : PySem.W.Frag} {F1 : Hp} {M : Mem} {G H : Hp} {T : Addr} {x y : V} {dx dy : D} (r : Rel K F1 M G H) (hT : H T = none) (h1 : DR K F1 x dx) (h2 : DR K F1 y dy) :
    ∃ F2, Same F1 F2 ∧ Rel K F2 M G (upd H T (.tup [x, y])) ∧ DR K F2 (.ref T) (.tup [dx, dy]) := by
  have s := r.sF (o := .tup [x, y]) hT
  exact ⟨_, s, r.newF hT, .tup (SqT.of upd_same) (.cons (h1.up s) (.cons (h2.up s) .nil))⟩
@[simp] def iZp (t : VTA) : VTI := fun e M R => t e M fun ds M1 => ∃ x y xs ys, ds = [x, y] ∧
  ((asL M1 x = some xs ∧ asL M1 y = some ys ∧ R ⟨zipD xs ys, fun M' => asL M' x = some xs ∧ asL M' y = some ys⟩ M1) ∨ (x = .tup xs ∧ y = .tup ys ∧ R ⟨zipD xs ys, fun _ => True⟩ M1))
theorem walk_zipL {K : PySem.W.Frag} {F G0 H0 : Hp} {M0 : Mem} {x y : D} {u v : V} {a b : Addr} {xs ys : List D} (r0 : Rel K F M0 G0 H0) (hx : DR K F (.ref a) x) (hy : DR K F (.ref b) y) : VWalk K F (Itz K a b) ⟨zipD xs ys, fun M' => asL M' x = some xs ∧ asL M' y = some ys⟩ := by
  have at2 : ∀ F1 G H M, Same F F1 → Rel K F1 M G H → asL M x = some xs ∧ asL M y = some ys → ∃ us vs, SqL K H a us ∧ SqL K H b vs ∧ DRs K F1 us xs ∧ DRs K F1 vs ys := fun F1 G H M s r ok => by
    obtain ⟨a', us, e, h1, z1⟩ := asL_at r (hx.up s) ok.1
    obtain ⟨b', vs, e2, h2, z2⟩ := asL_at r (hy.up s) ok.2
    cases e; cases e2
    exact ⟨us, vs, h1, h2, z1, z2⟩
  refine ⟨fun i H F1 G M s r ok hi => ?_, fun H F1 G M s r ok => ?_, fun i H v H' F1 G M s r ok hi yd => ?_⟩
  · obtain ⟨us, vs, h1, h2, z1, z2⟩ := at2 F1 G H M s r ok
    have hi' : i < min us.length vs.length := by rw [z1.len, z2.len, ← zipD_len]; exact hi
    have l1 : i < us.length := by omega
    have l2 : i < vs.length := by omega
    exact ⟨us, vs, us[i], vs[i], h1, h2, by simp [l1], by simp [l2]⟩
  · obtain ⟨us, vs, h1, h2, z1, z2⟩ := at2 F1 G H M s r ok
    have e : (zipD xs ys).length = min us.length vs.length := by rw [z1.len, z2.len, zipD_len]
    exact ⟨us, vs, h1, h2, by rw [show (VIt.mk (zipD xs ys) _).ds = zipD xs ys from rfl, e]; omega⟩
  · obtain ⟨us, vs, h1, h2, z1, z2⟩ := at2 F1 G H M s r ok
    obtain ⟨T, p, q, rfl, hT, rfl, k1, k2⟩ := yd
    obtain ⟨dx, e1, d1⟩ := z1.get (k1 us h1)
    obtain ⟨dy, e2, d2⟩ := z2.get (k2 vs h2)
    obtain ⟨F2, s2, r2, d3⟩ := pair_new r hT d1 d2
    exact ⟨F2, _, s2, r2, zipD_get e1 e2, d3⟩
theorem walk_zipT {K : PySem.W.Frag} {F : Hp} {a b : Addr} {us vs : List V} {xs ys : List D} (hx : SqT K F a us) (hy : SqT K F b vs) (z1 : DRs K F us xs) (z2 : DRs K F vs ys) : VWalk K F (RZ.ItzT K a b) ⟨zipD xs ys, fun _ => True⟩ := by
  refine ⟨fun i H F1 G M s r ok hi => ?_, fun H F1 G M s r ok => ?_, fun i H v H' F1 G M s r ok hi yd => ?_⟩
  · have hi' : i < min us.length vs.length := by rw [z1.len, z2.len, ← zipD_len]; exact hi
    have l1 : i < us.length := by omega
    have l2 : i < vs.length := by omega
    exact ⟨us, vs, us[i], vs[i], same_tup r.sub (same_tup s hx), same_tup r.sub (same_tup s hy), by simp [l1], by simp [l2]⟩
  · have e : (zipD xs ys).length = min us.length vs.length := by rw [z1.len, z2.len, zipD_len]
    exact ⟨us, vs, same_tup r.sub (same_tup s hx), same_tup r.sub (same_tup s hy), by rw [show (VIt.mk (zipD xs ys) _).ds = zipD xs ys from rfl, e]; omega⟩
  · obtain ⟨T, p, q, rfl, hT, rfl, k1, k2⟩ := yd
    obtain ⟨dx, e1, d1⟩ := (z1.up s).get (k1 us (same_tup r.sub (same_tup s hx)))
    obtain ⟨dy, e2, d2⟩ := (z2.up s).get (k2 vs (same_tup r.sub (same_tup s hy)))
    obtain ⟨F2, s2, r2, d3⟩ := pair_new r hT d1 d2
    exact ⟨F2, _, s2, r2, zipD_get e1 e2, d3⟩
theorem two_of {K : PySem.W.Frag} {F : Hp} {xs : List V} {x y : D} (h : DRs K F xs [x, y]) : ∃ v u, xs = [v, u] ∧ DR K F v x ∧ DR K F u y := by
  cases h with
  | cons a b =>
    obtain ⟨u, rfl, z⟩ := one_of b
    exact ⟨_, u, rfl, a, z⟩
theorem vi_zip {elts : List Expr} {kk : Nat} {tpos : Pos} (hm : X.mg "zip" = none) (ha : VA X [a, b] t) (hg : Gl X "zip" := by rfl)
    (hs : starEach [a, b] X.env = (false, eval a X.env) :: starEach [b] X.env := by rfl) (hpl : (backTo pos (starEach [b] X.env)).any (·.1) = false := by rfl) : VI X (.Tuple elts kk tpos) (.Call (.Name "zip" p) [a, b] [] pos) (iZp t) :=
  PI_imp (RZ.pi_zipA hg hm ha hs hpl) fun σ H R ⟨F, M, G, e, R', hs, hr, q, o⟩ => ⟨F, M, G, e, _, hs, hr, q, fun vs H1 F1 M1 ds s1 r1 d1 ⟨x, y, xs, ys, ed, q1⟩ => by
    subst ed
    obtain ⟨v, u, rfl, z1, z2⟩ := two_of d1
    rcases q1 with ⟨e1, e2, q1⟩ | ⟨rfl, rfl, q1⟩
    · obtain ⟨p1, w1, rfl, h1, y1⟩ := asL_at r1 z1 e1
      obtain ⟨p2, w2, rfl, h2, y2⟩ := asL_at r1 z2 e2
      exact ⟨p1, p2, w1, w2, rfl, .inl ⟨h1, h2, o _ _ H1 F1 M1 s1 r1 (walk_zipL (u := .non) (v := .non) r1 z1 z2) q1⟩⟩
    · cases z1 with
      | tup h1 y1 =>
        cases z2 with
        | tup h2 y2 => exact ⟨_, _, _, _, rfl, .inr ⟨same_tup r1.sub h1, same_tup r1.sub h2, o _ _ H1 F1 M1 s1 r1 (walk_zipT h1 h2 y1 y2) q1⟩⟩⟩
@[simp] def iEn (t : VTA) : VTI := fun e M R => t e M fun ds M1 => ∃ x xs, ds = [x] ∧ asL M1 x = some xs ∧ R ⟨enD xs, fun M' => asL M' x = some xs⟩ M1
theorem walk_en {K : PySem.W.Frag} {F : Hp} {x : D} {a : Addr} {xs : List D} (hx : DR K F (.ref a) x) : VWalk K F (Ite K a) ⟨enD xs, fun M' => asL M' x = some xs⟩ := by
  have at1 : ∀ F1 G H M, Same F F1 → Rel K F1 M G H → asL M x = some xs → ∃ us, SqL K H a us ∧ DRs K F1 us xs := fun F1 G H M s r ok => by
    obtain ⟨a', us, e, h1, z1⟩ := asL_at r (hx.up s) ok
    cases e
    exact ⟨us, h1, z1⟩
  refine ⟨fun i H F1 G M s r ok hi => ?_, fun H F1 G M s r ok => ?_, fun i H v H' F1 G M s r ok hi yd => ?_⟩
  · obtain ⟨us, h1, z1⟩ := at1 F1 G H M s r ok
    have l1 : i < us.length := by rw [z1.len, ← enD_len]; exact hi
    exact ⟨us, us[i], h1, by simp [l1]⟩
  · obtain ⟨us, h1, z1⟩ := at1 F1 G H M s r ok
    exact ⟨us, h1, by rw [z1.len, show (VIt.mk (enD xs) _).ds = enD xs from rfl, enD_len]; exact Nat.le_refl _⟩
  · obtain ⟨us, h1, z1⟩ := at1 F1 G H M s r ok
    obtain ⟨T, p, rfl, hT, rfl, k1⟩ := yd
    obtain ⟨dx, e1, d1⟩ := z1.get (k1 us h1)
    obtain ⟨F2, s2, r2, d3⟩ := pair_new r hT (.int _) d1
    exact ⟨F2, _, s2, r2, enD_get e1, d3⟩
theorem vi_enum {elts : List Expr} {kk : Nat} {tpos : Pos} (hm : X.mg "enumerate" = none) (ha : VA X [a] t) (hg : Gl X "enumerate" := by rfl) (hs : starEach [a] X.env = [(false, eval a X.env)] := by rfl) : VI X (.Tuple elts kk tpos) (.Call (.Name "enumerate" p) [a] [] pos) (iEn t) :=
  PI_imp (pi_enum hg hm ha hs) fun σ H R ⟨F, M, G, e, R', hs, hr, q, o⟩ => ⟨F, M, G, e, _, hs, hr, q, fun vs H1 F1 M1 ds s1 r1 d1 ⟨x, xs, ed, e1, q1⟩ => by
    subst ed
    obtain ⟨v, rfl, z1⟩ := one_of d1
    obtain ⟨p1, w1, rfl, h1, y1⟩ := asL_at r1 z1 e1
    exact ⟨p1, w1, rfl, h1, o _ _ H1 F1 M1 s1 r1 (walk_en z1) q1⟩⟩

theorem drs_rg {K : PySem.W.Frag} {F : Hp} (a b : Int) : DRs K F (rgV a b) (rgD a (b - a).toNat) := by
  unfold rgV rgD
  induction List.range (b - a).toNat with
  | nil => exact .nil
  | cons x xs ih => exact .cons (.int _) ih
@[simp] def vLstRg1 (te : VTE) : VTE := fun e M Q => te e M fun x M1 => ∃ n, x = .int n ∧ -4611686018427387904 ≤ n ∧ n ≤ 16777216 ∧ Q (.lst (rgD 0 n.toNat)) M1
theorem v_listRg1 {p2 pos2 : Pos} (hc : X.calm = true) (hm : X.mg "list" = none) (hr : X.mg "range" = none) (ha : VE X a ta) (hg : Gl X "list" := by rfl) (hg2 : Gl X "range" := by rfl)
    (na : starEach [a] X.env = (false, eval a X.env) :: starEach [] X.env := by rfl) (ne : starEach [.Call (.Name "range" p2) [a] [] pos2] X.env = (false, eval (.Call (.Name "range" p2) [a] [] pos2) X.env) :: starEach [] X.env := by rfl) :
    VE X (.Call (.Name "list" p) [.Call (.Name "range" p2) [a] [] pos2] [] pos) (vLstRg1 ta) :=
  v_pe (pe_listRg hc hg hm (prg_1 hg2 hr ha na) ne) fun F M G σ H e Q' Q hs hr q o => ⟨F, M, G, e, _, hs, hr, q, fun v H1 F1 M1 d s1 r1 d1 ⟨n, ed, b1, b2, q1⟩ => by
    subst ed
    cases d1
    refine ⟨n, rfl, ⟨by omega, by omega, by omega, by omega, by omega⟩, fun p hp => ?_⟩
    have q2 : Q' (.lst (rgD 0 (n - 0).toNat)) M1 := by rw [Int.sub_zero]; exact q1
    exact (o.up s1).newL r1 (drs_rg 0 n) q2 p hp⟩

def oLtD : VR2 := fun x y M Q => Sh 30 x ∧ Sh 30 y ∧ PySem.W.alike (py x) (py y) = true ∧ py x ≠ .none ∧ Q (.bl (PySem.W.dataLt (py x) (py y))) M
theorem o_ltD {k : Nat} (hr : Room k X.A) : OpR X (compareOp .Lt) (l2 X.K oLtD) := fun pins s σ H x y v u Q I rx ry ⟨F, M, G, a, b, Q', r, da, db, ⟨s1, s2, hal, hn, q⟩, o⟩ => by
  obtain ⟨as, r1⟩ := Dp.reads I _ _ _ (DR.dp r.sub a x (sh_noObj 30 a s1) da) rx
  obtain ⟨bs, r2⟩ := Dp.reads I _ _ _ (DR.dp r.sub b y (sh_noObj 30 b s2) db) ry
  refine PySem.W.lt_data r1 r2 hal hn ?_ ⟨.bl _, H, I, rfl, o _ H F M _ (Same.refl F) r (.bl _) q⟩
  have h1 := (sh_py 30 a s1).2
  have h2 := hu64 hr
  have h3 : min (py a).depth (py b).depth ≤ (py a).depth := Nat.min_le_left _ _
  omega
end
section
open PyProof.Rows PySem.W
theorem sorted_seq {prog : Program} {w : World} {A : Around} {E : Value → Shared → Prop} {s : Shared} {β : Type} {vs : List Value} {bs : List β} {enc : β → PyData} {R : Value → β → Prop} {l : Addr} {Q : Value → Shared → Prop} {T : String} {o : Obj} {n : Nat} (hT : T = "list" ∨ T = "tuple")
    (ho : s.heap.get? l = some o) (hc : o.cls = .type T) (hd : o.data = .seq vs.toArray n) (e : EachIs R vs bs) (er : EachIs (fun v b => ∃ as, Reads s.heap v (enc b) as) vs bs) (hal : AllAlike (bs.map enc)) (hk : Sortable (bs.map enc)) (hL : bs.length ≤ sizeLine)
    (hu : ∀ b, b ∈ bs → A.units + 2 + (enc b).depth < cLine)
    (h : ∀ (h' f : Heap) (out : List Value), (∀ b o, s.heap.get? b = some o → h'.get? b = some o) → (∀ b o, h'.get? b = some o → f.get? b = some o) → (∃ ep, f.get? h'.objs.size = some (seqObj "list" out.toArray ep)) → EachIs R out (bs.mergeSort (dataLe false enc)) → Q (.ref h'.objs.size) { s with heap := f }) :
    wpAny (model prog w) A (call (.builtin "sorted") [.ref l]) Q E s := by
  have hL' : vs.length ≤ sizeLine := by rw [e.length]; exact hL
  refine call_function_entry_kw kind_sorted plain_sorted entry_sorted (args_sorted1 _) ?_
  unfold Builtin.«sorted»
  refine wpAny_bind (m := checkCount "sorted" 1 1 _) (wpAny_pure ?_)
  refine wpAny_bind (wpAny_collect_seq l hT ho hc hd (fun h' keep => ?_) (by rw [List.size_toArray]; exact hL'))
  refine wpAny_bind (wpAny_newList ?_ hL')
  have at2 : (h'.push (seqObj "list" vs.toArray 0)).get? h'.objs.size = some (seqObj "list" vs.toArray 0) := Heap.get?_push_size _ rfl
  have er' : EachIs (fun v b => ∃ as, Reads (sortingHeap (h'.push (seqObj "list" vs.toArray 0)) h'.objs.size vs) v (enc b) as) vs bs := er.mono fun _ _ ⟨as, r⟩ => ⟨as, PyProof.Rows.Reads.keeps (fun b o q => sortingHeap_old (Nat.ne_of_lt (Heap.lt_size (keep b o q))) (Heap.get?_push_of_some _ (keep b o q))) r⟩
  refine wpAny_bind (wpAny_holding (wpAny_call_entry_kw slot_list_sort ⟨_, at2, rfl⟩ entry_list_sort ?body (args_list_sort _)))
  case body =>
    refine list_sort_vals (κ := dataKind (sortingHeap (h'.push (seqObj "list" vs.toArray 0)) h'.objs.size vs) (bs.map enc)) (s := { s with heap := h'.push (seqObj "list" vs.toArray 0) }) at2 (SortsAt.data (s := { s with heap := sortingHeap (h'.push (seqObj "list" vs.toArray 0)) h'.objs.size vs }) (each_map (R := fun v d => ∃ as, Reads (sortingHeap (h'.push (seqObj "list" vs.toArray 0)) h'.objs.size vs) v d as) enc er') hal hk (bound_map hu)) hL' ⟨_, rfl, wpAny_pure ⟨_, rfl, ?_⟩⟩
    exact h h' _ _ keep (fun b o q => by rw [sortedHeap_old (Nat.ne_of_lt (Heap.lt_size q)) (by rw [size_push']; exact Nat.lt_succ_of_lt (Heap.lt_size q))]; exact Heap.get?_push_of_some _ q) (sortedHeap_at at2) (sortVals_data false e er' hal)
end
section
variable {X : Cx}
/-- sorted of alike data -/
def rSortD : VRs
  | [x], M, Q => ∃ ds, asI M x = some ds ∧ (∀ d ∈ ds, Sh 30 d) ∧ PySem.W.AllAlike (ds.map py) ∧ PySem.W.Sortable (ds.map py) ∧ ds.length ≤ sizeLine ∧ Q (.lst (ds.mergeSort (PySem.W.dataLe false py))) M
  | _, _, _ => False
theorem each_of {K : PySem.W.Frag} {F : Hp} : ∀ {ds : List D} {vs : List V} {us : List Value}, Vals vs us → DRs K F vs ds → PySem.W.EachIs (fun u (p : V × D) => RelV p.1 u ∧ DR K F p.1 p.2) us (vs.zip ds)
  | [], _, _, r, h => by cases h; cases r; exact .nil
  | d :: ds, _, _, r, h => by
    cases h with
    | cons a b =>
      cases r with
      | cons r1 r2 => exact .cons ⟨r1, a⟩ (each_of r2 b)
theorem of_each {K : PySem.W.Frag} {F : Hp} : ∀ {ps : List (V × D)} {us : List Value}, PySem.W.EachIs (fun u (p : V × D) => RelV p.1 u ∧ DR K F p.1 p.2) us ps → Vals (ps.map (·.1)) us ∧ DRs K F (ps.map (·.1)) (ps.map (·.2))
  | [], _, h => by cases h; exact ⟨.nil, .nil⟩
  | p :: ps, _, h => by
    cases h with
    | cons a b =>
      obtain ⟨h1, h2⟩ := of_each b
      exact ⟨.cons a.1 h1, .cons a.2 h2⟩
theorem DRs.zip2 {K : PySem.W.Frag} {F : Hp} : ∀ {ds : List D} {vs : List V}, DRs K F vs ds → (vs.zip ds).map (·.2) = ds
  | [], _, h => by cases h; rfl
  | d :: ds, _, h => by
    cases h with
    | cons a b => rw [List.zip_cons_cons, List.map_cons, DRs.zip2 b]
theorem c_sortD {k : Nat} (hr : Room k X.A) : CallR X (.builtin "sorted") (ls X.K rSortD) := by
  intro pins s σ H vs us Q I r ⟨F, M, G, ds, Q', rel, dv, q, o⟩
  unfold rSortD at q
  split at q
  · obtain ⟨v, rfl, z⟩ := one_of dv
    obtain ⟨xs, e, sh, al, so, hL, q⟩ := q
    obtain ⟨u, rfl, ru⟩ := r.one
    obtain ⟨a, ws, rfl, z2, hh⟩ := asI_at rel z e
    cases ru
    have hu := hu64 hr
    have fin : ∀ {T : String} {ob : Obj} {n : Nat} {its : List Value}, (T = "list" ∨ T = "tuple") → s.heap.get? a = some ob → ob.cls = .type T → ob.data = .seq its.toArray n → Vals ws its → wpAny (model X.prog X.w) X.A (call (.builtin "sorted") [.ref a]) (EP X pins σ Q) X.xe s := fun {T ob n its} hT ho hc hd rv => by
      have em : (ws.zip xs).map (fun p => py p.2) = xs.map py := by
        have := congrArg (List.map py) z2.zip2
        rw [List.map_map] at this
        exact this
      refine sorted_seq (R := fun u (p : V × D) => RelV p.1 u ∧ DR X.K F p.1 p.2) (bs := ws.zip xs) (enc := fun p => py p.2) hT ho hc hd (each_of rv z2) ?_ (by rw [em]; exact al) (by rw [em]; exact so) (by rw [List.length_zip, z2.len, Nat.min_self]; exact hL) (fun b hb => ?_) fun h' f out k1 k2 ⟨ep, h3⟩ eo => ?_
      · refine (PySem.W.each_mem (each_of rv z2)).mono fun u p ⟨⟨h1, h2⟩, hp⟩ => ?_
        exact Dp.reads I _ _ _ (DR.dp rel.sub p.2 p.1 (sh_noObj 30 p.2 (sh p.2 (List.of_mem_zip (show (p.1, p.2) ∈ ws.zip xs from hp)).2)) h2) h1
      · have := (sh_py 30 b.2 (sh b.2 (List.of_mem_zip (show (b.1, b.2) ∈ ws.zip xs from hb)).2)).2
        show X.A.units + 2 + (py b.2).depth < cLine
        omega
      · obtain ⟨v1, d1⟩ := of_each eo
        have e3 : ((ws.zip xs).mergeSort (PySem.W.dataLe false fun p => py p.2)).map (·.2) = xs.mergeSort (PySem.W.dataLe false py) := by
          have z := List.map_mergeSort (f := fun (p : V × D) => p.2) (r := PySem.W.dataLe false fun (p : V × D) => py p.2) (s := PySem.W.dataLe false py) (l := ws.zip xs) (fun a _ b _ => rfl)
          rw [z2.zip2] at z
          exact z
        rw [e3] at d1
        have I1 : Inv X pins σ H { s with heap := h' } := I.kept (t' := s.toks) k1
        have hp : H h'.objs.size = none := I1.hok.fresh (Nat.le_refl _)
        refine ⟨.ref h'.objs.size, upd H h'.objs.size (.lst _), I1.laid (t' := s.toks) k2 (Nat.le_refl _) ⟨?_, out, ep, v1, h3⟩, rfl, o.newL rel d1 q _ hp⟩
        rw [List.length_map, List.length_mergeSort, List.length_zip, z2.len, Nat.min_self]
        exact hL
    rcases hh with hl | ⟨ht, _⟩
    · obtain ⟨its, rv, pl, hz⟩ := I.list hl
      obtain ⟨ob, h1, h2, n, h3⟩ := pl.isList
      exact fin (.inl rfl) h1 h2 h3 rv
    · obtain ⟨its, rv, pl, hz⟩ := I.tuple ht
      obtain ⟨ob, h1, h2, n, h3⟩ := pl
      exact fin (.inr rfl) h1 h2 h3 rv
  · exact q.elim
end
end VL
namespace VL
open PySem PySem.Spec L2
open PyProof.Rows (envOfC)

/-- x names this def -/
structure Df (K : PySem.W.Frag) (mg : Str → Option Value) (x : Str) (st : Stmt) : Prop where
  ex : ∃ f fd, mg x = some (.ref f) ∧ FunD K x x (defArgs st) (defBody st) (defScope st) [] [] f fd
/-- x names a def that keeps its promise -/
structure Kn (P : Program) (w : World) (K : PySem.W.Frag) (mg : Str → Option Value) (base : Heap) (k : Nat) (x : Str) (ps : List Str) (φ : VSp) : Prop where
  ex : ∃ f fd, mg x = some (.ref f) ∧ PySem.W.keepIn K (.ref f) = true ∧ Binds K fd ps [] ∧ (∀ (s : Shared) (us : List Value), us.length = ps.length → BindsTo s fd ⟨us, []⟩ (ps.zip us)) ∧ (∃ oc od osl, K.lookup f = some ⟨oc, od, .func fd, osl⟩) ∧ FnG P w K mg base CX0 k f fd ps (lSp K φ)
theorem kn_of {P : Program} {w : World} {K : PySem.W.Frag} {mg : Str → Option Value} {base : Heap} {x : Str} {st : Stmt} {N ps : List Str} {k : Nat} {φ : VSp} (hD : Df K mg x st) (S : FnScope N ps (defScope st))
    (hb : ∀ (kV doc pm : Value) (an : Option Addr) (cdv ct : Value) (us : List Value), us.length = ps.length → bindArgs (PySem.W.fnOf x x (defArgs st) (defBody st) (defScope st) .none kV doc pm an cdv ct) ⟨us, []⟩ = pure (ps.zip us))
    (len : ∀ ds M Q, φ ds M Q → ds.length = ps.length)
    (hbody : ∀ (f : Addr) (cdv : Value) (A : Around) (outer : List Env) (s : Shared) (H : Hp) (E : XK), RmG k (A.deeper (envOfC x (defScope st) s.heap.objs.size f cdv)) →
      ∃ t, VSs (cxOf CX0 P w K mg base N x (defScope st) f cdv A outer s H E).nox (defBody st) t ∧ ∀ ds M Q, φ ds M Q → t { nx := fun _ M' => Q .non M', rt := Q } (vstart N.length ds) M) : Kn P w K mg base (k + 1) x ps φ := by
  obtain ⟨f, fd, hm, F⟩ := hD.ex
  have lk : ∃ oc od osl, K.lookup f = some ⟨oc, od, .func fd, osl⟩ := by
    obtain ⟨oc, od, dV, kV, doc, pm, an, cdv, ct, osl, rfl, lk, hcd, _, _⟩ := F.ex
    exact ⟨oc, od, osl, lk⟩
  exact ⟨f, fd, hm, F.kp, F.bindsN hb, FunD.bindsA F hb, lk, okG F S len fun cdv A outer s H E hr => hbody f cdv A outer s H E hr⟩
theorem kn_ofD {P : Program} {w : World} {K : PySem.W.Frag} {mg : Str → Option Value} {base : Heap} {x : Str} {st : Stmt} {N ps : List Str} {k : Nat} {φ : VSp} (hD : Df K mg x st) (S : FnScope N ps (defScope st))
    (hb : ∀ (kV doc pm : Value) (an : Option Addr) (cdv ct : Value) (us : List Value), us.length = ps.length → bindArgs (PySem.W.fnOf x x (defArgs st) (defBody st) (defScope st) .none kV doc pm an cdv ct) ⟨us, []⟩ = pure (ps.zip us))
    (len : ∀ ds M Q, φ ds M Q → ds.length = ps.length)
    (hbody : ∀ (f : Addr) (cdv : Value) (A : Around) (outer : List Env) (s : Shared) (H : Hp) (E : XK), RmG k (A.deeper (envOfC x (defScope st) s.heap.objs.size f cdv)) →
      ∃ t, VSs (cxOf CX0 P w K mg base N x (defScope st) f cdv A outer s H E).nox (defBody st) t ∧ ∀ ds M Q, φ ds M Q → t { nx := fun _ M' => ∃ M'', Sub M'' M' ∧ Q .non M'', rt := fun d M' => ∃ M'', Sub M'' M' ∧ Q d M'' } (vstart N.length ds) M) : Kn P w K mg base (k + 1) x ps φ := by
  obtain ⟨f, fd, hm, F⟩ := hD.ex
  have lk : ∃ oc od osl, K.lookup f = some ⟨oc, od, .func fd, osl⟩ := by
    obtain ⟨oc, od, dV, kV, doc, pm, an, cdv, ct, osl, rfl, lk, hcd, _, _⟩ := F.ex
    exact ⟨oc, od, osl, lk⟩
  exact ⟨f, fd, hm, F.kp, F.bindsN hb, FunD.bindsA F hb, lk, okGD F S len fun cdv A outer s H E hr => hbody f cdv A outer s H E hr⟩
theorem Kn.imp {P : Program} {w : World} {K : PySem.W.Frag} {mg : Str → Option Value} {base : Heap} {k : Nat} {x : Str} {ps : List Str} {φ ψ : VSp} (h : Kn P w K mg base k x ps φ) (i : ∀ ds M Q, ψ ds M Q → φ ds M Q) : Kn P w K mg base k x ps ψ := by
  obtain ⟨f, fd, hm, kp, b1, b2, lk, F⟩ := h.ex
  refine ⟨f, fd, hm, kp, b1, b2, lk, ⟨fun vs H Q E ⟨F', M, G, ds, Q', dv, r, q, o⟩ => F.len vs H Q E ⟨F', M, G, ds, Q', dv, r, i _ _ _ q, o⟩, fun A outer s H args us vs Q E hr e0 bt rv ⟨F', M, G, ds, Q', dv, r, q, o⟩ => F.run A outer s H args us vs Q E hr e0 bt rv ⟨F', M, G, ds, Q', dv, r, i _ _ _ q, o⟩⟩⟩
section
variable {X : Cx} {e : Expr} {es : List Expr} {t : VTA} {pos p : Pos} {x : Str} {j k : Nat} {ps : List Str} {φ : VSp}
theorem v_callK (F : Kn X.prog X.w X.K X.mg X.base j x ps φ) (hr : RmG k X.A) (ha : VA X (e :: es) t) (hk : j ≤ k := by decide) (hg : Gl X x := by rfl)
    (hdb : (x == ("__debug__" : Str)) = false := by decide) (he : starEach (e :: es) X.env = (false, eval e X.env) :: starEach es X.env := by rfl) (hpl : (backTo pos (starEach es X.env)).any (·.1) = false := by rfl) :
    VE X (.Call (.Name x p) (e :: es) [] pos) (vFn φ t) := by
  obtain ⟨f, fd, hm, kp, b1, b2, lk, F⟩ := F.ex
  exact v_call (F.mono hk) hr hm kp b1 ha hg hdb he hpl
end
def pr1 (f : D → Mem → VK → Prop) : VSp := fun ds M Q => ∃ a, ds = [a] ∧ f a M Q
def pr2 (f : D → D → Mem → VK → Prop) : VSp := fun ds M Q => ∃ a b, ds = [a, b] ∧ f a b M Q
def pr3 (f : D → D → D → Mem → VK → Prop) : VSp := fun ds M Q => ∃ a b c, ds = [a, b, c] ∧ f a b c M Q
theorem pr1_len {f : D → Mem → VK → Prop} {x : Str} : ∀ ds M Q, pr1 f ds M Q → ds.length = [x].length := fun ds M Q ⟨a, e, _⟩ => by rw [e] <;> rfl
theorem pr2_len {f : D → D → Mem → VK → Prop} {x y : Str} : ∀ ds M Q, pr2 f ds M Q → ds.length = [x, y].length := fun ds M Q ⟨a, b, e, _⟩ => by rw [e] <;> rfl
theorem pr3_len {f : D → D → D → Mem → VK → Prop} {x y z : Str} : ∀ ds M Q, pr3 f ds M Q → ds.length = [x, y, z].length := fun ds M Q ⟨a, b, c, e, _⟩ => by rw [e] <;> rfl
/-- names that are built-ins -/
def Fr (mg : Str → Option Value) (bl : List Str) : Prop := ∀ x ∈ bl, mg x = none

theorem walk_K {l : PySem.W.OpenLaw} {n k : Nat} {q : Program} {loose : List Str} {XP : (Str → Option Value) → Heap → Prop} {YP : World → Heap → Prop} {d : DefRec} {x : Str} {φ : VSp}
    (most : l.most = some n) (short : n ≤ sizeLine) (nodef : d.params.defaults = []) (room : Room k callerA) (hφ : ∀ (ns : List Int), ns.length ≤ n → ∀ M : Mem, φ [.rd (ns.map D.int)] M fun d _ => d = .bl true)
    (F : ∀ (w : World) (mg : Str → Option Value) (h : Heap), YP w h → h.Ns mainGlobals mg → ∃ (K : PySem.W.Frag), K.In h ∧ ∀ base : Heap, K.In base → base.Ns mainGlobals mg → Kn l.prog w K mg base k d.name [x] φ) :
    PySem.W.WalkO q loose XP YP l.row.toRowW d [] (fun f vs => PySem.call f vs) :=
  walk_G most short nodef room fun w mg fa h Y G hmg => by
    obtain ⟨K, KX, hK⟩ := F w mg h Y G
    obtain ⟨f, fd, hm, kp, b1, b2, ⟨oc, od, osl, lk⟩, _⟩ := (hK h KX G).ex
    rw [hmg] at hm
    cases hm
    refine ⟨K, fd, φ, KX, fun s u => b2 s [u] rfl, hφ, fun base hb hG => ?_⟩
    obtain ⟨f', fd', hm', kp', b1', b2', ⟨oc', od', osl', lk'⟩, F'⟩ := (hK base hb hG).ex
    rw [hmg] at hm'
    cases hm'
    rw [lk] at lk'
    cases lk'
    exact F'
end VL
namespace VL
open PySem PySem.Spec L2
@[simp] theorem oEq_int {i j : Int} {M : Mem} {Q : VL.VK} : oEq (.int i) (.int j) M Q ↔ Q (.bl (decide (i = j))) M := by
  unfold oEq
  constructor
  · rintro (⟨a, b, e, _⟩ | ⟨_, _, q⟩)
    · cases e
    · rw [fz_int, fz_int, eqD_int] at q; exact q
  · intro q
    exact .inr ⟨sh_int, sh_int, by rw [fz_int, fz_int, eqD_int]; exact q⟩
@[simp] theorem oNe_int {i j : Int} {M : Mem} {Q : VL.VK} : oNe (.int i) (.int j) M Q ↔ Q (.bl (!decide (i = j))) M := by
  unfold oNe
  constructor
  · rintro (⟨a, b, e, _⟩ | ⟨_, _, q⟩)
    · cases e
    · rw [fz_int, fz_int, eqD_int] at q; exact q
  · intro q
    exact .inr ⟨sh_int, sh_int, by rw [fz_int, fz_int, eqD_int]; exact q⟩
@[simp] theorem oNe_str {i j : Str} {M : Mem} {Q : VL.VK} : oNe (.str i) (.str j) M Q ↔ Q (.bl (!decide (i = j))) M := by
  unfold oNe
  constructor
  · rintro (⟨a, b, e, e2, q⟩ | ⟨_, _, q⟩)
    · cases e; cases e2; exact q
    · rw [fz_str, fz_str, eqD_str] at q; exact q
  · intro q
    exact .inl ⟨i, j, rfl, rfl, q⟩
@[simp] theorem oEq_str {i j : Str} {M : Mem} {Q : VL.VK} : oEq (.str i) (.str j) M Q ↔ Q (.bl (decide (i = j))) M := by
  unfold oEq
  constructor
  · rintro (⟨a, b, e, e2, q⟩ | ⟨_, _, q⟩)
    · cases e; cases e2; exact q
    · rw [fz_str, fz_str, eqD_str] at q; exact q
  · intro q
    exact .inl ⟨i, j, rfl, rfl, q⟩
theorem eqDs_nil_iff {xs : List D} : eqDs xs [] = xs.isEmpty := by
  cases xs with
  | nil => rw [eqDs_nil] <;> rfl
  | cons x xs => rw [eqDs_cn] <;> rfl
theorem fz_of {M : Mem} {d : D} {xs : List D} (h : asL M d = some xs) : fz M d = .lst xs := by unfold fz; rw [h]
/-- xs != [] -/
theorem oNe_nil {d : D} {xs : List D} {M : Mem} {Q : VL.VK} (h : asL M d = some xs) (s : ∀ x ∈ xs, Sh 29 x) (q : Q (.bl (!xs.isEmpty)) M) : oNe d (.lst []) M Q :=
  .inr ⟨by rw [fz_of h]; exact s, by rw [fz_lst]; exact (fun _ z => nomatch z), by rw [fz_of h, fz_lst, eqD_lst, eqDs_nil_iff]; exact q⟩
@[simp] theorem asL_lst {M : Mem} {xs : List D} : asL M (.lst xs) = some xs := rfl
@[simp] theorem asL_rd {M : Mem} {xs : List D} : asL M (.rd xs) = some xs := rfl
@[simp] theorem asP_lst {M : Mem} {xs : List D} : asP M (.lst xs) = some xs := rfl
@[simp] theorem asL_tup {M : Mem} {xs : List D} : asL M (.tup xs) = none := rfl
@[simp] theorem mupd_same' {M : Mem} {a : Addr} {o : MO} : mupd M a o a = some o := mupd_same
@[simp] theorem kB_int_int : kitB "int" "int" = some true := by decide +kernel
@[simp] theorem kB_int_bool : kitB "int" "bool" = some false := by decide +kernel
@[simp] theorem kB_tup_tup : kitB "tuple" "tuple" = some true := by decide +kernel
@[simp] theorem fz_int' {M : Mem} {i : Int} : fz M (.int i) = .int i := rfl
@[simp] theorem pr1_at {f : D → Mem → VL.VK → Prop} {a : D} {M : Mem} {Q : VL.VK} : pr1 f [a] M Q ↔ f a M Q := ⟨fun ⟨_, e, h⟩ => by cases e; exact h, fun h => ⟨a, rfl, h⟩⟩
@[simp] theorem pr2_at {f : D → D → Mem → VL.VK → Prop} {a b : D} {M : Mem} {Q : VL.VK} : pr2 f [a, b] M Q ↔ f a b M Q := ⟨fun ⟨_, _, e, h⟩ => by cases e; exact h, fun h => ⟨a, b, rfl, h⟩⟩
@[simp] theorem pr3_at {f : D → D → D → Mem → VL.VK → Prop} {a b c : D} {M : Mem} {Q : VL.VK} : pr3 f [a, b, c] M Q ↔ f a b c M Q := ⟨fun ⟨_, _, _, e, h⟩ => by cases e; exact h, fun h => ⟨a, b, c, rfl, h⟩⟩
@[simp] theorem oSl_tup {xs : List D} {lo hi : Option Int} {M : Mem} {Q : VL.VK} : oSl (.tup xs) lo hi M Q ↔ Q (.tup (cutD xs lo hi)) M := Iff.rfl
@[simp] theorem oSl_lst {xs : List D} {lo hi : Option Int} {M : Mem} {Q : VL.VK} : oSl (.lst xs) lo hi M Q ↔ Q (.lst (cutD xs lo hi)) M := ⟨fun ⟨_, e, q⟩ => by cases e; exact q, fun q => ⟨_, rfl, q⟩⟩
@[simp] theorem oSl_rd {xs : List D} {lo hi : Option Int} {M : Mem} {Q : VL.VK} : oSl (.rd xs) lo hi M Q ↔ Q (.lst (cutD xs lo hi)) M := ⟨fun ⟨_, e, q⟩ => by cases e; exact q, fun q => ⟨_, rfl, q⟩⟩
theorem cut_tail {α : Type} (xs : List α) : cutD xs (some 1) none = xs.tail := by
  unfold cutD
  cases xs with
  | nil => rfl
  | cons x xs =>
    have e1 : HT.sIx (x :: xs).length 0 (some 1) = 1 := by
      show (if (1 : Int) < 0 then ((1 : Int) + ((x :: xs).length : Int)).toNat else min (1 : Int).toNat (x :: xs).length) = 1
      rw [if_neg (by decide)]
      simp
    have e2 : HT.sIx (x :: xs).length (x :: xs).length none = (x :: xs).length := rfl
    rw [e1, e2]
    simp
theorem cut_take {α : Type} (xs : List α) (k : Nat) : cutD xs none (some (k : Int)) = xs.take k := by
  unfold cutD
  have e2 : HT.sIx xs.length xs.length (some (k : Int)) = min k xs.length := HT.sIx_nat _ _ _
  have e1 : HT.sIx xs.length 0 none = 0 := rfl
  rw [e1, e2, List.drop_zero, Nat.sub_zero]
  rcases Nat.le_total k xs.length with h | h
  · rw [Nat.min_eq_left h]
  · rw [Nat.min_eq_right h, List.take_length, List.take_of_length_le h]
@[simp] theorem gMore_cons {t : VTG} {u : VTGs} {d : D} {ds : List D} {e : VEnv} {M : Mem} {Q : VEnv → Mem → Prop} : gMore t u (d :: ds) e M Q ↔ t d e M fun e1 M1 => u ds e1 M1 Q := ⟨fun ⟨_, _, e, q⟩ => by cases e; exact q, fun q => ⟨d, ds, rfl, q⟩⟩
@[simp] theorem gNone_nil {e : VEnv} {M : Mem} {Q : VEnv → Mem → Prop} : gNone [] e M Q ↔ Q e M := ⟨fun q => q.2, fun q => ⟨rfl, q⟩⟩
theorem atI_ge {α : Type} {xs : List α} {i : Int} (h : 0 ≤ i) : L2.atI xs i = xs[i.toNat]? := by
  unfold L2.atI L2.ixN
  rw [if_pos h]
  by_cases h1 : i < xs.length
  · rw [if_pos h1] <;> rfl
  · rw [if_neg h1, List.getElem?_eq_none (by omega)] <;> rfl
@[simp] theorem atI_0 {α : Type} {xs : List α} : L2.atI xs 0 = xs[0]? := atI_ge (by decide)
@[simp] theorem atI_1 {α : Type} {xs : List α} : L2.atI xs 1 = xs[1]? := atI_ge (by decide)
@[simp] theorem atI_2 {α : Type} {xs : List α} : L2.atI xs 2 = xs[2]? := atI_ge (by decide)
theorem atI_k {α : Type} {xs : List α} {k : Nat} : L2.atI xs (k : Int) = xs[k]? := by rw [atI_ge (by omega)]; simp
@[simp] theorem asL_mupd {M : Mem} {a : Addr} {xs : List D} : asL (mupd M a (.lst xs)) (.obj a) = some xs := asL_obj mupd_same
@[simp] theorem asP_mupd {M : Mem} {a : Addr} {xs : List D} : asP (mupd M a (.lst xs)) (.obj a) = some xs := asP_obj mupd_same
@[simp] theorem mupd_mupd' {M : Mem} {a : Addr} {o u : MO} : mupd (mupd M a o) a u = mupd M a u := mupd_mupd
theorem pow3_ok {X : Int} (h0 : 0 ≤ X) (h1 : X < 9223372036854775808) : PowOk X 3 := by
  refine ⟨by decide, by decide, ?_, ?_⟩
  · have : X.natAbs.log2 ≤ 63 := by
      rcases Nat.eq_zero_or_pos X.natAbs with h | h
      · rw [h]; decide
      · have := (Nat.log2_lt (n := X.natAbs) (k := 63) (by omega)).mpr (by omega)
        omega
    omega
  · have : X.natAbs.log2 ≤ 63 := by
      rcases Nat.eq_zero_or_pos X.natAbs with h | h
      · rw [h]; decide
      · have := (Nat.log2_lt (n := X.natAbs) (k := 63) (by omega)).mpr (by omega)
        omega
    omega
theorem take_bd {x n k c : Int} (x1 : 0 ≤ x) (x2 : x < 4611686018427387904) (n1 : 0 ≤ n) (n2 : n ≤ 1000000) (k1 : 0 ≤ k) (k2 : k ≤ 1000000) (c1 : 0 ≤ c) (c2 : c ≤ 1000000) : 0 ≤ x + k * n * n + c ∧ x + k * n * n + c < 9223372036854775808 := by
  have q1 : n * n ≤ 1000000 * 1000000 := Int.mul_le_mul n2 n2 n1 (by decide)
  have q0 : 0 ≤ n * n := Int.mul_nonneg n1 n1
  have q2 : k * (n * n) ≤ 1000000 * (1000000 * 1000000) := Int.mul_le_mul k2 q1 q0 (by decide)
  have q3 : 0 ≤ k * (n * n) := Int.mul_nonneg k1 q0
  rw [Int.mul_assoc]
  omega
theorem log2_small {n : Nat} (h : n ≤ 10000000) : n.log2 < 9000 := by
  rcases Nat.eq_zero_or_pos n with h0 | h0
  · rw [h0]; decide
  · have := (Nat.log2_lt (n := n) (k := 24) (by omega)).mpr (by omega)
    omega
theorem ite01 {p : Prop} [Decidable p] : 0 ≤ (if p then (1 : Int) else 0) := by split <;> decide
theorem ite01a {p : Prop} [Decidable p] : (if p then (1 : Int) else 0).natAbs < 18446744073709551616 := by split <;> decide
theorem mupd3_a {M : Mem} {p a b : Addr} {l l' x y : MO} (h1 : p ≠ a) (h2 : p ≠ b) : mupd (mupd (mupd (mupd M p l) a x) b y) p l' = mupd (mupd (mupd M p l') a x) b y := by
  funext c
  simp only [mupd]
  by_cases e1 : c = p
  · subst e1; simp [h1, h2]
  · simp [e1]
theorem mupd3_b {M : Mem} {a b : Addr} {x y x' : MO} (h : a ≠ b) : mupd (mupd (mupd M a x) b y) a x' = mupd (mupd M a x') b y := by
  funext c
  simp only [mupd]
  by_cases e1 : c = a
  · subst e1; simp [h]
  · simp [e1]
theorem size1000 : 1000 < sizeLine := by decide
/-- for over the items, the body goes on: J i e M holds ahead of the i-th item -/
theorem sFor_by {ti : VTI} {g : VTG} {tb : VTS} {D : VEnds} {e : VEnv} {M : Mem} (w : VIt) (P : Nat → VEnv → Mem → Prop)
    (hi : ∀ R : VIt → Mem → Prop, R w M → ti e M R) (h0 : P 0 e M) (hok : ∀ i e M, i ≤ w.ds.length → P i e M → w.ok M)
    (ht : ∀ i d e M, w.ds[i]? = some d → P i e M → g d e M fun e2 M2 => tb { D with nx := P (i + 1), ct := P (i + 1), bk := D.nx } e2 M2) (hd : ∀ e M, P w.ds.length e M → D.nx e M) : sFor ti g tb D e M :=
  hi _ ⟨P, h0, hok, ht, hd⟩
/-- a comprehension that changes nothing: each item gives a value or nothing -/
def fmap (f : D → Option D) (xs : List D) : List D := xs.filterMap f
theorem vLc_by {ti : VTI} {g : VTG} {tt : VTT} {te : VTE} {vs : List Nat} {e : VEnv} {M : Mem} {Q : VL.VK} (w : VIt) (f : D → Option D) (hi : ∀ R : VIt → Mem → Prop, R w M → ti e M R) (hok : w.ok M) (hl : w.ds.length < sizeLine)
    (ht : ∀ d ∈ w.ds, ∀ (A : D → Mem → Prop) (B : Mem → Prop), (∀ y, f d = some y → A y M) → (f d = none → B M) → g d (vwipe e vs) M fun e2 M2 => tt e2 M2 fun b M3 => if b = true then te e2 M3 A else B M3)
    (q : Q (.lst (w.ds.filterMap f)) M) : vLc ti g tt te vs e M Q := by
  refine hi _ ⟨fun i acc M' => M' = M ∧ i ≤ w.ds.length ∧ acc = (w.ds.take i).filterMap f, ⟨rfl, Nat.zero_le _, by simp⟩, fun i acc M' _ z => by rw [z.1]; exact hok, fun i d acc M' hd ⟨e1, hi, e2⟩ => ?_, fun acc M' ⟨e1, _, e2⟩ => ?_⟩
  · subst e1
    have hlt : i < w.ds.length := by
      rcases Nat.lt_or_ge i w.ds.length with h1 | h1
      · exact h1
      · rw [List.getElem?_eq_none h1] at hd; cases hd
    have hmem : d ∈ w.ds := List.mem_of_getElem? hd
    have htk : w.ds.take (i + 1) = w.ds.take i ++ [d] := by
      rw [List.take_add_one, hd] <;> rfl
    have hal : acc.length < sizeLine := by
      have h1 : acc.length ≤ (w.ds.take i).length := by rw [e2]; exact List.length_filterMap_le ..
      have h2 : (w.ds.take i).length ≤ w.ds.length := by rw [List.length_take]; exact Nat.min_le_right _ _
      omega
    exact ht d hmem (fun y M4 => acc.length < sizeLine ∧ M4 = M' ∧ i + 1 ≤ w.ds.length ∧ acc ++ [y] = (w.ds.take (i + 1)).filterMap f) (fun M3 => M3 = M' ∧ i + 1 ≤ w.ds.length ∧ acc = (w.ds.take (i + 1)).filterMap f)
      (fun y hy => ⟨hal, rfl, hlt, by rw [htk, List.filterMap_append, e2]; simp [hy]⟩) (fun hn => ⟨rfl, hlt, by rw [htk, List.filterMap_append, e2]; simp [hn]⟩)
  · subst e1
    rw [e2, List.take_length]
    exact q
@[simp] theorem sz0 : 0 ≤ sizeLine := by decide
@[simp] theorem sz1 : 1 ≤ sizeLine := by decide
@[simp] theorem sz2 : 2 ≤ sizeLine := by decide
@[simp] theorem sz3 : 3 ≤ sizeLine := by decide
@[simp] theorem sz4 : 4 ≤ sizeLine := by decide
@[simp] theorem sz5 : 5 ≤ sizeLine := by decide
@[simp] theorem sz6 : 6 ≤ sizeLine := by decide
@[simp] theorem sz7 : 7 ≤ sizeLine := by decide
@[simp] theorem sz8 : 8 ≤ sizeLine := by decide
@[simp] theorem sz9 : 9 ≤ sizeLine := by decide
theorem sFor_al {α : Type} {ti : VTI} {g : VTG} {tb : VTS} {D' : VEnds} {e : VEnv} {M : Mem} {w : VIt} (xs : List α) (f : α → D) (P : Nat → VEnv → Mem → Prop)
    (hi : ∀ R : VIt → Mem → Prop, R w M → ti e M R) (hw : w.ds = xs.map f) (h0 : P 0 e M) (hok : ∀ i e M, i ≤ xs.length → P i e M → w.ok M)
    (ht : ∀ i x e M, xs[i]? = some x → i < xs.length → P i e M → g (f x) e M fun e2 M2 => tb { D' with nx := P (i + 1), ct := P (i + 1), bk := D'.nx } e2 M2) (hd : ∀ e M, P xs.length e M → D'.nx e M) : sFor ti g tb D' e M := by
  have hl : w.ds.length = xs.length := by rw [hw, List.length_map]
  refine hi _ ⟨P, h0, fun i e M hi => hok i e M (by rw [← hl]; exact hi), fun i d e M hd' hp => ?_, fun e M hp => hd e M (by rw [← hl]; exact hp)⟩
  rw [hw, List.getElem?_map] at hd'
  cases hx : xs[i]? with
  | none => rw [hx] at hd'; cases hd'
  | some x =>
    rw [hx] at hd'
    cases hd'
    exact ht i x e M hx (by rcases Nat.lt_or_ge i xs.length with h1 | h1; exact h1; rw [List.getElem?_eq_none h1] at hx; cases hx) hp
/-- what is asked of a comprehension once its items are known -/
def LcEx (g : VTG) (tt : VTT) (te : VTE) (vs : List Nat) (e : VEnv) (Q : VL.VK) (w : VIt) (M1 : Mem) : Prop := ∃ P : Nat → List D → Mem → Prop, P 0 [] M1 ∧ (∀ i acc M, i ≤ w.ds.length → P i acc M → w.ok M) ∧
  (∀ i d acc M, w.ds[i]? = some d → P i acc M → g d (vwipe e vs) M fun e2 M2 => tt e2 M2 fun b M3 => if b = true then te e2 M3 fun y M4 => acc.length < sizeLine ∧ P (i + 1) (acc ++ [y]) M4 else P (i + 1) acc M3) ∧
  ∀ acc M, P w.ds.length acc M → Q (.lst acc) M
theorem vLc_of {ti : VTI} {g : VTG} {tt : VTT} {te : VTE} {vs : List Nat} {e : VEnv} {M : Mem} {Q : VL.VK} (h : ti e M fun w M1 => LcEx g tt te vs e Q w M1) : vLc ti g tt te vs e M Q := h
theorem lcEx_alF {α : Type} {g : VTG} {tt : VTT} {te : VTE} {vs : List Nat} {e : VEnv} {M : Mem} {Q : VL.VK} {w : VIt} (xs : List α) (f : α → D) (p : α → Bool) (h : α → D) (hw : w.ds = xs.map f) (hok : w.ok M) (hl : xs.length < sizeLine)
    (ht : ∀ x ∈ xs, ∀ (A : D → Mem → Prop) (B : Mem → Prop), (p x = true → A (h x) M) → (p x = false → B M) → g (f x) (vwipe e vs) M fun e2 M2 => tt e2 M2 fun b M3 => if b = true then te e2 M3 A else B M3)
    (q : Q (.lst ((xs.filter p).map h)) M) : LcEx g tt te vs e Q w M := by
  have hlw : w.ds.length = xs.length := by rw [hw, List.length_map]
  refine ⟨fun i acc M' => M' = M ∧ i ≤ xs.length ∧ acc = ((xs.take i).filter p).map h, ⟨rfl, Nat.zero_le _, by simp⟩, fun i acc M' _ z => by rw [z.1]; exact hok, fun i d acc M' hd ⟨e1, hi, e2⟩ => ?_, fun acc M' ⟨e1, _, e2⟩ => ?_⟩
  · subst e1
    rw [hw, List.getElem?_map] at hd
    cases hx : xs[i]? with
    | none => rw [hx] at hd; cases hd
    | some x =>
      rw [hx] at hd
      cases hd
      have hlt : i < xs.length := by
        rcases Nat.lt_or_ge i xs.length with h1 | h1
        · exact h1
        · rw [List.getElem?_eq_none h1] at hx; cases hx
      have htk : xs.take (i + 1) = xs.take i ++ [x] := by
        rw [List.take_add_one, hx] <;> rfl
      have hal : acc.length < sizeLine := by
        have h1 : acc.length ≤ (xs.take i).length := by rw [e2, List.length_map]; exact List.length_filter_le ..
        have h2 : (xs.take i).length ≤ xs.length := by rw [List.length_take]; exact Nat.min_le_right _ _
        omega
      exact ht x (List.mem_of_getElem? hx) (fun y M4 => acc.length < sizeLine ∧ M4 = M' ∧ i + 1 ≤ xs.length ∧ acc ++ [y] = ((xs.take (i + 1)).filter p).map h) (fun M3 => M3 = M' ∧ i + 1 ≤ xs.length ∧ acc = ((xs.take (i + 1)).filter p).map h)
        (fun hp => ⟨hal, rfl, hlt, by rw [htk, List.filter_append, List.map_append, e2]; simp [hp]⟩) (fun hn => ⟨rfl, hlt, by rw [htk, List.filter_append, List.map_append, e2]; simp [hn]⟩)
  · subst e1
    rw [e2, hlw, List.take_length]
    exact q
theorem vLc_alF {α : Type} {ti : VTI} {g : VTG} {tt : VTT} {te : VTE} {vs : List Nat} {e : VEnv} {M : Mem} {Q : VL.VK} {w : VIt} (xs : List α) (f : α → D) (p : α → Bool) (h : α → D) (hi : ∀ R : VIt → Mem → Prop, R w M → ti e M R) (hw : w.ds = xs.map f) (hok : w.ok M) (hl : xs.length < sizeLine)
    (ht : ∀ x ∈ xs, ∀ (A : D → Mem → Prop) (B : Mem → Prop), (p x = true → A (h x) M) → (p x = false → B M) → g (f x) (vwipe e vs) M fun e2 M2 => tt e2 M2 fun b M3 => if b = true then te e2 M3 A else B M3)
    (q : Q (.lst ((xs.filter p).map h)) M) : vLc ti g tt te vs e M Q := hi _ (lcEx_alF xs f p h hw hok hl ht q)
theorem lcEx_al {α : Type} {g : VTG} {te : VTE} {vs : List Nat} {e : VEnv} {M : Mem} {Q : VL.VK} {w : VIt} (xs : List α) (f : α → D) (h : α → D) (hw : w.ds = xs.map f) (hok : w.ok M) (hl : xs.length < sizeLine)
    (ht : ∀ x ∈ xs, ∀ (A : D → Mem → Prop), A (h x) M → g (f x) (vwipe e vs) M fun e2 M2 => te e2 M2 A)
    (q : Q (.lst (xs.map h)) M) : LcEx g vYes te vs e Q w M := by
  refine lcEx_alF xs f (fun _ => true) h hw hok hl (fun d hd A B hA _ => ?_) (by rw [List.filter_eq_self.mpr (fun _ _ => rfl)]; exact q)
  have := ht d hd A (hA rfl)
  simpa using this
theorem vLc_al {α : Type} {ti : VTI} {g : VTG} {te : VTE} {vs : List Nat} {e : VEnv} {M : Mem} {Q : VL.VK} {w : VIt} (xs : List α) (f : α → D) (h : α → D) (hi : ∀ R : VIt → Mem → Prop, R w M → ti e M R) (hw : w.ds = xs.map f) (hok : w.ok M) (hl : xs.length < sizeLine)
    (ht : ∀ x ∈ xs, ∀ (A : D → Mem → Prop), A (h x) M → g (f x) (vwipe e vs) M fun e2 M2 => te e2 M2 A)
    (q : Q (.lst (xs.map h)) M) : vLc ti g vYes te vs e M Q := by
  refine vLc_alF xs f (fun _ => true) h hi hw hok hl (fun d hd A B hA _ => ?_) (by rw [List.filter_eq_self.mpr (fun _ _ => rfl)]; exact q)
  have := ht d hd A (hA rfl)
  simpa using this
/-- a list that may change, made item by item, the memory left alone -/
theorem vLcO_al {α : Type} {ti : VTI} {g : VTG} {te : VTE} {vs : List Nat} {e : VEnv} {M : Mem} {Q : VL.VK} {w : VIt} (xs : List α) (f : α → D) (h : α → D) (hi : ∀ R : VIt → Mem → Prop, R w M → ti e M R) (hw : w.ds = xs.map f) (hok : w.ok M) (hl : xs.length < sizeLine)
    (ht : ∀ x ∈ xs, ∀ (A : D → Mem → Prop), A (h x) M → g (f x) (vwipe e vs) M fun e2 M2 => te e2 M2 A)
    (q : ∀ p, M p = none → Q (.obj p) (mupd M p (.lst (xs.map h)))) : vLcO ti g vYes te vs e M Q := by
  have hlw : w.ds.length = xs.length := by rw [hw, List.length_map]
  refine hi _ ⟨fun i acc M' => M' = M ∧ i ≤ xs.length ∧ acc = (xs.take i).map h, ⟨rfl, Nat.zero_le _, by simp⟩, fun i acc M' _ z => by rw [z.1]; exact hok, fun i d acc M' hd ⟨e1, hi, e2⟩ => ?_, fun acc M' ⟨e1, _, e2⟩ => ?_⟩
  · subst e1
    rw [hw, List.getElem?_map] at hd
    cases hx : xs[i]? with
    | none => rw [hx] at hd; cases hd
    | some x =>
      rw [hx] at hd
      cases hd
      have hlt : i < xs.length := by
        rcases Nat.lt_or_ge i xs.length with h1 | h1
        · exact h1
        · rw [List.getElem?_eq_none h1] at hx; cases hx
      have htk : xs.take (i + 1) = xs.take i ++ [x] := by
        rw [List.take_add_one, hx] <;> rfl
      have hal : acc.length < sizeLine := by
        have h2 : acc.length ≤ xs.length := by rw [e2, List.length_map, List.length_take]; exact Nat.min_le_right _ _
        omega
      have := ht x (List.mem_of_getElem? hx) (fun y M4 => acc.length < sizeLine ∧ M4 = M' ∧ i + 1 ≤ xs.length ∧ acc ++ [y] = (xs.take (i + 1)).map h) ⟨hal, rfl, hlt, by rw [htk, List.map_append, e2] <;> rfl⟩
      simpa using this
  · subst e1
    rw [e2, hlw, List.take_length]
    exact q
theorem ixN_lt {n j : Nat} (hj : j < n) : L2.ixN n (j : Int) = some j := by
  unfold L2.ixN
  rw [if_pos (by omega), if_pos (by omega)]
  simp
theorem perm_erase {α : Type} : ∀ (l : List α) (i : Nat) (h : i < l.length), (l[i] :: l.eraseIdx i).Perm l
  | x :: l, 0, _ => .refl _
  | x :: l, i + 1, h => by
    simp only [List.getElem_cons_succ, List.eraseIdx_cons_succ]
    exact (List.Perm.swap _ _ _).trans ((perm_erase l i (by simpa using h)).cons x)
theorem flat_len {α β : Type} (f : α → List β) (b : Nat) : ∀ (xs : List α), (∀ x ∈ xs, (f x).length ≤ b) → ((xs.map f).flatten).length ≤ xs.length * b
  | [], _ => by simp
  | x :: xs, h => by
    have ih := flat_len f b xs fun y hy => h y (List.mem_cons_of_mem _ hy)
    have h0 := h x List.mem_cons_self
    rw [List.map_cons, List.flatten_cons, List.length_append, List.length_cons, Nat.succ_mul]
    omega
theorem vLc_map {ti : VTI} {g : VTG} {te : VTE} {vs : List Nat} {e : VEnv} {M : Mem} {Q : VL.VK} {w : VIt} (f : D → D) (hi : ∀ R : VIt → Mem → Prop, R w M → ti e M R) (hok : w.ok M) (hl : w.ds.length < sizeLine)
    (ht : ∀ d ∈ w.ds, ∀ (A : D → Mem → Prop), A (f d) M → g d (vwipe e vs) M fun e2 M2 => te e2 M2 A)
    (q : Q (.lst (w.ds.map f)) M) : vLc ti g vYes te vs e M Q := by
  refine vLc_by w (fun d => some (f d)) hi hok hl (fun d hd A B hA _ => ?_) (by rw [show (fun d => some (f d)) = some ∘ f from rfl, List.filterMap_eq_map]; exact q)
  have := ht d hd A (hA _ rfl)
  simpa using this
end VL
namespace VL
open PySem PySem.Spec L2

section
variable {K : PySem.W.Frag}
mutual
def dB (K : PySem.W.Frag) : D → Value → Bool
  | .non, .none => true
  | .bl b, .bool c => decide (b = c)
  | .int i, .int j _ => decide (i = j)
  | .str x, .str y _ => decide (x = y)
  | .tup ds, .ref a => (match K.lookup a with
    | some ⟨.type c, _, .seq its _, _⟩ => decide (c = "tuple") && (decide (its.size ≤ sizeLine) && dsB K ds its.toList)
    | _ => false)
  | _, _ => false
def dsB (K : PySem.W.Frag) : List D → List Value → Bool
  | [], [] => true
  | d :: ds, v :: vs => dB K d v && dsB K ds vs
  | _, _ => false
end
mutual
theorem dB_ok : ∀ (d : D) (v : Value), dB K d v = true → ∃ x : V, RelV x v ∧ ∀ F, DR K F x d
  | .non, v, h => by
    cases v <;> first | exact ⟨.non, rfl, fun _ => .non⟩ | (unfold dB at h; cases h)
  | .bl b, v, h => by
    cases v <;> first | (unfold dB at h; rw [of_decide_eq_true h]; exact ⟨.bl _, rfl, fun _ => .bl _⟩) | (unfold dB at h; cases h)
  | .int i, v, h => by
    cases v <;> first | (unfold dB at h; rw [of_decide_eq_true h]; exact ⟨.int _, ⟨_, rfl⟩, fun _ => .int _⟩) | (unfold dB at h; cases h)
  | .str i, v, h => by
    cases v <;> first | (unfold dB at h; rw [of_decide_eq_true h]; exact ⟨.str _, ⟨_, rfl⟩, fun _ => .str _⟩) | (unfold dB at h; cases h)
  | .tup ds, v, h => by
    cases v with
    | ref a =>
      unfold dB at h
      split at h
      · rename_i c od its n sl hl
        have h1 := Bool.and_eq_true_iff.mp h
        have h2 := Bool.and_eq_true_iff.mp h1.2
        obtain ⟨xs, hv, hd⟩ := dsB_ok ds its.toList h2.2
        refine ⟨.ref a, rfl, fun F => .tup (.inr ⟨_, its, n, hl, congrArg Value.type (of_decide_eq_true h1.1), rfl, of_decide_eq_true h2.1, hv⟩) (hd F)⟩
      · cases h
    | _ => unfold dB at h; cases h
  | .lst _, v, h => by cases v <;> (unfold dB at h; cases h)
  | .rd _, v, h => by cases v <;> (unfold dB at h; cases h)
  | .obj _, v, h => by cases v <;> (unfold dB at h; cases h)
theorem dsB_ok : ∀ (ds : List D) (vs : List Value), dsB K ds vs = true → ∃ xs : List V, Vals xs vs ∧ ∀ F, DRs K F xs ds
  | [], [], _ => ⟨[], .nil, fun _ => .nil⟩
  | [], _ :: _, h => by unfold dsB at h; cases h
  | _ :: _, [], h => by unfold dsB at h; cases h
  | d :: ds, v :: vs, h => by
    unfold dsB at h
    have h' := Bool.and_eq_true_iff.mp h
    obtain ⟨x, h1, h2⟩ := dB_ok d v h'.1
    obtain ⟨xs, h3, h4⟩ := dsB_ok ds vs h'.2
    exact ⟨x :: xs, .cons h1 h3, fun F => .cons (h2 F) (h4 F)⟩
end
/-- a name of the module's is this data -/
def gdB (K : PySem.W.Frag) (p : Str × D) : Bool := match PySem.W.nsIn K mainGlobals p.1 with
  | some (some v) => dB K p.2 v
  | _ => false
theorem gdB_ok {h : Heap} {mg : Str → Option Value} {x : Str} {d : D} (X : K.In h) (G : h.Ns mainGlobals mg) (q : gdB K (x, d) = true) : ∃ u v, mg x = some u ∧ RelV v u ∧ ∀ F, DR K F v d := by
  unfold gdB at q
  split at q
  · rename_i v hv
    obtain ⟨w, h1, h2⟩ := dB_ok d v q
    exact ⟨v, w, PySem.W.mg_of X G hv, h1, h2⟩
  · cases q
/-- a dict by ints -/
def ksB (K : PySem.W.Frag) : List (Int × D) → List DictEntry → Bool
  | [], [] => true
  | p :: ps, e :: es => (match e.key with
    | .int i _ => decide (i = p.1) && decide (e.hash = hashInt p.1)
    | _ => false) && (dB K p.2 e.val && ksB K ps es)
  | _, _ => false
/-- the dict at a: its keys and what stands under them -/
structure KI (K : PySem.W.Frag) (a : Addr) (tb : List (Int × D)) : Prop where
  ex : ∃ es n, K.lookup a = some ⟨.type "dict", none, .dict es n, #[]⟩ ∧ ksB K tb es.toList = true ∧ (a == sysModules) = false
def kiB (K : PySem.W.Frag) (p : Str × List (Int × D)) : Bool := match PySem.W.nsIn K mainGlobals p.1 with
  | some (some (.ref a)) => (match K.lookup a with
    | some ⟨.type c, none, .dict es _, sl⟩ => decide (c = "dict") && (decide (sl.size = 0) && (ksB K p.2 es.toList && !(a == sysModules)))
    | _ => false)
  | _ => false
theorem kiB_ok {h : Heap} {mg : Str → Option Value} {x : Str} {tb : List (Int × D)} (X : K.In h) (G : h.Ns mainGlobals mg) (q : kiB K (x, tb) = true) : ∃ a, mg x = some (.ref a) ∧ KI K a tb := by
  unfold kiB at q
  split at q
  · rename_i a ha
    split at q
    · rename_i c es n sl hl
      have h1 := Bool.and_eq_true_iff.mp q
      have h2 := Bool.and_eq_true_iff.mp h1.2
      have h3 := Bool.and_eq_true_iff.mp h2.2
      have e1 : c = "dict" := of_decide_eq_true h1.1
      have e2 : sl = #[] := Array.eq_empty_of_size_eq_zero (of_decide_eq_true h2.1)
      subst e1 e2
      exact ⟨a, PySem.W.mg_of X G ha, ⟨es, n, hl, h3.1, by simpa using h3.2⟩⟩
    · cases q
  · cases q
theorem ksB_keys {prog : Program} {w : World} : ∀ {tb : List (Int × D)} {es : List DictEntry}, ksB K tb es = true → ∀ e ∈ es, ∃ k, (PySem.intKind prog w).is k e.key = true ∧ e.hash = (PySem.intKind prog w).hash k
  | [], [], _, e, he => nomatch he
  | [], _ :: _, h, _, _ => by unfold ksB at h; cases h
  | _ :: _, [], h, _, _ => by unfold ksB at h; cases h
  | p :: ps, e :: es, h, e', he => by
    unfold ksB at h
    have h1 := Bool.and_eq_true_iff.mp h
    have h2 := Bool.and_eq_true_iff.mp h1.2
    rcases List.mem_cons.mp he with rfl | he
    · have h3 := h1.1
      split at h3
      · rename_i i t hk
        have h4 := Bool.and_eq_true_iff.mp h3
        exact ⟨p.1, by rw [hk, of_decide_eq_true h4.1]; exact PySem.intKind_is prog w _ _, of_decide_eq_true h4.2⟩
      · cases h3
    · exact ksB_keys h2.2 e' he
theorem ksB_find : ∀ {tb : List (Int × D)} {es : List DictEntry} (i : Int), ksB K tb es = true → (match tb.lookup i with
    | some d => ∃ e, es.find? (fun e => Value.isInt i e.key) = some e ∧ dB K d e.val = true
    | none => es.find? (fun e => Value.isInt i e.key) = none)
  | [], [], _, _ => rfl
  | [], _ :: _, _, h => by unfold ksB at h; cases h
  | _ :: _, [], _, h => by unfold ksB at h; cases h
  | p :: ps, e :: es, i, h => by
    unfold ksB at h
    have h1 := Bool.and_eq_true_iff.mp h
    have h2 := Bool.and_eq_true_iff.mp h1.2
    have h3 := h1.1
    split at h3
    · rename_i j t hk
      have h4 := Bool.and_eq_true_iff.mp h3
      have ej : j = p.1 := of_decide_eq_true h4.1
      have ih := ksB_find i h2.2
      obtain ⟨p1, p2⟩ := p
      by_cases q : i = p1
      · have e1 : ((p1, p2) :: ps).lookup i = some p2 := by
          show (match i == p1 with | true => some p2 | false => ps.lookup i) = _
          rw [show (i == p1) = true from beq_iff_eq.mpr q]
        rw [e1]
        exact ⟨e, by rw [List.find?_cons, hk]; simp [Value.isInt, ej, q], h2.1⟩
      · have e1 : ((p1, p2) :: ps).lookup i = ps.lookup i := by
          show (match i == p1 with | true => some p2 | false => ps.lookup i) = _
          rw [show (i == p1) = false from beq_eq_false_iff_ne.mpr q]
        have e2 : List.find? (fun e => Value.isInt i e.key) (e :: es) = List.find? (fun e => Value.isInt i e.key) es := by
          rw [List.find?_cons, hk]
          have : Value.isInt i (.int j t) = false := by
            have q' : ¬ p1 = i := fun z => q z.symm
            have ej' : j = p1 := ej
            simp [Value.isInt, ej', q', q]
          rw [this]
        rw [e1, e2]; exact ih
    · cases h3
end
section
variable {X : Cx} {a : Addr} {tb : List (Int × D)}
theorem ki_map (T : KI X.K a tb) {s : Shared} (hK : X.K.In s.heap) : ∃ f, s.heap.MapOf (PySem.intKind X.prog X.w) a f ∧ (∀ i, (f i).isSome = (tb.lookup i).isSome) ∧ ∀ i d, tb.lookup i = some d → ∃ v, f i = some v ∧ dB X.K d v = true := by
  obtain ⟨es, n, hl, hb, _⟩ := T.ex
  refine ⟨fun k => findBy Value.isInt es k, ⟨_, es, n, hK _ _ hl, ⟨rfl, rfl, rfl⟩, rfl, fun e he => ksB_keys hb e (Array.mem_toList_iff.mpr he), fun _ => rfl⟩, fun i => ?_, fun i d hd => ?_⟩
  · have := ksB_find i hb
    obtain ⟨l⟩ := es
    have ef : findBy Value.isInt ⟨l⟩ i = (l.find? fun e => Value.isInt i e.key).map (·.val) := by
      unfold findBy
      rw [List.find?_toArray]
    show (findBy Value.isInt ⟨l⟩ i).isSome = _
    rw [ef]
    cases q : tb.lookup i with
    | none => rw [q] at this; dsimp only at this; rw [this] <;> rfl
    | some d => rw [q] at this; obtain ⟨e, h1, h2⟩ := this; dsimp only at h1; rw [h1] <;> rfl
  · have := ksB_find i hb
    rw [hd] at this
    obtain ⟨e, h1, h2⟩ := this
    obtain ⟨l⟩ := es
    have ef : findBy Value.isInt ⟨l⟩ i = (l.find? fun e => Value.isInt i e.key).map (·.val) := by
      unfold findBy
      rw [List.find?_toArray]
    show ∃ v, findBy Value.isInt ⟨l⟩ i = some v ∧ _
    rw [ef]
    dsimp only at h1
    rw [h1]
    exact ⟨e.val, rfl, h2⟩
def oInK (a : Addr) (tb : List (Int × D)) : VR2 := fun x y M Q => ∃ i, x = .int i ∧ y = .obj a ∧ Q (.bl (tb.lookup i).isSome) M
def oNotInK (a : Addr) (tb : List (Int × D)) : VR2 := fun x y M Q => ∃ i, x = .int i ∧ y = .obj a ∧ Q (.bl (!(tb.lookup i).isSome)) M
theorem o_inK (T : KI X.K a tb) : OpR X (compareOp .In) (l2 X.K (oInK a tb)) := fun pins s σ H x y v u Q I rx ry ⟨F, M, G, dx, dy, Q', r, da, db, ⟨i, e1, e2, q⟩, o⟩ => by
  subst e1 e2
  cases da; cases db
  obtain ⟨t, rfl⟩ := rx
  cases ry
  obtain ⟨f, h1, h2, h3⟩ := ki_map T I.kIn
  obtain ⟨es, n, hl, hb, hs⟩ := T.ex
  refine wpAny_in_of (PySem.intKind_is X.prog X.w i t) hs h1 ?_
  rw [h2]
  exact ⟨.bl _, H, I.tok _, rfl, o.stay r (.bl _) q⟩
theorem o_notInK (T : KI X.K a tb) : OpR X (compareOp .NotIn) (l2 X.K (oNotInK a tb)) := fun pins s σ H x y v u Q I rx ry ⟨F, M, G, dx, dy, Q', r, da, db, ⟨i, e1, e2, q⟩, o⟩ => by
  subst e1 e2
  cases da; cases db
  obtain ⟨t, rfl⟩ := rx
  cases ry
  obtain ⟨f, h1, h2, h3⟩ := ki_map T I.kIn
  obtain ⟨es, n, hl, hb, hs⟩ := T.ex
  refine wpAny_notIn_of (PySem.intKind_is X.prog X.w i t) hs h1 ?_
  rw [h2]
  exact ⟨.bl _, H, I.tok _, rfl, o.stay r (.bl _) q⟩
def oIxK (a : Addr) (tb : List (Int × D)) : VR2 := fun x y M Q => ∃ i d, x = .obj a ∧ y = .int i ∧ tb.lookup i = some d ∧ Q d M
theorem o_ixK (T : KI X.K a tb) : IxR X (l2 X.K (oIxK a tb)) := fun value slice pins s σ H x y v u Q I rx ry ⟨F, M, G, dx, dy, Q', r, da, db, ⟨i, d, e1, e2, hd, q⟩, o⟩ hs => by
  subst e1 e2
  cases da; cases db
  cases rx
  obtain ⟨t, rfl⟩ := ry
  obtain ⟨f, h1, h2, h3⟩ := ki_map T I.kIn
  obtain ⟨w, hw, hdb⟩ := h3 i d hd
  obtain ⟨z, rz, hz⟩ := dB_ok d w hdb
  exact PyProof.Rows.tail_any h1.typeIs PySem.F.slot_dict_getitem.lookup (wpAny_getItem_of (PySem.intKind_is X.prog X.w i t) h1 hw ⟨z, H, I.tok _, rz, o.stay r (hz F) q⟩) hs
theorem v_ixK {e b : Expr} {te tb' : VTE} {pos : Pos} (T : KI X.K a tb) (ha : VE X e te) (hb : VE X b tb') (hs : PlainIx b := by exact fun _ _ => rfl) : VE X (.Subscript e b pos) (vOp (oIxK a tb) te tb') :=
  v_pe (pe_ix (o_ixK T) ha hb hs) fun F M G σ H e Q' Q hs hr q o => ⟨F, M, G, e, _, hs, hr, q, fun x H1 F1 M1 d s1 r1 d1 q1 => ⟨F1, M1, G, e, _, hs.up s1, r1, q1, fun y H2 F2 M2 d' s2 r2 d2 q2 => ⟨F2, M2, G, d, d', Q', r2, d1.up s2, d2, q2, o.up (s1.trans s2)⟩⟩⟩
end

def cB (ts : List (Str × D)) (ks : List (Str × List (Int × D))) (K : PySem.W.Frag) : Bool := (ts.all fun p => gdB K p) && ks.all fun p => kiB K p
def hookC (n : Nat) (fa : List He.Fa) (fn : List He.DefD) (ts : List (Str × D)) (ks : List (Str × List (Int × D))) : PySem.W.Hook where
  α := He.AlD × Bool
  obs := fun s => (He.obsDG n fa fn s.heap.get?, cB ts ks (He.frG s.heap.get? (He.asD s.heap.get? n)))
  val := fun _ => (He.valD fn, true)
  says := fun _ h => ∃ K : PySem.W.Frag, K.In h ∧ He.SaysD fa fn K ∧ cB ts ks K = true
  of := fun _ s e => by
    have e1 : (He.obsDG n fa fn s.heap.get?, cB ts ks (He.frG s.heap.get? (He.asD s.heap.get? n))) = (He.valD fn, true) := e
    have e2 := Prod.mk.inj e1
    exact ⟨_, He.frG_in, e2.1, e2.2⟩
  keeps := fun _ _ _ ⟨K, hK, c⟩ k => ⟨K, PySem.W.Frag.In.keeps hK k, c⟩
def obsC (n : Nat) (fa : List He.Fa) (fn : List He.DefD) (ts : List (Str × D)) (ks : List (Str × List (Int × D))) (g : Addr → Option Obj) : He.AlD × Bool := (He.obsDG n fa fn g, cB ts ks (He.frG g (He.asD g n)))
theorem obsC_eq {n : Nat} {fa : List He.Fa} {fn : List He.DefD} {ts : List (Str × D)} {ks : List (Str × List (Int × D))} {g : Addr → Option Obj} {s : Shared} (h : ∀ a, g a = s.heap.get? a) : obsC n fa fn ts ks g = (hookC n fa fn ts ks).obs s := by
  have e : g = s.heap.get? := funext h
  rw [e] <;> rfl
theorem cB_t {ts : List (Str × D)} {ks : List (Str × List (Int × D))} {K : PySem.W.Frag} (h : cB ts ks K = true) (i : Nat) {p : Str × D} (e : ts[i]? = some p := by rfl) : gdB K p = true :=
  List.all_eq_true.mp (Bool.and_eq_true_iff.mp h).1 p (List.mem_of_getElem? e)
theorem cB_k {ts : List (Str × D)} {ks : List (Str × List (Int × D))} {K : PySem.W.Frag} (h : cB ts ks K = true) (i : Nat) {p : Str × List (Int × D)} (e : ks[i]? = some p := by rfl) : kiB K p = true :=
  List.all_eq_true.mp (Bool.and_eq_true_iff.mp h).2 p (List.mem_of_getElem? e)
end VL
namespace VL
open PySem PySem.Spec L2
section
open PyProof.Rows HT
variable {prog : Program} {w : World} {A : Around} {E : Value → Shared → Prop} {s : Shared}
theorem adjust_rev (n : Nat) : Builtin.Slice.sliceAdjust none none (-1) (n : Int) = ((n : Int) - 1, -1) := by
  unfold Builtin.Slice.sliceAdjust
  simp
theorem places_rev (n : Nat) : Builtin.Slice.slicePlaces ((n : Int) - 1) (-1) (-1) = n := by
  unfold Builtin.Slice.slicePlaces
  simp
  omega
theorem applied_rev {sl : Addr} {t : Tok} {n : Nat} {Q : Int × Int × Nat → Shared → Prop} (hs : s.heap.IsSliceOf sl .none .none (.int (-1) t))
    (h : Q ((n : Int) - 1, -1, n) s) : wpAny (model prog w) A (Builtin.Slice.sliceApplied (.ref sl) (pure (n : Int))) Q E s := by
  obtain ⟨os, hos, hcs, hds⟩ := id hs
  unfold Builtin.Slice.sliceApplied Builtin.Slice.sliceFields
  refine wpAny_bind (wpAny_bind (wpAny_field hos hds (x := .none) rfl (wpAny_bind (wpAny_field hos hds (x := .none) rfl (wpAny_bind (wpAny_field hos hds (x := .int (-1) t) rfl (wpAny_pure ?_)))))))
  refine wpAny_bind (slicePart_int ?_)
  show wpAny _ _ (if ((-1 : Int) == 0) = true then _ else _) _ _ s
  rw [if_neg (by decide)]
  refine wpAny_bind (slicePart_none (wpAny_bind (slicePart_none (wpAny_bind (wpAny_pure ?_)))))
  show wpAny _ _ (match Builtin.Slice.sliceAdjust none none (-1) (n : Int) with | (lo, hi) => pure (lo, (-1 : Int), Builtin.Slice.slicePlaces lo hi (-1))) _ _ s
  rw [adjust_rev n]
  show wpAny _ _ (pure ((n : Int) - 1, (-1 : Int), Builtin.Slice.slicePlaces ((n : Int) - 1) (-1) (-1))) _ _ s
  rw [places_rev]
  exact wpAny_pure h
theorem fm_congr {α β : Type} {f g : α → Option β} : ∀ {l : List α}, (∀ x ∈ l, f x = g x) → l.filterMap f = l.filterMap g
  | [], _ => rfl
  | x :: l, h => by
    rw [List.filterMap_cons, List.filterMap_cons, h x List.mem_cons_self, fm_congr fun y hy => h y (List.mem_cons_of_mem _ hy)]
theorem pick_rev (xs : Array Value) : ((List.range xs.size).filterMap fun (m : Nat) => xs[(((xs.size : Int) - 1) + (m : Int) * (-1)).toNat]?).toArray = xs.toList.reverse.toArray := by
  congr 1
  have e : (List.range xs.size).filterMap (fun (m : Nat) => xs[(((xs.size : Int) - 1) + (m : Int) * (-1)).toNat]?) = (List.range xs.size).filterMap fun m => xs.toList.reverse[m]? := by
    refine fm_congr fun m hm => ?_
    have hm' := List.mem_range.mp hm
    rw [List.getElem?_reverse (by rw [Array.length_toList]; exact hm'), Array.length_toList, Array.getElem?_toList]
    congr 1
    omega
  rw [e]
  have hl : xs.size = xs.toList.reverse.length := by rw [List.length_reverse, Array.length_toList]
  rw [hl]
  generalize xs.toList.reverse = l
  induction l with
  | nil => rfl
  | cons a l ih =>
    rw [List.length_cons, List.range_succ_eq_map, List.filterMap_cons]
    simp only [List.getElem?_cons_zero, List.filterMap_map]
    congr 1
theorem getItem_tuple_rev {t sl : Addr} {items : Array Value} {k : Tok} {Q : Value → Shared → Prop} (ht : IsTup s.heap t items) (hs : s.heap.IsSliceOf sl .none .none (.int (-1) k))
    (h : Q (.ref s.heap.objs.size) { s with heap := s.heap.push { cls := .type "tuple", data := .seq items.toList.reverse.toArray } })
    (hsz : items.size ≤ sizeLine) : wpAny (model prog w) A (getItem (.ref t) (.ref sl)) Q E s := by
  have htake : sizeOk (.seq items.toList.reverse.toArray) := by
    show items.toList.reverse.toArray.size ≤ sizeLine
    rw [List.size_toArray, List.length_reverse, Array.length_toList]
    exact hsz
  obtain ⟨os, hos, hcs, hds⟩ := id hs
  have hTs : s.TypeIs (.ref sl) "slice" := ⟨os, hos, hcs⟩
  unfold getItem
  try with_reducible refine wpAny_holding ?_
  first | refine wpAny_bind (wpAny_pure ?_) | skip
  refine wpAny_bind (wpAny_sequenceKey ht.typeIs (by decide) ?_)
  refine wpAny_bind (wpAny_callSpecial?_slot (name := Str.ofString "__getitem__") ht.typeIs PyProof.Rows.slot_tuple_getitem
    (wpAny_call_entry PyProof.Rows.slot_tuple_getitem ht.typeIs entry_tuple_getitem ?_ (args_tuple_getitem _ _)))
  show wpAny _ _ (Builtin.Tuple.tupleItemsOf (.ref t) >>= _) _ _ s
  refine wpAny_bind (tupleItemsOf_ ht ?_)
  refine wpAny_bind (wpAny_typeOf hTs ?_)
  rw [if_pos (by decide)]
  refine wpAny_bind (applied_rev hs ?_)
  have hno : ¬ ((((items.size : Int) - 1) == 0 && (-1 : Int) == 1 && items.size == items.size) = true) := by
    intro q
    rw [Bool.and_eq_true, Bool.and_eq_true] at q
    exact absurd q.1.2 (by decide)
  show wpAny _ _ (if (((items.size : Int) - 1) == 0 && (-1 : Int) == 1 && items.size == items.size) = true then _ else _) _ _ s
  rw [if_neg hno, pick_rev]
  first
    | exact wpAny_bind (m := Builtin.Tuple.tupleExact _) (wpAny_newObj_type (wpAny_pure ⟨_, rfl, wpAny_pure h⟩) htake)
    | exact wpAny_bind (m := Builtin.Tuple.tupleExact _) (wpAny_newObj_type (wpAny_bind (wpAny_pure (wpAny_pure ⟨_, rfl, wpAny_pure h⟩))) htake)
    | exact wpAny_bind (wpAny_bind (m := Builtin.Tuple.tupleExact _) (wpAny_newObj_type (wpAny_pure (wpAny_pure ⟨_, rfl, wpAny_pure h⟩)) htake))
    | exact wpAny_bind (wpAny_bind (m := Builtin.Tuple.tupleExact _) (wpAny_newObj_type (wpAny_pure ⟨_, rfl, wpAny_pure h⟩) htake))
end
section
variable {X : Cx} {e : Expr} {te : VTE} {pos p1 p2 p3 : Pos} {k : Nat}
/-- x[::-1], a tuple -/
def tRevT (K : PySem.W.Frag) (te : TE) : TE := fun σ H Q => te σ H fun x H1 => ∃ a xs, x = .ref a ∧ SqT K H1 a xs ∧ ∀ p, H1 p = none → Q (.ref p) (upd H1 p (.tup xs.reverse))
open PyProof.Rows in
theorem pe_revT {te : TE} (he : PE X e te) : PE X (.Subscript e (.Slice none none (some (.UnaryOp .USub (.Constant (.int 1) k p1) p2)) p3) pos) (tRevT X.K te) := by
  refine ⟨fun pins s σ H Q I h => ?_⟩
  refine Subscript_ (thn (he.run pins s σ H _ I h) fun v s1 ⟨x, H1, I1, r1, q1⟩ => ?_)
  obtain ⟨a, xs, ex, hx, q⟩ := q1
  subst ex
  cases r1
  have hst : PO X (some (.UnaryOp .USub (.Constant (.int 1) k p1) p2)) (tPart (tUn (rU fun i => .int (-i)) (tC (.int 1)))) := po_some (pe_un un_neg pe_int)
  refine wpAny_Slice (thn (po_none.run pins s1 σ H1 (fun o H2 => o = none ∧ H2 = H1) I1 ⟨rfl, rfl⟩) fun vl s2 ⟨l, H2, I2, pl, el, e2⟩ => ?_)
  subst el e2
  refine thn (po_none.run pins s2 σ H2 (fun o H3 => o = none ∧ H3 = H2) I2 ⟨rfl, rfl⟩) fun vu s3 ⟨u, H3, I3, pu, eu, e3⟩ => ?_
  subst eu e3
  refine thn (hst.run pins s3 σ H3 (fun o H4 => o = some (-1) ∧ H4 = H3) I3 ⟨1, rfl, -1, rfl, rfl, rfl⟩) fun vs s4 ⟨o, H4, I4, ps, eo, e4⟩ => ?_
  subst eo e4
  have I5 : Inv X pins σ H4 { s4 with heap := s4.heap.push { cls := .type "slice", data := .fields #[vl, vu, vs] } } := I4.kept (t' := s4.toks) fun b ob q => Heap.get?_push_of_some _ q
  obtain ⟨its, r, ht, hz⟩ := I5.tuple hx
  have hlen := r.length
  cases pl; cases pu
  obtain ⟨tk, rfl⟩ : ∃ tk, vs = .int (-1) tk := by cases ps; exact ⟨_, rfl⟩
  show wpAny (model X.prog X.w) X.A (subscriptTail e (.Slice none none (some (.UnaryOp .USub (.Constant (.int 1) k p1) p2)) p3) (.ref a) (.ref s4.heap.objs.size)) (EP X pins σ Q) X.xe { s4 with heap := s4.heap.push { cls := .type "slice", data := .fields #[.none, .none, .int (-1) tk] } }
  refine PyProof.Rows.tail_any (ops := [.ref a, .ref s4.heap.objs.size]) ht.typeIs PyProof.Rows.slot_tuple_getitem.lookup ?_ (by with_unfolding_all rfl)
  refine getItem_tuple_rev ht (Heap.IsSliceOf.new _ .none .none (.int (-1) tk)) ?_ (by rw [List.size_toArray]; omega)
  refine ⟨.ref _, _, I5.laid (t' := s4.toks) (o := .tup xs.reverse) (fun b ob q => Heap.get?_push_of_some _ q) (Nat.le_refl _) ?_, rfl, q _ (I5.hok.fresh (Nat.le_refl _))⟩
  exact ⟨by rw [List.length_reverse]; exact hz, _, r.reverse, PyProof.Rows.IsTup.new _ _⟩
@[simp] def vRevT (te : VTE) : VTE := fun e M Q => te e M fun x M1 => ∃ xs, x = .tup xs ∧ Q (.tup xs.reverse) M1
theorem v_revT (he : VE X e te) : VE X (.Subscript e (.Slice none none (some (.UnaryOp .USub (.Constant (.int 1) k p1) p2)) p3) pos) (vRevT te) :=
  v_pe (pe_revT he) fun F M G σ H e Q' Q hs hr q o => ⟨F, M, G, e, _, hs, hr, q, fun v H1 F1 M1 d s1 r1 d1 ⟨xs, ed, q1⟩ => by
    subst ed
    cases d1 with
    | tup h z => exact ⟨_, _, rfl, same_tup r1.sub h, fun p hp => (o.up s1).newT r1 z.rev q1 p hp⟩⟩
/-- {} -/
@[simp] def vDict0 : VTE := fun _ M Q => ∀ p, M p = none → Q (.obj p) (mupd M p (.dk []))
theorem v_dict0 : VE X (.Dict [] [] pos) vDict0 := v_pe pe_dnewK fun F M G σ H e Q' Q hs hr q o => fun p hp => o.newO hr (m := .dk []) ⟨[], rfl, rfl, .nil⟩ p hp (q p (hr.m0 hp))
/-- {'a': 1} -/
@[simp] def vDictC (x : Str) (i : Int) : VTE := fun _ M Q => ∀ p, M p = none → Q (.obj p) (mupd M p (.dk [(.inr x, .int i)]))
theorem v_dictC {x : Str} {i : Int} {j j' : Nat} : VE X (.Dict [some (.Constant (.str x) j p1)] [.Constant (.int i) j' p2] pos) (vDictC x i) :=
  v_pe (pe_disp (pps_cons (pe_str (x := x)) (pe_int (i := i)) pps_nil) rfl rfl (by simp) (by show 1 ≤ 15; decide)) fun F M G σ H e Q' Q hs hr q o => fun p hp => by
    refine ⟨upd_same, [(.inr x, .int i)], rfl, by show 1 ≤ 15; decide, ?_⟩
    have := o.newO hr (m := .dk [(.inr x, .int i)]) (ho := .dK [(.inr x, .int i)]) ⟨[(.inr x, .int i)], rfl, rfl, .cons (.int i) .nil⟩ p hp (q p (hr.m0 hp))
    rw [upd_upd]
    exact this
@[simp] def rStrI : VRs
  | [.int i], M, Q => i.natAbs.log2 < 1920 ∧ Q (.str (toString i)) M
  | _, _, _ => False
theorem c_strI : CallR X (.type "str") (ls X.K rStrI) := cr_of call_str_int fun F M G H xs ds Q' Q r dv q o => by
  unfold rStrI at q
  split at q
  · obtain ⟨v, rfl, z⟩ := one_of dv
    cases z
    exact ⟨_, rfl, q.1, o.stay r (.str _) q.2⟩
  · exact q.elim
/-- repr of a bool -/
@[simp] def rReprB : VRs
  | [.bl b], M, Q => Q (.str (if b then "True" else "False")) M
  | _, _, _ => False
theorem c_reprB : CallR X (.builtin "repr") (ls X.K rReprB) := by
  intro pins s σ H xs us Q I r ⟨F, M, G, ds, Q', rel, dv, q, o⟩
  unfold rReprB at q
  split at q
  · obtain ⟨v, rfl, z⟩ := one_of dv
    cases z
    obtain ⟨u, rfl, ru⟩ := r.one
    cases ru
    exact PySem.P.repr_of_bool ⟨.str _, H, I.tok _, ⟨_, rfl⟩, o.stay rel (.str _) q⟩
  · exact q.elim
end
end VL
namespace PySem
open AutoSeq1 (wpAny_loadPart')
open MeetsSeq MeetsSeq2 MeetsSeq3 SeqRoads2
theorem VLx.list_extend_tup (l : Addr) (items : Array Value) (n : Nat) (b : Addr) (items2 : Array Value) (n2 : Nat) (dd : Option Addr) (sl : Array (Option Value)) (hc0 : ¬(!items.isEmpty && Builtin.List.listTooLong (items.size + items2.size)) = true) (hc1 : items.size ≤ sizeLine) (hs2 : items.size + items2.size ≤ sizeLine + 1) :
    Meets (Builtin.«list.extend» ⟨[.ref l, .ref b], []⟩) (fun _ R s => s.heap.get? l = some { cls := .type "list", dict := none, data := .seq items n, slots := #[] } ∧ s.heap.get? b = some { cls := .type "tuple", dict := dd, data := .seq items2 n2, slots := sl } ∧ R (.ok (.ret Value.none)) { s with heap := s.heap.update l (Obj.mapSeq fun x => x ++ items2), toks := s.toks }) :=
  .of_wp fun prog w A R s h => by
    obtain ⟨hp, g, d, tk, os⟩ := s
    obtain ⟨hl, hb, h⟩ := h
    have f1 := AutoSeq1.idx_int
    have f2 := AutoSeq1.sub_tuple_tuple
    have f3 := AutoSeq1.sub_list_list
    have f4 := AutoSeq1.sub_tuple_list
    have f5 := AutoSeq1.sub_list_tuple
    have hz0 : (items ++ items2).size ≤ sizeLine + 1 := by
      rw [Array.size_append]
      exact hs2
    wp_walk using (wpAny_updateSeq hl rfl (hz := hc1) (_hz' := hz0)), wpAny_loadPart' hl, wpAny_loadPart' hb
    exact ⟨_, rfl, h⟩
end PySem
namespace VL
open PySem PySem.Spec L2
section
variable {X : Cx}
/-- extend by a list or a tuple -/
def rExtendA (K : PySem.W.Frag) : V → List V → Hp → L2.VK → Prop := fun x vs H Q => ∃ l b xs zs, x = .ref l ∧ vs = [.ref b] ∧ H l = some (.lst xs) ∧ SqT K H b zs ∧ xs.length + zs.length ≤ sizeLine ∧ Q .non (upd H l (.lst (xs ++ zs)))
theorem mt_extendT : MtM X "list.extend" (rExtendA X.K) := by
  intro pins s σ H x vs v us Q I rx rv h
  obtain ⟨l, b, xs, zs, rfl, rfl, hH, hB, hz, q⟩ := h
  cases rx
  obtain ⟨u, rfl, ru⟩ := rv.one
  cases ru
  obtain ⟨z, its, n, r, hl, e⟩ := I.lstM hH
  obtain ⟨its2, r2, pl, z2⟩ := I.tuple hB
  have hl2 := r2.length
  obtain ⟨⟨oc, od, dt, sl⟩, e2, hc, n2, hd⟩ := id pl
  simp only at hc hd
  subst hc hd
  have hsz : its.toArray.size + its2.toArray.size ≤ sizeLine := by rw [List.size_toArray, List.size_toArray]; omega
  have hlong : ¬ (!its.toArray.isEmpty && Builtin.List.listTooLong (its.toArray.size + its2.toArray.size)) = true := by
    rw [notLongL hsz, Bool.and_false]
    exact Bool.false_ne_true
  refine call_meets PySem.F.slot_list_extend ⟨_, e, rfl⟩ PySem.F.entry_list_extend (PySem.F.args_list_extend_2 _ _)
    (PySem.VLx.list_extend_tup l its.toArray n b its2.toArray n2 od sl hlong (by rw [List.size_toArray]; omega) (by omega)) ⟨e, e2, ?_⟩
  refine ⟨.non, _, I.lset (its' := its ++ its2) hH e (by simp) (r.append r2) ?_, rfl, q⟩
  rw [List.length_append]
  omega
@[simp] def rExtT : Addr → List D → Mem → VK → Prop := fun a ds M Q => ∃ y l zs, ds = [y] ∧ M a = some (.lst l) ∧ y = .tup zs ∧ l.length + zs.length ≤ sizeLine ∧ Q .non (mupd M a (.lst (l ++ zs)))
theorem i_extT : ∀ F M G H a ds vs Q' Q, Rel X.K F M G H → DRs X.K F vs ds → rExtT a ds M Q' → OutE X.K F G Q' Q → rExtendA X.K (.ref a) vs H Q := fun F M G H a ds vs Q' Q r dv ⟨y, l, zs, e, hM, hy, hz, q⟩ o => by
  subst e hy
  obtain ⟨v, rfl, z⟩ := one_of dv
  obtain ⟨_, _, ho, h1, ws, rfl, z1⟩ := r.ob a _ hM
  cases z with
  | tup h2 z2 => exact ⟨a, _, ws, _, rfl, rfl, h1, same_tup r.sub h2, by rw [z1.len, z2.len]; exact hz, o _ _ _ _ _ (Same.refl F) (r.wr hM (m := .lst (l ++ zs)) ⟨_, rfl, z1.app z2⟩) .non q⟩
theorem v_extendT {e : Expr} {es : List Expr} {t : VTA} {pos apos : Pos} {o : Expr} {to : VTE} (ho : VE X o to) (ha : VA X (e :: es) t)
    (hbase : attributeBase o "extend" X.env (eval o X.env) = eval o X.env := by rfl)
    (hfew : ((backTo pos (starEach (e :: es) X.env)).all (fun x => !x.1) && (backToKw pos (keywordEach [] X.env)).all (fun x => x.1.isSome)
      && decide ((e :: es).length + ([] : List Keyword).length + (if ([] : List Keyword).isEmpty then 0 else 1) < 30)) = true := by rfl)
    (hline : (apos.endLine == pos.line) = true := by rfl) (hs : starEach (e :: es) X.env = (false, eval e X.env) :: starEach es X.env := by rfl) (hplain : (backTo pos (starEach es X.env)).any (·.1) = false := by rfl) :
    VE X (.Call (.Attribute o "extend" apos) (e :: es) [] pos) (vMtL rExtT to t) := v_mtL mt_extendT PySem.F.slot_list_extend PySem.F.type_list_extend i_extT ho ha hbase hfew hline hs hplain
end
mutual
/-- a value of the kind that the laws draw: what is no tuple is never looked into -/
def Okv (M : Mem) : D → Prop
  | .non => True
  | .bl _ => True
  | .int _ => True
  | .str _ => True
  | .lst _ => True
  | .tup xs => xs.length ≤ 1000 ∧ Okvs M xs
  | .obj a => ∃ kvs, M a = some (.dk kvs)
  | .rd _ => False
def Okvs (M : Mem) : List D → Prop
  | [] => True
  | x :: xs => Okv M x ∧ Okvs M xs
end
theorem okvs_mem {M : Mem} : ∀ {xs : List D}, Okvs M xs → ∀ x ∈ xs, Okv M x
  | [], _, _, h => nomatch h
  | x :: xs, h, y, hy => by
    unfold Okvs at h
    rcases List.mem_cons.mp hy with rfl | hy
    · exact h.1
    · exact okvs_mem h.2 y hy
theorem okvs_of {M : Mem} : ∀ {xs : List D}, (∀ x ∈ xs, Okv M x) → Okvs M xs
  | [], _ => by unfold Okvs; trivial
  | x :: xs, h => by unfold Okvs; exact ⟨h x List.mem_cons_self, okvs_of fun y hy => h y (List.mem_cons_of_mem _ hy)⟩
mutual
theorem Okv.sub {M M' : Mem} (s : Sub M M') : ∀ (d : D), Okv M d → Okv M' d
  | .non, _ => by unfold Okv; trivial
  | .bl _, _ => by unfold Okv; trivial
  | .int _, _ => by unfold Okv; trivial
  | .str _, _ => by unfold Okv; trivial
  | .lst _, _ => by unfold Okv; trivial
  | .tup xs, h => by unfold Okv at h ⊢; exact ⟨h.1, Okvs.sub s xs h.2⟩
  | .obj a, h => by unfold Okv at h ⊢; obtain ⟨k, h⟩ := h; exact ⟨k, s _ _ h⟩
  | .rd _, h => by unfold Okv at h; exact h.elim
theorem Okvs.sub {M M' : Mem} (s : Sub M M') : ∀ (xs : List D), Okvs M xs → Okvs M' xs
  | [], _ => by unfold Okvs; trivial
  | x :: xs, h => by unfold Okvs at h ⊢; exact ⟨Okv.sub s x h.1, Okvs.sub s xs h.2⟩
end
/-- isinstance(x, T), of such a value -/
@[simp] theorem kb_NoneType_int : kitB "NoneType" "int" = some false := by decide +kernel
@[simp] theorem kb_bool_int : kitB "bool" "int" = some true := by decide +kernel
@[simp] theorem kb_int_int : kitB "int" "int" = some true := by decide +kernel
@[simp] theorem kb_str_int : kitB "str" "int" = some false := by decide +kernel
@[simp] theorem kb_list_int : kitB "list" "int" = some false := by decide +kernel
@[simp] theorem kb_tuple_int : kitB "tuple" "int" = some false := by decide +kernel
@[simp] theorem kb_dict_int : kitB "dict" "int" = some false := by decide +kernel
@[simp] theorem kb_NoneType_bool : kitB "NoneType" "bool" = some false := by decide +kernel
@[simp] theorem kb_bool_bool : kitB "bool" "bool" = some true := by decide +kernel
@[simp] theorem kb_int_bool : kitB "int" "bool" = some false := by decide +kernel
@[simp] theorem kb_str_bool : kitB "str" "bool" = some false := by decide +kernel
@[simp] theorem kb_list_bool : kitB "list" "bool" = some false := by decide +kernel
@[simp] theorem kb_tuple_bool : kitB "tuple" "bool" = some false := by decide +kernel
@[simp] theorem kb_dict_bool : kitB "dict" "bool" = some false := by decide +kernel
@[simp] theorem kb_NoneType_str : kitB "NoneType" "str" = some false := by decide +kernel
@[simp] theorem kb_bool_str : kitB "bool" "str" = some false := by decide +kernel
@[simp] theorem kb_int_str : kitB "int" "str" = some false := by decide +kernel
@[simp] theorem kb_str_str : kitB "str" "str" = some true := by decide +kernel
@[simp] theorem kb_list_str : kitB "list" "str" = some false := by decide +kernel
@[simp] theorem kb_tuple_str : kitB "tuple" "str" = some false := by decide +kernel
@[simp] theorem kb_dict_str : kitB "dict" "str" = some false := by decide +kernel
@[simp] theorem kb_NoneType_tuple : kitB "NoneType" "tuple" = some false := by decide +kernel
@[simp] theorem kb_bool_tuple : kitB "bool" "tuple" = some false := by decide +kernel
@[simp] theorem kb_int_tuple : kitB "int" "tuple" = some false := by decide +kernel
@[simp] theorem kb_str_tuple : kitB "str" "tuple" = some false := by decide +kernel
@[simp] theorem kb_list_tuple : kitB "list" "tuple" = some false := by decide +kernel
@[simp] theorem kb_tuple_tuple : kitB "tuple" "tuple" = some true := by decide +kernel
@[simp] theorem kb_dict_tuple : kitB "dict" "tuple" = some false := by decide +kernel
def isInt : D → Bool
  | .bl _ => true
  | .int _ => true
  | _ => false
theorem isi_int {te : VTE} {e : VEnv} {M : Mem} {Q : VL.VK} (d : D) (h : ∀ R : VL.VK, R d M → te e M R) (ok : Okv M d) (q : Q (.bl (isInt d)) M) : vIsi "int" te e M Q := by
  refine h _ ?_
  cases d with
  | non => exact ⟨_, _, rfl, kb_NoneType_int, q⟩
  | bl b => exact ⟨_, _, rfl, kb_bool_int, q⟩
  | int i => exact ⟨_, _, rfl, kb_int_int, q⟩
  | str x => exact ⟨_, _, rfl, kb_str_int, q⟩
  | lst x => exact ⟨_, _, rfl, kb_list_int, q⟩
  | tup x => exact ⟨_, _, rfl, kb_tuple_int, q⟩
  | obj a => unfold Okv at ok; obtain ⟨kvs, hk⟩ := ok; exact ⟨_, _, by simp [tyD, hk], kb_dict_int, q⟩
  | rd x => unfold Okv at ok; exact ok.elim
def isBool : D → Bool
  | .bl _ => true
  | _ => false
theorem isi_bool {te : VTE} {e : VEnv} {M : Mem} {Q : VL.VK} (d : D) (h : ∀ R : VL.VK, R d M → te e M R) (ok : Okv M d) (q : Q (.bl (isBool d)) M) : vIsi "bool" te e M Q := by
  refine h _ ?_
  cases d with
  | non => exact ⟨_, _, rfl, kb_NoneType_bool, q⟩
  | bl b => exact ⟨_, _, rfl, kb_bool_bool, q⟩
  | int i => exact ⟨_, _, rfl, kb_int_bool, q⟩
  | str x => exact ⟨_, _, rfl, kb_str_bool, q⟩
  | lst x => exact ⟨_, _, rfl, kb_list_bool, q⟩
  | tup x => exact ⟨_, _, rfl, kb_tuple_bool, q⟩
  | obj a => unfold Okv at ok; obtain ⟨kvs, hk⟩ := ok; exact ⟨_, _, by simp [tyD, hk], kb_dict_bool, q⟩
  | rd x => unfold Okv at ok; exact ok.elim
def isStr : D → Bool
  | .str _ => true
  | _ => false
theorem isi_str {te : VTE} {e : VEnv} {M : Mem} {Q : VL.VK} (d : D) (h : ∀ R : VL.VK, R d M → te e M R) (ok : Okv M d) (q : Q (.bl (isStr d)) M) : vIsi "str" te e M Q := by
  refine h _ ?_
  cases d with
  | non => exact ⟨_, _, rfl, kb_NoneType_str, q⟩
  | bl b => exact ⟨_, _, rfl, kb_bool_str, q⟩
  | int i => exact ⟨_, _, rfl, kb_int_str, q⟩
  | str x => exact ⟨_, _, rfl, kb_str_str, q⟩
  | lst x => exact ⟨_, _, rfl, kb_list_str, q⟩
  | tup x => exact ⟨_, _, rfl, kb_tuple_str, q⟩
  | obj a => unfold Okv at ok; obtain ⟨kvs, hk⟩ := ok; exact ⟨_, _, by simp [tyD, hk], kb_dict_str, q⟩
  | rd x => unfold Okv at ok; exact ok.elim
def isTuple : D → Bool
  | .tup _ => true
  | _ => false
theorem isi_tuple {te : VTE} {e : VEnv} {M : Mem} {Q : VL.VK} (d : D) (h : ∀ R : VL.VK, R d M → te e M R) (ok : Okv M d) (q : Q (.bl (isTuple d)) M) : vIsi "tuple" te e M Q := by
  refine h _ ?_
  cases d with
  | non => exact ⟨_, _, rfl, kb_NoneType_tuple, q⟩
  | bl b => exact ⟨_, _, rfl, kb_bool_tuple, q⟩
  | int i => exact ⟨_, _, rfl, kb_int_tuple, q⟩
  | str x => exact ⟨_, _, rfl, kb_str_tuple, q⟩
  | lst x => exact ⟨_, _, rfl, kb_list_tuple, q⟩
  | tup x => exact ⟨_, _, rfl, kb_tuple_tuple, q⟩
  | obj a => unfold Okv at ok; obtain ⟨kvs, hk⟩ := ok; exact ⟨_, _, by simp [tyD, hk], kb_dict_tuple, q⟩
  | rd x => unfold Okv at ok; exact ok.elim
end VL
namespace VL
open PySem PySem.Spec L2
section
variable {X : Cx}
/-- list + list, the sum may change -/
@[simp] def oAddO : VR2 := fun x y M Q => ∃ xs ys, asP M x = some xs ∧ asP M y = some ys ∧ xs.length + ys.length ≤ sizeLine ∧ ∀ p, M p = none → Q (.obj p) (mupd M p (.lst (xs ++ ys)))
theorem o_addO : OpR X (binaryOp .Add) (l2 X.K oAddO) := fun pins s σ H x y v u Q I rx ry ⟨F, M, G, a, b, Q', r, da, db, ⟨xs, ys, ea, eb, hl, q⟩, o⟩ => by
  obtain ⟨p, vs, rfl, hp, dv⟩ := asP_at r da ea
  obtain ⟨p', ws, rfl, hp', dw⟩ := asP_at r db eb
  exact op_cat pins s σ H _ _ v u Q I rx ry ⟨p, p', vs, ws, rfl, rfl, hp, hp', by rw [dv.len, dw.len]; exact hl, fun n hn => o.newO r (m := .lst (xs ++ ys)) ⟨_, rfl, dv.app dw⟩ n hn (q n (r.m0 hn))⟩
theorem size16 : 16000000 < sizeLine := by decide
theorem repr_seq {k : Nat} (hr : RmG k X.A) {F M G H x d Q' Q pins σ s u} (I : L2.Inv X pins σ H s) (ru : RelV x u) (rel : Rel X.K F M G H) (hd : DR X.K F x d) (sh : Sh 30 (fz M d)) (sw : (py (fz M d)).showable = true) (sl : (py (fz M d)).shown.length ≤ 16000000) (href : ∃ a, x = V.ref a)
    (q : Q' (.str (py (fz M d)).shown) M) (o : OutE X.K F G Q' Q) : wpAny (model X.prog X.w) X.A (call (.builtin "repr") [u]) (EP X pins σ Q) X.xe s := by
  obtain ⟨as, rd⟩ := Dp.reads I _ _ _ (fz_dp rel hd sh) ru
  obtain ⟨a, rfl⟩ := href
  cases ru
  have hp := (sh_py 30 _ sh).2
  have hu := hu64 hr.r
  have s16 := size16
  exact PySem.repr_of_reads' rd sw (fun z => by rw [noDict] at z; cases z) hr.g (by omega) (fun _ _ e => e) (fun h' u tk hk => ⟨.str _, H, I.kept hk, ⟨_, rfl⟩, o.stay rel (.str _) q⟩) (by omega)
theorem c_repr {k : Nat} (hr : RmG k X.A) : CallR X (.builtin "repr") (ls X.K rRepr) := by
  intro pins s σ H xs us Q I r ⟨F, M, G, ds, Q', rel, dv, q, o⟩
  unfold rRepr at q
  split at q
  · rename_i d
    obtain ⟨v, rfl, z⟩ := one_of dv
    obtain ⟨u, rfl, ru⟩ := r.one
    obtain ⟨sh, sw, sl, q⟩ := q
    have s16 := size16
    cases d with
    | non =>
      cases z; cases ru
      have e : (py (fz M .non)).shown = "None" := by rw [fz_non]; simp [py, PyData.shown]
      rw [e] at q
      exact PySem.P.repr_of_none ⟨.str _, H, I.tok _, ⟨_, rfl⟩, o.stay rel (.str _) q⟩
    | bl b =>
      cases z; cases ru
      have e : (py (fz M (.bl b))).shown = (if b then ("True" : Str) else "False") := by
        rw [fz_bl]
        simp [py, PyData.shown]
      rw [e] at q
      exact PySem.P.repr_of_bool ⟨.str _, H, I.tok _, ⟨_, rfl⟩, o.stay rel (.str _) q⟩
    | int i =>
      cases z
      obtain ⟨t, rfl⟩ := ru
      have e : (py (fz M (.int i))).shown = toString i := by rw [fz_int]; simp [py, PyData.shown]
      rw [e] at q
      have w : i.natAbs.log2 < 1920 := by rw [fz_int] at sw; simpa [py, PyData.showable] using sw
      exact PySem.P.repr_of_int w ⟨.str _, H, I.tok _, ⟨_, rfl⟩, o.stay rel (.str _) q⟩
    | str x =>
      cases z
      obtain ⟨t, rfl⟩ := ru
      have e : (py (fz M (.str x))).shown = PySem.reprText x := by rw [fz_str]; simp [py, PyData.shown]
      rw [e] at q sl
      exact PySem.P.repr_of_str ⟨.str _, H, I.tok _, ⟨_, rfl⟩, o.stay rel (.str _) q⟩ (by omega)
    | lst xs => exact repr_seq hr I ru rel z sh sw sl (by cases z; exact ⟨_, rfl⟩) q o
    | tup xs => exact repr_seq hr I ru rel z sh sw sl (by cases z; exact ⟨_, rfl⟩) q o
    | obj a => exact repr_seq hr I ru rel z sh sw sl (by cases z; exact ⟨_, rfl⟩) q o
    | rd xs => exact repr_seq hr I ru rel z sh sw sl (by cases z; exact ⟨_, rfl⟩) q o
  · exact q.elim
end
end VL
namespace VL
open PySem PySem.Spec L2
section
variable {X : Cx}
/-- [..] * k, the list may change -/
def oRepO : VR2 := fun x y M Q => ∃ xs k, asP M x = some xs ∧ y = .int k ∧ -(2 ^ 63) ≤ k ∧ k < 2 ^ 63 ∧ xs.length * k.toNat ≤ sizeLine ∧ ∀ p, M p = none → Q (.obj p) (mupd M p (.lst (List.replicate k.toNat xs).flatten))
theorem o_repO : OpR X (binaryOp .Mult) (l2 X.K oRepO) :=
  OpR_imp op_rep fun x y H Q ⟨F, M, G, a, b, Q', r, da, db, q, o⟩ => by
    obtain ⟨xs, k, ea, rfl, h1, h2, hl, q⟩ := q
    cases db
    obtain ⟨p, vs, rfl, hp, dv⟩ := asP_at r da ea
    refine ⟨p, k, vs, rfl, rfl, hp, h1, h2, by rw [dv.len]; exact hl, fun n hn => ?_⟩
    exact o.newO r (m := .lst _) ⟨_, rfl, dv.rep _⟩ n hn (q n (r.m0 hn))
@[simp] def oFdivN : VR2 := fun x y M Q => ∃ i j, x = .int i ∧ y = .int j ∧ CDivN i j ∧ Q (.int (i.fdiv j)) M
theorem o_fdivN : OpR X (binaryOp .FloorDiv) (l2 X.K oFdivN) := of_int2 (C := CDivN) op_fdivN
end
/-- the promise of the call one level down -/
def prev (p : Nat → VSp) : Nat → VSp
  | 0 => fun _ _ _ => False
  | n + 1 => p n
theorem kn_void {P : Program} {w : World} {K : PySem.W.Frag} {mg : Str → Option Value} {base : Heap} {x : Str} {st : Stmt} {ps : List Str} {k : Nat} (hD : Df K mg x st)
    (hb : ∀ (kV doc pm : Value) (an : Option Addr) (cdv ct : Value) (us : List Value), us.length = ps.length → bindArgs (PySem.W.fnOf x x (defArgs st) (defBody st) (defScope st) .none kV doc pm an cdv ct) ⟨us, []⟩ = pure (ps.zip us)) : Kn P w K mg base k x ps (fun _ _ _ => False) := by
  obtain ⟨f, fd, hm, F⟩ := hD.ex
  have lk : ∃ oc od osl, K.lookup f = some ⟨oc, od, .func fd, osl⟩ := by
    obtain ⟨oc, od, dV, kV, doc, pm, an, cdv, ct, osl, rfl, lk, hcd, _, _⟩ := F.ex
    exact ⟨oc, od, osl, lk⟩
  exact ⟨f, fd, hm, F.kp, F.bindsN hb, FunD.bindsA F hb, lk, ⟨fun vs H Q E h => by obtain ⟨_, _, _, _, _, _, _, h, _⟩ := h; exact h.elim, fun A outer s H args us vs Q E _ _ _ _ h => by obtain ⟨_, _, _, _, _, _, _, h, _⟩ := h; exact h.elim⟩⟩
/-- plain data of small depth -/
def Bt : Nat → D → Prop
  | _, .non => True
  | _, .bl _ => True
  | _, .int _ => True
  | _, .str x => PyData.strOk x = true
  | 0, .tup xs => xs = []
  | n + 1, .tup xs => xs.length ≤ 100 ∧ ∀ x ∈ xs, Bt n x
  | _, .lst _ => False
  | _, .rd _ => False
  | _, .obj _ => False
theorem Bt.ok {M : Mem} : ∀ (n : Nat) (d : D), Bt n d → Okv M d
  | n, .non, _ => by unfold Okv; trivial
  | n, .bl _, _ => by unfold Okv; trivial
  | n, .int _, _ => by unfold Okv; trivial
  | n, .str _, _ => by unfold Okv; trivial
  | 0, .tup xs, h => by cases h; simp [Okv, Okvs]
  | n + 1, .tup xs, h => by unfold Okv; exact ⟨by have := h.1; omega, okvs_of fun x hx => Bt.ok n x (h.2 x hx)⟩
  | n, .lst _, h => by cases n <;> exact h.elim
  | n, .rd _, h => by cases n <;> exact h.elim
  | n, .obj _, h => by cases n <;> exact h.elim
theorem Bt.sh : ∀ (n : Nat) (d : D), Bt n d → Sh (n + 1) d
  | n, .non, _ => by trivial
  | n, .bl _, _ => by trivial
  | n, .int _, _ => by trivial
  | n, .str _, h => by cases n <;> exact h
  | 0, .tup xs, h => by cases h; exact fun x hx => by cases hx
  | n + 1, .tup xs, h => fun x hx => Bt.sh n x (h.2 x hx)
  | n, .lst _, h => by cases n <;> exact h.elim
  | n, .rd _, h => by cases n <;> exact h.elim
  | n, .obj _, h => by cases n <;> exact h.elim
mutual
theorem okvUpd {M : Mem} {p : Addr} {l l' : List D} (hM : M p = some (.lst l)) : ∀ (d : D), Okv M d → Okv (mupd M p (.lst l')) d
  | .non, _ => by unfold Okv; trivial
  | .bl _, _ => by unfold Okv; trivial
  | .int _, _ => by unfold Okv; trivial
  | .str _, _ => by unfold Okv; trivial
  | .lst _, _ => by unfold Okv; trivial
  | .tup xs, h => by unfold Okv at h ⊢; exact ⟨h.1, okvsUpd hM xs h.2⟩
  | .obj a, h => by
    unfold Okv at h ⊢
    obtain ⟨k, h⟩ := h
    refine ⟨k, ?_⟩
    have : a ≠ p := fun e => by subst e; rw [hM] at h; cases h
    simp [mupd, this, h]
  | .rd _, h => by unfold Okv at h; exact h.elim
theorem okvsUpd {M : Mem} {p : Addr} {l l' : List D} (hM : M p = some (.lst l)) : ∀ (xs : List D), Okvs M xs → Okvs (mupd M p (.lst l')) xs
  | [], _ => by unfold Okvs; trivial
  | x :: xs, h => by unfold Okvs at h ⊢; exact ⟨okvUpd hM x h.1, okvsUpd hM xs h.2⟩
end
theorem cut_len {α : Type} (xs : List α) (lo hi : Option Int) : (cutD xs lo hi).length ≤ xs.length := by
  unfold cutD
  rw [List.length_take, List.length_drop]
  omega
theorem cut_mem {α : Type} {xs : List α} {lo hi : Option Int} {x : α} (h : x ∈ cutD xs lo hi) : x ∈ xs := by
  unfold cutD at h
  exact List.mem_of_mem_drop (List.mem_of_mem_take h)
theorem oNe_nilT {xs : List D} {M : Mem} {Q : VL.VK} (s : ∀ x ∈ xs, Sh 29 x) (q : Q (.bl (!xs.isEmpty)) M) : oNe (.tup xs) (.tup []) M Q :=
  .inr ⟨by rw [fz_tup]; exact s, by rw [fz_tup]; exact (fun _ z => nomatch z), by rw [fz_tup, fz_tup, eqD_tup, eqDs_nil_iff]; exact q⟩
theorem Sh.up : ∀ (n m : Nat) (d : D), n ≤ m → Sh n d → Sh m d
  | n, m, .non, _, _ => by cases m <;> trivial
  | n, m, .bl _, _, _ => by cases m <;> trivial
  | n, m, .int _, _, _ => by cases m <;> trivial
  | n, m, .str _, _, h => by cases m <;> cases n <;> exact h
  | n + 1, m + 1, .lst xs, l, h => fun x hx => Sh.up n m x (by omega) (h x hx)
  | n + 1, m + 1, .tup xs, l, h => fun x hx => Sh.up n m x (by omega) (h x hx)
  | n + 1, m + 1, .rd xs, l, h => fun x hx => Sh.up n m x (by omega) (h x hx)
  | 0, m, .lst xs, l, h => h.elim
  | 0, m, .tup xs, l, h => h.elim
  | 0, m, .rd xs, l, h => h.elim
  | n, m, .obj _, l, h => by cases n <;> exact h.elim
theorem s_split {t R : VTS} {K : VEnds} {e : VEnv} {M : Mem} (P : Mem → Prop) (h : ∀ M1, P M1 → R K e M1) (q : ∀ R' : VTS, (∀ M1, P M1 → R' K e M1) → sSeq t R' K e M) : sSeq t R K e M := q R h
end VL
namespace VL
open PySem PySem.Spec L2
theorem updN {H : Hp} {a b : Nat} {o : HO} (h : b ≠ a) : upd H a o b = H b := upd_ne h
theorem mupdN {M : Mem} {a b : Nat} {o : MO} (h : b ≠ a) : mupd M a o b = M b := mupd_ne h
theorem dropN {H : Hp} {a b : Nat} (h : b ≠ a) : ItX.dropH H a b = H b := ItX.dropH_ne h
theorem inv_many {X : Cx} {pins : List (Addr × Obj)} {σ : L2.St} {H H' : Hp} {s : Shared} {h' : Heap} {t' : Nat} (I : Inv X pins σ H s) (k : ∀ b u, s.heap.get? b = some u → h'.get? b = some u) (old : ∀ b, b < s.heap.objs.size → H' b = H b)
    (new : ∀ b u, H' b = some u → s.heap.objs.size ≤ b → ObjOk X.prog X.w H' h' b u) : Inv X pins σ H' { s with heap := h', toks := t' } := by
  have same : ∀ b u, H b = some u → H' b = some u := fun b u e => by rw [old b (I.hok.lt e)]; exact e
  refine I.un (t' := t') (h' := h') ⟨fun b u q _ _ _ => k b u q, fun b u q _ _ _ => ⟨u.slots, k b u q⟩, fun b u q n _ => by rw [old b (Heap.lt_size q)]; exact n, fun b u q _ => ⟨u, k b u q⟩, fun b xs e => same b _ e, fun b o u e => same b _ e, fun b ps e => ⟨#[], by rw [same b _ e]; simp⟩⟩ fun b u e => ?_
  by_cases hb : b < s.heap.objs.size
  · rw [old b hb] at e
    exact (I.hok b u e).stay (fun c v _ q => k c v q) (fun c q => same c _ q) fun c xs q => same c _ q
  · exact new b u e (Nat.le_of_not_lt hb)
def phZ (n b : Nat) (h : Heap) : Prop := n ≤ b ∧ PySem.IsZip h (b + 4) (b + 2) (b + 3) .none
def phI (b : Nat) (h : Heap) : Prop := PySem.IsPair h (b + 2) (.ref b) (.ref (b + 1))
def phO (b : Nat) (h : Heap) : Prop := PySem.IsPair h (b + 3) .none .none
def phT (b p a : Nat) (h : Heap) : Prop := a < b ∧ h.IsTupleIter p a 0
def zipH (H : Hp) (n b x y : Nat) : Hp := upd (upd (upd (upd (upd H b (.ext (phT b b x))) (b + 1) (.ext (phT b (b + 1) y))) (b + 2) (.ext (phI b))) (b + 3) (.ext (phO b))) (b + 4) (.ext (phZ n b))
def mzip (M : Mem) (n b : Nat) (us vs : List D) : Mem := mupd (mupd (mupd (mupd (mupd M b (.ti b b us)) (b + 1) (.ti b (b + 1) vs)) (b + 2) (.ex (phI b))) (b + 3) (.ex (phO b))) (b + 4) (.ex (phZ n b))
theorem zipH_old {H : Hp} {n b x y c : Nat} (h : ∀ k : Nat, k < 5 → c ≠ b + k) : zipH H n b x y c = H c := by
  have h0 : c ≠ b := h 0 (by omega)
  have h1 := h 1 (by omega)
  have h2 := h 2 (by omega)
  have h3 := h 3 (by omega)
  have h4 := h 4 (by omega)
  unfold zipH
  rw [upd_ne h4, upd_ne h3, upd_ne h2, upd_ne h1, upd_ne h0]
theorem zipH_0 {H : Hp} {n b x y : Nat} : zipH H n b x y b = some (.ext (phT b b x)) := by
  unfold zipH
  rw [updN (by omega), updN (by omega), updN (by omega), updN (by omega), upd_same]
theorem zipH_1 {H : Hp} {n b x y : Nat} : zipH H n b x y (b + 1) = some (.ext (phT b (b + 1) y)) := by
  unfold zipH
  rw [updN (by omega), updN (by omega), updN (by omega), upd_same]
theorem zipH_2 {H : Hp} {n b x y : Nat} : zipH H n b x y (b + 2) = some (.ext (phI b)) := by
  unfold zipH
  rw [updN (by omega), updN (by omega), upd_same]
theorem zipH_3 {H : Hp} {n b x y : Nat} : zipH H n b x y (b + 3) = some (.ext (phO b)) := by
  unfold zipH
  rw [updN (by omega), upd_same]
theorem zipH_4 {H : Hp} {n b x y : Nat} : zipH H n b x y (b + 4) = some (.ext (phZ n b)) := upd_same
theorem mzip_old {M : Mem} {n b c : Nat} {us vs : List D} (h : ∀ k : Nat, k < 5 → c ≠ b + k) : mzip M n b us vs c = M c := by
  have h0 : c ≠ b := h 0 (by omega)
  have h1 := h 1 (by omega)
  have h2 := h 2 (by omega)
  have h3 := h 3 (by omega)
  have h4 := h 4 (by omega)
  unfold mzip
  rw [mupd_ne h4, mupd_ne h3, mupd_ne h2, mupd_ne h1, mupd_ne h0]
theorem mzip_0 {M : Mem} {n b : Nat} {us vs : List D} : mzip M n b us vs b = some (.ti b b us) := by
  unfold mzip
  rw [mupdN (by omega), mupdN (by omega), mupdN (by omega), mupdN (by omega), mupd_same]
theorem mzip_1 {M : Mem} {n b : Nat} {us vs : List D} : mzip M n b us vs (b + 1) = some (.ti b (b + 1) vs) := by
  unfold mzip
  rw [mupdN (by omega), mupdN (by omega), mupdN (by omega), mupd_same]
theorem mzip_2 {M : Mem} {n b : Nat} {us vs : List D} : mzip M n b us vs (b + 2) = some (.ex (phI b)) := by
  unfold mzip
  rw [mupdN (by omega), mupdN (by omega), mupd_same]
theorem mzip_3 {M : Mem} {n b : Nat} {us vs : List D} : mzip M n b us vs (b + 3) = some (.ex (phO b)) := by
  unfold mzip
  rw [mupdN (by omega), mupd_same]
theorem mzip_4 {M : Mem} {n b : Nat} {us vs : List D} : mzip M n b us vs (b + 4) = some (.ex (phZ n b)) := mupd_same
/-- zip(a, b) of two tuples, kept -/
@[simp] def rZipN (n : Nat) : VRs := fun ds M Q => ∃ us vs, ds = [.tup us, .tup vs] ∧ ∀ b : Nat, (∀ k : Nat, k < 5 → M (b + k) = none) → Q (.obj (b + 4)) (mzip M n b us vs)
section
variable {X : Cx}
theorem c_zipN : CallR X (.type "zip") (ls X.K (rZipN X.s_0.heap.objs.size)) := by
  intro pins s σ H xs ws Q I r ⟨F, M, G, ds, Q', rel, dv, ⟨ua, va, e, q⟩, o⟩
  subst e
  obtain ⟨vx, vy, rfl, z1, z2⟩ := two_of dv
  cases z1 with
  | @tup a us _ h1 y1 =>
    cases z2 with
    | @tup c vs _ h2 y2 =>
      obtain ⟨u1, u2, rfl, r1, r2⟩ := vals2 r
      cases r1
      cases r2
      obtain ⟨its, rv, p1, _⟩ := I.tuple (same_tup rel.sub h1)
      obtain ⟨its2, rv2, p2, _⟩ := I.tuple (same_tup rel.sub h2)
      refine RZ.call_zipT (show s.heap.IsTuple a its.toArray from p1) (show s.heap.IsTuple c its2.toArray from p2) fun h' hz hTI hTO hi1 hi2 hsz hk => ?_
      obtain ⟨oa, hoa, _⟩ := id p1
      obtain ⟨oc, hoc, _⟩ := id p2
      have la : a < s.heap.objs.size := Heap.lt_size hoa
      have lc : c < s.heap.objs.size := Heap.lt_size hoc
      have fr : ∀ k, H (s.heap.objs.size + k) = none := fun k => I.hok.fresh (Nat.le_add_right _ _)
      have q1 := q s.heap.objs.size fun k _ => rel.m0 (fr k)
      refine ⟨.ref (s.heap.objs.size + 4), zipH H X.s_0.heap.objs.size s.heap.objs.size a c, inv_many (t' := s.toks) I hk (fun b hb => zipH_old fun k _ => by omega) (fun b u e hb => ?_), rfl, ?_⟩
      · by_cases n4 : b = s.heap.objs.size + 4
        · subst n4; rw [zipH_4] at e; cases e
          exact ⟨⟨I.sz, hz⟩, ⟨_, hz⟩, fun h1 h2 p k => ⟨p.1, k _ p.2⟩⟩
        by_cases n3 : b = s.heap.objs.size + 3
        · subst n3; rw [zipH_3] at e; cases e
          exact ⟨hTO, ⟨_, hTO⟩, fun h1 h2 p k => k _ p⟩
        by_cases n2 : b = s.heap.objs.size + 2
        · subst n2; rw [zipH_2] at e; cases e
          exact ⟨hTI, ⟨_, hTI⟩, fun h1 h2 p k => k _ p⟩
        by_cases n1 : b = s.heap.objs.size + 1
        · subst n1; rw [zipH_1] at e; cases e
          exact ⟨⟨lc, hi2⟩, (by obtain ⟨ob, e, _⟩ := hi2; exact ⟨ob, e⟩), fun h1 h2 p k => ⟨p.1, p.2.at fun ob => k ob⟩⟩
        by_cases n0 : b = s.heap.objs.size
        · subst n0; rw [zipH_0] at e; cases e
          exact ⟨⟨la, hi1⟩, (by obtain ⟨ob, e, _⟩ := hi1; exact ⟨ob, e⟩), fun h1 h2 p k => ⟨p.1, p.2.at fun ob => k ob⟩⟩
        · exfalso
          have hb' : H b = none := I.hok.fresh hb
          have far : ∀ k : Nat, k < 5 → b ≠ s.heap.objs.size + k := fun k hk z => by
            have : k = 0 ∨ k = 1 ∨ k = 2 ∨ k = 3 ∨ k = 4 := by omega
            rcases this with rfl | rfl | rfl | rfl | rfl
            · exact n0 z
            · exact n1 z
            · exact n2 z
            · exact n3 z
            · exact n4 z
          rw [zipH_old far, hb'] at e
          cases e
      · refine o _ _ F _ _ (Same.refl F) ?_ (.obj _) q1
        unfold mzip zipH
        have f1 : ∀ {H1 : Hp} {p : Nat} {oo : HO} {c : Nat}, H1 c = none → c ≠ p → upd H1 p oo c = none := fun e n => by rw [updN n]; exact e
        have g0 := rel.newM (fr 0) (m := .ti s.heap.objs.size s.heap.objs.size ua) (o := .ext (phT s.heap.objs.size s.heap.objs.size a)) ⟨a, rfl, .tup h1 y1⟩
        have g1 := g0.newM (f1 (fr 1) (by omega)) (m := .ti s.heap.objs.size (s.heap.objs.size + 1) va) (o := .ext (phT s.heap.objs.size (s.heap.objs.size + 1) c)) ⟨c, rfl, .tup h2 y2⟩
        have g2 := g1.newM (f1 (f1 (fr 2) (by omega)) (by omega)) (m := .ex (phI s.heap.objs.size)) (o := .ext (phI s.heap.objs.size)) rfl
        have g3 := g2.newM (f1 (f1 (f1 (fr 3) (by omega)) (by omega)) (by omega)) (m := .ex (phO s.heap.objs.size)) (o := .ext (phO s.heap.objs.size)) rfl
        exact g3.newM (f1 (f1 (f1 (f1 (fr 4) (by omega)) (by omega)) (by omega)) (by omega)) (m := .ex (phZ X.s_0.heap.objs.size s.heap.objs.size)) (o := .ext (phZ X.s_0.heap.objs.size s.heap.objs.size)) rfl
/-- for a, b in z: z holds a zip that has not moved; behind it the zip is forgotten -/
def iZipN (n i : Nat) : VTI := fun e M R => ∃ (M0 : Mem) (b : Nat) (us vs : List D), e[i]? = some (some (.obj (b + 4))) ∧ M = mzip M0 n b us vs ∧ (∀ k : Nat, k < 5 → M0 (b + k) = none) ∧ R ⟨zipD us vs, fun _ => True⟩ M0
theorem vi_zipN {i : Nat} {x : Str} {p tpos : Pos} {elts : List Expr} {kk : Nat} (hv : PE X (.Name x p) (tVar i)) : VI X (.Tuple elts kk tpos) (.Name x p) (iZipN X.s_0.heap.objs.size i) := by
  refine ⟨fun pins s σ H R I ⟨F, M, G, e, R', hs, hr, ⟨M0, b, us, vs, he, hM, h0, q⟩, o⟩ => ?_⟩
  subst hM
  obtain ⟨v, hσ, dv⟩ := hs.get he
  cases dv
  refine thn (hv.run pins s σ H (fun v H1 => v = .ref (b + 4) ∧ H1 = H) I ⟨.ref (b + 4), hσ, rfl, rfl⟩) fun u s1 ⟨v, H1, I1, r1, ev, eH⟩ => ?_
  subst ev
  rw [eH] at I1
  cases r1
  obtain ⟨f0, g0, _, k0, a, rfl, d1⟩ := hr.ob b _ mzip_0
  obtain ⟨f1, g1, _, k1, c, rfl, d2⟩ := hr.ob (b + 1) _ mzip_1
  obtain ⟨f2, g2, _, k2, rfl⟩ := hr.ob (b + 2) _ mzip_2
  obtain ⟨f3, g3, _, k3, rfl⟩ := hr.ob (b + 3) _ mzip_3
  obtain ⟨f4, g4, _, k4, rfl⟩ := hr.ob (b + 4) _ mzip_4
  obtain ⟨la, hi1⟩ := (I1.hok b _ k0).1
  obtain ⟨lc, hi2⟩ := (I1.hok (b + 1) _ k1).1
  have hTI : phI b s1.heap := (I1.hok (b + 2) _ k2).1
  have hTO : phO b s1.heap := (I1.hok (b + 3) _ k3).1
  have hz : phZ X.s_0.heap.objs.size b s1.heap := (I1.hok (b + 4) _ k4).1
  obtain ⟨hn, hz⟩ := hz
  cases d1 with
  | @tup _ ws _ h1 y1 =>
    cases d2 with
    | @tup _ ws2 _ h2 y2 =>
      -- the five are forgotten
      have e1 : ItX.dropH H (b + 4) (b + 3) = some (.ext (phO b)) := by rw [dropN (by omega)]; exact k3
      have e2 : ItX.dropH (ItX.dropH H (b + 4)) (b + 3) (b + 2) = some (.ext (phI b)) := by rw [dropN (by omega), dropN (by omega)]; exact k2
      have e3 := (show ItX.dropH (ItX.dropH (ItX.dropH H (b + 4)) (b + 3)) (b + 2) (b + 1) = H (b + 1) by rw [dropN (by omega), dropN (by omega), dropN (by omega)]).trans k1
      have e4 := (show ItX.dropH (ItX.dropH (ItX.dropH (ItX.dropH H (b + 4)) (b + 3)) (b + 2)) (b + 1) b = H b by rw [dropN (by omega), dropN (by omega), dropN (by omega), dropN (by omega)]).trans k0
      have J1 := ItX.inv_drop I1 k4
      have J2 := ItX.inv_drop J1 e1
      have J3 := ItX.inv_drop J2 e2
      have J4 := ItX.inv_drop J3 e3
      have J5 := ItX.inv_drop J4 e4
      have F0 := ItX.inv_fp J4 e4 (by omega)
      have F1 := ItX.inv_fp J3 e3 (by omega)
      have F2 := ItX.inv_fp J2 e2 (by omega)
      have F3 := ItX.inv_fp J1 e1 (by omega)
      have F4 := ItX.inv_fp I1 k4 (by omega)
      generalize hH5 : ItX.dropH (ItX.dropH (ItX.dropH (ItX.dropH (ItX.dropH H (b + 4)) (b + 3)) (b + 2)) (b + 1)) b = H5 at *
      have at5 : ∀ c', H5 c' = if (∃ k : Nat, k < 5 ∧ c' = b + k) then none else H c' := fun c' => by
        rw [← hH5]
        unfold ItX.dropH
        by_cases q4 : c' = b + 4
        · subst q4; simp
        by_cases q3 : c' = b + 3
        · subst q3; simp
        by_cases q2 : c' = b + 2
        · subst q2; simp
        by_cases q1 : c' = b + 1
        · subst q1; simp
        by_cases q0 : c' = b
        · subst q0; simp
        · rw [if_neg q0, if_neg q1, if_neg q2, if_neg q3, if_neg q4, if_neg]
          rintro ⟨k, hk, z⟩
          have : k = 0 ∨ k = 1 ∨ k = 2 ∨ k = 3 ∨ k = 4 := by omega
          rcases this with rfl | rfl | rfl | rfl | rfl
          · exact q0 z
          · exact q1 z
          · exact q2 z
          · exact q3 z
          · exact q4 z
      have fp : ∀ c' ∈ [b + 4, b + 2, b + 3, b, b + 1], FpOk X pins H5 c' := fun c' hc => by
        have z : H5 c' = none := by
          rw [at5, if_pos]
          simp only [List.mem_cons, List.not_mem_nil, or_false] at hc
          rcases hc with rfl | rfl | rfl | rfl | rfl
          · exact ⟨4, by omega, rfl⟩
          · exact ⟨2, by omega, rfl⟩
          · exact ⟨3, by omega, rfl⟩
          · exact ⟨0, by omega, rfl⟩
          · exact ⟨1, by omega, rfl⟩
        simp only [List.mem_cons, List.not_mem_nil, or_false] at hc
        rcases hc with rfl | rfl | rfl | rfl | rfl
        · exact ⟨z, F4.2⟩
        · exact ⟨z, F2.2⟩
        · exact ⟨z, F3.2⟩
        · exact ⟨z, F0.2⟩
        · exact ⟨z, F1.2⟩
      have st : PySem.IsZip s1.heap (b + 4) (b + 2) (b + 3) .none ∧ PySem.IsPair s1.heap (b + 2) (.ref b) (.ref (b + 1)) ∧ (∃ x y, PySem.IsPair s1.heap (b + 3) x y) ∧ s1.heap.IsTupleIter b a 0 ∧ s1.heap.IsTupleIter (b + 1) c 0 := ⟨hz, hTI, ⟨_, _, hTO⟩, hi1, hi2⟩
      have tn := RZ.turn_zipT (P := X.prog) (w := X.w) (K := X.K) (elts := elts) (kk := kk) (tpos := tpos) (PySem.W.ktu_apart b a c la lc)
      have rel : Rel X.K F M0 G H5 := by
        have off : ∀ {T : Hp} {c' : Addr} {oo : HO}, T c' = some oo → T b = none → T (b + 1) = none → T (b + 2) = none → T (b + 3) = none → T (b + 4) = none → ¬ ∃ k : Nat, k < 5 ∧ c' = b + k := fun {T c' oo} e t0 t1 t2 t3 t4 ⟨k, hk, z⟩ => by
          subst z
          have : k = 0 ∨ k = 1 ∨ k = 2 ∨ k = 3 ∨ k = 4 := by omega
          rcases this with rfl | rfl | rfl | rfl | rfl
          · rw [show b + 0 = b from rfl, t0] at e; cases e
          · rw [t1] at e; cases e
          · rw [t2] at e; cases e
          · rw [t3] at e; cases e
          · rw [t4] at e; cases e
        refine ⟨fun c' oo e => ?_, fun c' oo e => ?_, fun c' oo e => ?_, hr.dis⟩
        · rw [at5, if_neg (off e f0 f1 f2 f3 f4)]; exact hr.sub c' oo e
        · rw [at5, if_neg (off e g0 g1 g2 g3 g4)]; exact hr.hid c' oo e
        · have nn : ¬ ∃ k : Nat, k < 5 ∧ c' = b + k := fun ⟨k, hk, z⟩ => by
            subst z
            rw [h0 k hk] at e; cases e
          rw [at5, if_neg nn]
          refine hr.ob c' oo ?_
          rw [mzip_old fun k hk z => nn ⟨k, hk, z⟩]
          exact e
      exact tn.self X.A 0 s1 _ _ st ⟨b + 4, [b + 4, b + 2, b + 3, b, b + 1], _, _, H5, rfl, J5, tn, st, fp, o _ _ H5 F M0 (Same.refl F) rel (walk_zipT h1 h2 y1 y2) q⟩
end
end VL
namespace VL
open PySem PySem.Spec L2
section
variable {X : Cx} {e f o : Expr} {es : List Expr} {te tf to : VTE} {t : VTA} {p pos apos : Pos}
@[simp] def vaStar (te : VTE) (tr : VTA) : VTA := fun e M Q => te e M fun x M1 => ∃ xs, asI M1 x = some xs ∧ tr e M1 fun ys M2 => Q (xs ++ ys) M2
theorem va_star (he : VE X e te) (hr : VA X es t) (hs : starEach (.Starred e p :: es) X.env = (true, eval e X.env) :: starEach es X.env := by rfl) : VA X (.Starred e p :: es) (vaStar te t) :=
  PA_imp (StX.pa_star he hr hs) fun σ H Q ⟨F, M, G, e, Q', hs, hr, q, o⟩ => ⟨F, M, G, e, _, hs, hr, q, fun x H1 F1 M1 d s1 r1 d1 ⟨xs, ex, q1⟩ => by
    obtain ⟨a, ws, rfl, z, hh⟩ := asI_at r1 d1 ex
    exact ⟨a, ws, rfl, hh.elim (fun h => .inr h) (fun h => .inl h.1), F1, M1, G, e, _, hs.up s1, r1, q1, fun ys H2 F2 M2 ds s2 r2 d2 q2 => o _ H2 F2 M2 _ (s1.trans s2) r2 ((z.up s2).app d2) q2⟩⟩
@[simp] def vPop0 (to : VTE) : VTE := fun e M Q => to e M fun x M1 => ∃ a l y, x = .obj a ∧ M1 a = some (.lst l) ∧ l[l.length - 1]? = some y ∧ Q y (mupd M1 a (.lst l.dropLast))
theorem DRs.dropLast {K : PySem.W.Frag} {F : Hp} {vs : List V} {ds : List D} (h : DRs K F vs ds) : DRs K F vs.dropLast ds.dropLast := by
  rw [List.dropLast_eq_take, List.dropLast_eq_take, h.len]
  exact h.take _
theorem v_pop0 (ho : VE X o to) (hbase : attributeBase o "pop" X.env (eval o X.env) = eval o X.env := by rfl) (hline : (apos.endLine == pos.line) = true := by rfl) :
    VE X (.Call (.Attribute o "pop" apos) [] [] pos) (vPop0 to) :=
  v_pe (pe_bm0 PySem.F.plainAttrs_list PySem.F.slot_list_pop PySem.F.type_list_pop mt_pop ho hbase hline) fun F M G σ H e Q' Q hs hr q o => ⟨F, M, G, e, _, hs, hr, q, fun v H1 F1 M1 d s1 r1 d1 ⟨a, l, y, ed, hM, hy, q1⟩ => by
    subst ed
    cases d1
    obtain ⟨_, _, ho, h1, vs, rfl, z⟩ := r1.ob a _ hM
    obtain ⟨w, hw, dw⟩ := z.geti hy
    exact ⟨.inl ⟨rfl, vs, SqL.of h1⟩, a, vs, w, rfl, rfl, h1, by rw [z.len]; exact hw, o _ _ _ _ _ s1 (r1.wr hM (m := .lst l.dropLast) ⟨_, rfl, z.dropLast⟩) dw q1⟩⟩
@[simp] def vTupRg1 (te : VTE) : VTE := fun e M Q => te e M fun x M1 => ∃ n, x = .int n ∧ -4611686018427387904 ≤ n ∧ n ≤ 16777216 ∧ Q (.tup (rgD 0 n.toNat)) M1
theorem v_tupRg1 {a : Expr} {ta : VTE} {p2 pos2 : Pos} (hc : X.calm = true) (hm : X.mg "tuple" = none) (hr : X.mg "range" = none) (ha : VE X a ta) (hg : Gl X "tuple" := by rfl) (hg2 : Gl X "range" := by rfl)
    (na : starEach [a] X.env = (false, eval a X.env) :: starEach [] X.env := by rfl) (ne : starEach [.Call (.Name "range" p2) [a] [] pos2] X.env = (false, eval (.Call (.Name "range" p2) [a] [] pos2) X.env) :: starEach [] X.env := by rfl) :
    VE X (.Call (.Name "tuple" p) [.Call (.Name "range" p2) [a] [] pos2] [] pos) (vTupRg1 ta) :=
  v_pe (pe_tupRg hc hg hm (prg_1 hg2 hr ha na) ne) fun F M G σ H e Q' Q hs hr q o => ⟨F, M, G, e, _, hs, hr, q, fun v H1 F1 M1 d s1 r1 d1 ⟨n, ed, b1, b2, q1⟩ => by
    subst ed
    cases d1
    refine ⟨n, rfl, ⟨by omega, by omega, by omega, by omega, by omega⟩, fun p hp => ?_⟩
    have q2 : Q' (.tup (rgD 0 (n - 0).toNat)) M1 := by rw [Int.sub_zero]; exact q1
    exact o _ _ _ _ _ (s1.trans (r1.sF hp)) (r1.newF hp) (.tup (SqT.of upd_same) (drs_rg 0 n)) q2⟩
@[simp] def vDGet3 (i1 v1 i2 v2 i3 v3 : Int) (te tf : VTE) : VTE := fun e M Q => te e M fun x M1 => tf e M1 fun y M2 => ∃ i, x = .int i ∧ Q (if i = i1 then .int v1 else if i = i2 then .int v2 else if i = i3 then .int v3 else y) M2
theorem v_dget3 {k : Nat} {i1 v1 i2 v2 i3 v3 : Int} {j1 j2 j3 j4 j5 j6 : Nat} {p1 p2 p3 p4 p5 p6 pd : Pos} (hr : Room k X.A) (n12 : i2 ≠ i1) (n13 : i3 ≠ i1) (n23 : i3 ≠ i2) (he : VE X e te) (hf : VE X f tf)
    (m : M2 X (.Dict [some (.Constant (.int i1) j1 p1), some (.Constant (.int i2) j2 p2), some (.Constant (.int i3) j3 p3)] [.Constant (.int v1) j4 p4, .Constant (.int v2) j5 p5, .Constant (.int v3) j6 p6] pd) "get" apos e f pos) :
    VE X (.Call (.Attribute (.Dict [some (.Constant (.int i1) j1 p1), some (.Constant (.int i2) j2 p2), some (.Constant (.int i3) j3 p3)] [.Constant (.int v1) j4 p4, .Constant (.int v2) j5 p5, .Constant (.int v3) j6 p6] pd) "get" apos) [e, f] [] pos) (vDGet3 i1 v1 i2 v2 i3 v3 te tf) :=
  v_pe (pe_dget2 (by have := hu64 hr; omega) (pe_disp (pps_cons (pe_int (i := i1)) (pe_int (i := v1)) (pps_cons (pe_int (i := i2)) (pe_int (i := v2)) (pps_cons (pe_int (i := i3)) (pe_int (i := v3)) pps_nil))) rfl rfl (by simp) (by show 3 ≤ 15; decide)) he hf m) fun F M G σ H e Q' Q hs hr q o => fun p hp => by
    refine ⟨upd_same, [(.inl i1, .int v1), (.inl i2, .int v2), (.inl i3, .int v3)], rfl, by show 3 ≤ 15; decide, ?_⟩
    have hk : mergeK [] [((.inl i1 : L2.Key), V.int v1), (.inl i2, .int v2), (.inl i3, .int v3)] = [(.inl i1, .int v1), (.inl i2, .int v2), (.inl i3, .int v3)] := by
      simp [mergeK, putK, n12, n13, n23, Ne.symm n12, Ne.symm n13, Ne.symm n23]
    rw [upd_upd, hk]
    refine ⟨p, rfl, .inl ⟨_, Rd.of upd_same⟩, _, M, G, e, _, hs.up (hr.sF hp), hr.newF hp, q, fun y H1 F1 M1 d s1 r1 d1 q1 => ⟨F1, M1, G, e, _, hs.up ((hr.sF hp).trans s1), r1, q1, fun z H2 F2 M2 d2 s2 r2 d2' ⟨i, ei, q2⟩ => ?_⟩⟩
    subst ei
    cases d1
    refine ⟨valV [((Sum.inl i1 : L2.Key), V.int v1), (Sum.inl i2, V.int v2), (Sum.inl i3, V.int v3)] (Sum.inl i), .inl ⟨_, .inl i, Rd.of (r2.sub _ _ (s2 _ _ (s1 _ _ upd_same))), rfl, rfl⟩, ?_⟩
    have s3 := ((hr.sF hp).trans s1).trans s2
    refine o _ H2 F2 M2 _ s3 r2 ?_ q2
    unfold valV
    by_cases h1 : i = i1
    · subst h1; simp; exact .int _
    by_cases h2 : i = i2
    · subst h2; simp [h1, Ne.symm h1]; exact .int _
    by_cases h3 : i = i3
    · subst h3; simp [h1, h2, Ne.symm h1, Ne.symm h2]; exact .int _
    · simp [h1, h2, h3, Ne.symm h1, Ne.symm h2, Ne.symm h3]; exact d2'
end
end VL
namespace VL
open PySem PySem.Spec L2
section
open PyProof.Rows
variable {prog : Program} {w : World} {A : Around} {E : Value → Shared → Prop} {s : Shared}
theorem enT_step {e it t : Addr} {i : Nat} {its : Array Value} {x old : Value} {Q : Value → Shared → Prop} (he : PySem.IsEnum s.heap e it i old) (hit : s.heap.IsTupleIter it t i) (ht : s.heap.IsTuple t its) (hx : its[i]? = some x) (ne : e ≠ it)
    (k : ∀ h', PySem.IsEnumOut h' e it ((i : Int) + 1) x s.heap.objs.size → h'.IsTupleIter it t (i + 1) → h'.get? s.heap.objs.size = some { cls := .type "tuple", data := .seq #[.int i s.toks, x] } → h'.objs.size = s.heap.objs.size + 1 →
      (∀ b o, b ≠ e → b ≠ it → s.heap.get? b = some o → h'.get? b = some o) → Q (.ref s.heap.objs.size) { s with heap := h', toks := s.toks + 1 }) :
    wpAny (model prog w) A (Builtin.«enumerate.__next__» ⟨[.ref e], []⟩) (fun fin s' => ∃ v, fin = .done (.ret v) ∧ Q v s') E s := by
  obtain ⟨hp, g, d, tk, os⟩ := s
  refine (show wpAny _ _ (field (.ref e) 2 >>= _) _ _ _ from wpAny_bind (wpAny_field he rfl (x := .ref it) rfl (wpAny_bind (RZ.nextOf_tuple_item hit ht hx fun ha ita sa => ?_))))
  have sa' : Heap.SameBut it hp ha := sa
  have ea : PySem.IsEnum ha e it i old := (sa'.2 e ne).trans he
  refine (show wpAny _ _ (field (.ref e) 3 >>= _) _ _ ⟨ha, g, d, tk, os⟩ from wpAny_bind (wpAny_field ea rfl (x := rawInt i) rfl ?_))
  refine (show wpAny _ _ (field (.ref e) 4 >>= _) _ _ ⟨ha, g, d, tk, os⟩ from wpAny_bind (wpAny_field ea rfl (x := .none) rfl ?_))
  refine (show wpAny _ _ (mkInt i >>= _) _ _ ⟨ha, g, d, tk, os⟩ from wpAny_bind (wpAny_mkInt ?_))
  refine (show wpAny _ _ (setField (.ref e) 3 (rawInt ((i : Int) + 1)) >>= _) _ _ ⟨ha, g, d, tk + 1, os⟩ from wpAny_bind (wpAny_setField_rec ea (by simp) fun hb eb sb => ?_))
  have sb' : Heap.SameBut e ha hb := sb
  have eb' : PySem.IsEnum hb e it ((i : Int) + 1) old := eb
  refine (show wpAny _ _ (setField (.ref e) 4 .none >>= _) _ _ ⟨hb, g, d, tk + 1, os⟩ from wpAny_bind (wpAny_setField_rec eb' (by simp) fun hc ec sc => ?_))
  have sc' : Heap.SameBut e hb hc := sc
  have ec' : PySem.IsEnum hc e it ((i : Int) + 1) old := ec
  refine (show wpAny _ _ (newTuple [.int i tk, x] >>= _) _ _ ⟨hc, g, d, tk + 1, os⟩ from wpAny_bind (wpAny_newTuple ?_))
  have z0 : hc.objs.size = hp.objs.size := by rw [sc'.1, sb'.1, sa'.1]
  have el : e < hp.objs.size := Heap.lt_size he
  have k3 : ∀ b o, b ≠ e → b ≠ it → hp.get? b = some o → hc.get? b = some o := fun b o h1 h2 q => sc'.extBut b o h1 (sb'.extBut b o h1 (sa'.extBut b o h2 q))
  have ic : hc.IsTupleIter it t (i + 1) := (ita.extBut sb'.extBut (Ne.symm ne)).extBut sc'.extBut (Ne.symm ne)
  rw [z0]
  generalize hd : hc.push { cls := .type "tuple", data := .seq #[.int i tk, x] } = hf
  have ef : PySem.IsEnum hf e it ((i : Int) + 1) old := by rw [← hd]; exact Heap.get?_push_of_some _ ec'
  have tf : hf.get? hp.objs.size = some { cls := .type "tuple", data := .seq #[.int i tk, x] } := by rw [← hd, ← z0]; exact Heap.get?_push_size _ rfl
  have zf : hf.objs.size = hp.objs.size + 1 := by rw [← hd, Heap.size_push, z0]
  have kf : ∀ b o, b ≠ e → b ≠ it → hp.get? b = some o → hf.get? b = some o := fun b o h1 h2 q => by rw [← hd]; exact Heap.get?_push_of_some _ (k3 b o h1 h2 q)
  have jf : hf.IsTupleIter it t (i + 1) := by
    rw [← hd]; obtain ⟨o, q, r⟩ := ic
    exact ⟨o, Heap.get?_push_of_some _ q, r⟩
  clear hd k3 ic ec' ec sc' sc eb' eb sb' sb ea sa' sa ita z0
  refine (show wpAny _ _ (Builtin.SmallTypes.ownedTupleIsFree (.ref e) >>= _) _ _ ⟨hf, g, d, tk + 1, os⟩ from wpAny_bind ?_)
  unfold Builtin.SmallTypes.ownedTupleIsFree
  refine wpAny_bind (wpAny_field ef rfl (x := .none) rfl (wpAny_pure ?_))
  simp only [if_true]
  refine wpAny_bind (wpAny_rule (wpAny_bind (wpAny_field ef rfl (x := old) rfl (wpAny_bind (wpAny_setField_rec ef (by simp) fun h5 e5 s5 => ?_)))))
  have s5' : Heap.SameBut e hf h5 := s5
  have e5' : PySem.IsEnum h5 e it ((i : Int) + 1) x := e5
  refine (show wpAny _ _ (Builtin.SmallTypes.ownedTupleHandOut (.ref e) (.ref hp.objs.size) >>= _) _ _ ⟨h5, g, d, tk + 1, os⟩ from wpAny_bind ?_)
  unfold Builtin.SmallTypes.ownedTupleHandOut
  refine wpAny_bind (wpAny_setField_rec e5' (by simp) fun h6 e6 s6 => ?_)
  have s6' : Heap.SameBut e h5 h6 := s6
  have e6' : PySem.IsEnumOut h6 e it ((i : Int) + 1) x hp.objs.size := e6
  refine wpAny_setField_rec e6' (by simp) fun h7 e7 s7 => ?_
  have s7' : Heap.SameBut e h6 h7 := s7
  have e7' : PySem.IsEnumOut h7 e it ((i : Int) + 1) x hp.objs.size := e7
  have up : ∀ b o, b ≠ e → hf.get? b = some o → h7.get? b = some o := fun b o n q => s7'.extBut b o n (s6'.extBut b o n (s5'.extBut b o n q))
  refine wpAny_bind (wpAny_letGo (wpAny_pure ⟨_, rfl, k h7 e7' ?_ (up _ _ (Nat.ne_of_gt el) tf) (by rw [s7'.1, s6'.1, s5'.1, zf]) fun b o h1 h2 q => up b o h1 (kf b o h1 h2 q)⟩))
  obtain ⟨o, q, r⟩ := jf
  exact ⟨o, up it o (Ne.symm ne) q, r⟩
theorem enT_item {e it t : Addr} {i : Nat} {its : Array Value} {x old : Value} {Q : Option Value → Shared → Prop} (he : PySem.IsEnum s.heap e it i old) (hit : s.heap.IsTupleIter it t i) (ht : s.heap.IsTuple t its) (hx : its[i]? = some x) (ne : e ≠ it)
    (k : ∀ h', PySem.IsEnumOut h' e it ((i : Int) + 1) x s.heap.objs.size → h'.IsTupleIter it t (i + 1) → h'.get? s.heap.objs.size = some { cls := .type "tuple", data := .seq #[.int i s.toks, x] } → h'.objs.size = s.heap.objs.size + 1 →
      (∀ b o, b ≠ e → b ≠ it → s.heap.get? b = some o → h'.get? b = some o) → Q (some (.ref s.heap.objs.size)) { s with heap := h', toks := s.toks + 1 }) :
    wpAny (model prog w) A (pyNext (.ref e)) Q E s := by
  have ty : s.TypeIs (.ref e) "enumerate" := ⟨_, he, rfl⟩
  unfold pyNext
  exact wpAny_bind (wpAny_attempt (wpAny_callSpecial?_slot (name := Str.ofString "__next__") ty PySem.F.slot_enumerate_next (wpAny_call_entry PySem.F.slot_enumerate_next ty PySem.F.entry_enumerate_next (enT_step he hit ht hx ne fun h' a b c d q => wpAny_pure (k h' a b c d q)) (PySem.F.args_enumerate_next_1 _))))
theorem enT_end {e it t : Addr} {i : Nat} {its : Array Value} {old : Value} {Q : Option Value → Shared → Prop} (hh : A.handled = none) (he : PySem.IsEnum s.heap e it i old) (hit : s.heap.IsTupleIter it t i) (ht : s.heap.IsTuple t its) (hx : its[i]? = none)
    (k : ∀ h', Heap.ExtBut it s.heap h' → Q none { s with heap := h' }) : wpAny (model prog w) A (pyNext (.ref e)) Q E s := by
  have ty : s.TypeIs (.ref e) "enumerate" := ⟨_, he, rfl⟩
  unfold pyNext
  refine wpAny_bind (wpAny_attempt (wpAny_callSpecial?_slot (name := Str.ofString "__next__") ty PySem.F.slot_enumerate_next (wpAny_call_entry PySem.F.slot_enumerate_next ty PySem.F.entry_enumerate_next ?_ (PySem.F.args_enumerate_next_1 _))))
  refine (show wpAny _ _ (field (.ref e) 2 >>= _) _ _ _ from wpAny_bind (wpAny_field he rfl (x := .ref it) rfl (wpAny_bind (RZ.nextOf_tuple_end hh hit ht hx fun h' x he' hx' => ?_))))
  obtain ⟨o, ho, hc⟩ := hx'
  exact wpAny_bind (wpAny_isInstance (T := "StopIteration") (b := true) ⟨o, ho, hc⟩ isSubtype_stop (wpAny_pure (k _ he')))
end
end VL
namespace VL
open PySem PySem.Spec L2
section
open PyProof.Rows
open AutoSeq1 (wpAny_loadPart')
def tiObj (l : Addr) : Obj := { cls := .type "tuple_iterator", data := .fields #[.ref l, .int 0 0] }
def enObj (it : Addr) : Obj := { cls := .type "enumerate", data := .fields #[.none, .bool false, .ref it, rawInt 0, .none, .none] }
theorem enT_new (l : Addr) (its : Array Value) (ob : Obj) (hc : ob.cls = .type "tuple") (n : Nat) (hd : ob.data = .seq its n) :
    Meets (Builtin.«enumerate.__new__» ⟨[.type "enumerate", .ref l], []⟩) (fun _ R s => s.heap.get? l = some ob ∧
      R (.ok (.ret (.ref (s.heap.push (tiObj l)).objs.size))) { s with heap := (s.heap.push (tiObj l)).push (enObj s.heap.objs.size) }) :=
  .of_wp fun prog w A R s h => by
    obtain ⟨c, dct, dt, sl⟩ := ob
    obtain rfl : c = .type "tuple" := hc
    obtain rfl : dt = .seq its n := hd
    obtain ⟨hp, g, d, tk, os⟩ := s
    obtain ⟨hl, h⟩ := h
    have hsub := sub_enumerate
    have ht : Heap.IsTuple (Shared.heap ⟨hp, g, d, tk, os⟩) l its := ⟨_, hl, rfl, n, rfl⟩
    wp_walk using wpAny_loadPart' hl
    refine wpAny_stack_any fun st => wpAny_pure ?_
    split
    · rename_i c _ _ _ _ _
      cases (c == Value.type "enumerate") <;> (wp_walk using wpAny_loadPart' hl, wpAny_pyIter_tuple ht) <;> exact ⟨_, rfl, h⟩
    · wp_walk using wpAny_loadPart' hl, wpAny_pyIter_tuple ht
      exact ⟨_, rfl, h⟩
theorem enT_call {prog : Program} {w : World} {A : Around} {E : Value → Shared → Prop} {s : Shared} {l : Addr} {its : Array Value} {Q : Value → Shared → Prop} (ht : s.heap.IsTuple l its)
    (k : ∀ h', PySem.IsEnum h' (s.heap.objs.size + 1) s.heap.objs.size 0 .none → h'.IsTupleIter s.heap.objs.size l 0 → (∀ b o, s.heap.get? b = some o → h'.get? b = some o) → Q (.ref (s.heap.objs.size + 1)) { s with heap := h' }) :
    wpAny (model prog w) A (call (.type "enumerate") [.ref l]) Q E s := by
  obtain ⟨ob, hl, hc, n, hd⟩ := ht
  refine callType_new PySem.F.called_enumerate (by decide) (PySem.F.typeCall_enumerate_1 _) (PySem.F.newCall_enumerate_1 _) (fun obj => PySem.F.args_object_init_2 obj _) PySem.F.entry_enumerate_new (enT_new l its ob hc n hd) ⟨hl, ?_⟩
  have z : (s.heap.push (tiObj l)).objs.size = s.heap.objs.size + 1 := Heap.size_push ..
  have e := Heap.get?_push_size (s.heap.push (tiObj l)) (o := enObj s.heap.objs.size) rfl
  rw [z] at e
  show _ ∧ _
  rw [z]
  exact ⟨⟨_, e, rfl⟩, k _ e ⟨_, Heap.get?_push_of_some _ (Heap.get?_push_size _ rfl), rfl, rfl⟩ fun b o q => Heap.get?_push_of_some _ (Heap.get?_push_of_some _ q)⟩
end
/-- the tuple at a, each item in a new pair -/
def IteT (K : PySem.W.Frag) (a : Addr) : It :=
  ⟨fun i H => ∃ (xs : List V) (x : V), SqT K H a xs ∧ xs[i]? = some x, fun i H v H' => ∃ T x, v = .ref T ∧ H T = none ∧ H' = upd H T (.tup [.int (i : Nat), x]) ∧ ∀ xs, SqT K H a xs → xs[i]? = some x, fun i H => ∃ xs : List V, SqT K H a xs ∧ xs.length ≤ i⟩
theorem turn_enT {P : Program} {w : World} {K : PySem.W.Frag} {elts : List Expr} {kk : Nat} {tpos : Pos} (a e it : Addr) :
    Turn P w K (.Tuple elts kk tpos) (IteT K a) [e, it] e (fun i h => (∃ old, PySem.IsEnum h e it ((i : Nat) : Int) old) ∧ h.IsTupleIter it a i ∧ e ≠ it) where
  mem := List.mem_cons_self
  obj := fun i h ⟨⟨old, he⟩, ⟨o, ho, hc, hd⟩, _⟩ b hb => by
    rcases List.mem_cons.mp hb with rfl | hb
    · exact ⟨_, he, fun v q => by cases q⟩
    · cases List.mem_singleton.mp hb
      exact ⟨o, ho, fun v q => by rw [hd] at q; cases q⟩
  keep := fun i h h' ⟨⟨old, he⟩, hi, ne⟩ k => ⟨⟨old, k e List.mem_cons_self _ he⟩, hi.at fun o q => k it (List.mem_cons_of_mem _ List.mem_cons_self) o q, ne⟩
  item := fun X hP hw hK hc i pins s σ H E I hf st hg => by
    cases hP; cases hw; cases hK
    obtain ⟨⟨old, he⟩, hit, ne⟩ := st
    obtain ⟨xs, x, hq, hx⟩ := hg
    obtain ⟨its, rv, p, _⟩ := I.tuple hq
    obtain ⟨u, hu, ru⟩ := rv.get hx
    have l1 : e < s.heap.objs.size := Heap.lt_size he
    have l2 : it < s.heap.objs.size := by obtain ⟨_, q, _⟩ := hit; exact Heap.lt_size q
    have two : ∀ b, b ∈ [e, it] → b < s.heap.objs.size := fun b hb => by
      rcases List.mem_cons.mp hb with rfl | hb
      · exact l1
      · cases List.mem_singleton.mp hb; exact l2
    have off : ∀ b, b ∉ [e, it] → b ≠ e ∧ b ≠ it := fun b hb => ⟨fun z => hb (by rw [z]; exact List.mem_cons_self), fun z => hb (by rw [z]; exact List.mem_cons_of_mem _ List.mem_cons_self)⟩
    refine enT_item he hit (show s.heap.IsTuple a its.toArray from p) (x := u) (by rw [List.getElem?_toArray]; exact hu) ne fun h' ho hit' hT hsz hk => ?_
    refine ⟨_, rfl, wpAny_letOwnedTupleGo_enum (s := { s with heap := h', toks := s.toks + 1 }) ho fun h2 he2 sb => ?_⟩
    have hT2 : h2.get? s.heap.objs.size = some { cls := .type "tuple", data := .seq #[.int i s.toks, u] } := (sb.2 _ (Nat.ne_of_gt l1)).trans hT
    have I1 := I.turnedNew (h' := h2) (t' := s.toks + 1) (ob := .tup [.int (i : Nat), x]) (ch := [e, it]) (fun b o hb q => (sb.2 b (off b hb).1).trans (hk b o (off b hb).1 (off b hb).2 q)) hf (Nat.le_refl _)
      ⟨(by show 2 ≤ sizeLine; decide), [.int i s.toks, u], .cons ⟨_, rfl⟩ (.cons ru .nil), ⟨_, hT2, rfl, _, rfl⟩⟩
    refine ⟨.ref s.heap.objs.size, _, I1, rfl, ⟨_, x, rfl, I.hok.fresh (Nat.le_refl _), rfl, fun ys hy => by rw [I.tuple_inj hy hq]; exact hx⟩, ⟨⟨u, he2⟩, hit'.at fun o q => (sb.2 it (Ne.symm ne)).trans q, ne⟩, fun b hb => ?_⟩
    rw [upd_ne (Nat.ne_of_lt (two b hb))]
    exact (hf b hb).1
  done := fun X hP hw hK hc i pins s σ H E I hf st hg => by
    cases hP; cases hw; cases hK
    obtain ⟨⟨old, he⟩, hit, ne⟩ := st
    obtain ⟨xs, hq, hx⟩ := hg
    obtain ⟨its, rv, p, _⟩ := I.tuple hq
    obtain ⟨f0, f1, f2, f3, f4, f5⟩ := hf it (List.mem_cons_of_mem _ List.mem_cons_self)
    have hl := rv.length
    exact enT_end (I.ok.hd hc) he hit (show s.heap.IsTuple a its.toArray from p) (by simp; omega) fun h' eb => ⟨rfl, I.turned (t' := s.toks) (fun b o hb q => eb b o hb q) f0 f1 f3 f4 f5⟩
  self := fun A i s Q E st h => by
    obtain ⟨⟨_, he⟩, _⟩ := st
    exact wpAny_pyIter_enum he h
def tEnT (K : PySem.W.Frag) (ta : TA) : TI := fun σ H R => ta σ H fun vs H1 => ∃ a xs, vs = [.ref a] ∧ SqT K H1 a xs ∧ R (IteT K a) H1
theorem pi_enT {X : Cx} {e : Expr} {ta : TA} {p pos tpos : Pos} {elts : List Expr} {kk : Nat} (hg : Gl X "enumerate") (hm : X.mg "enumerate" = none) (ha : PA X [e] ta) (hs : starEach [e] X.env = [(false, eval e X.env)] := by rfl) :
    PI X (.Tuple elts kk tpos) (.Call (.Name "enumerate" p) [e] [] pos) (tEnT X.K ta) := by
  refine ⟨fun pins s σ H R I h => PyProof.Rows.Call_ (ld_blt I hg hm PyProof.Rows.boot_enumerate (PyProof.Rows.callWith_type1 (thn (ha.run pos pins s σ H _ I h) fun us s1 ⟨vs, H1, I1, r1, a, xs, ex, hq, q⟩ => ?_) hs rfl))⟩
  subst ex
  obtain ⟨u, rfl, ru⟩ := vals1 r1
  cases ru
  obtain ⟨its, rv, p', _⟩ := I1.tuple hq
  refine enT_call (show s1.heap.IsTuple a its.toArray from p') fun h' he hit hk => wpAny_pyIter_enum he ?_
  have I2 : Inv X pins σ H1 { s1 with heap := h' } := I1.kept (t' := s1.toks) hk
  refine ⟨s1.heap.objs.size + 1, [s1.heap.objs.size + 1, s1.heap.objs.size], _, _, H1, rfl, I2, turn_enT a (s1.heap.objs.size + 1) s1.heap.objs.size, ⟨⟨.none, he⟩, hit, Nat.succ_ne_self _⟩, fun b hb => ?_, q⟩
  have le : s1.heap.objs.size ≤ b := by
    rcases List.mem_cons.mp hb with rfl | hb
    · exact Nat.le_add_right _ _
    · cases List.mem_singleton.mp hb; exact Nat.le_refl _
  exact I1.fpOk le (I1.hok.fresh le)
theorem walk_enT {K : PySem.W.Frag} {F : Hp} {a : Addr} {us : List V} {xs : List D} {ok : Mem → Prop} (h : SqT K F a us) (z : DRs K F us xs) : VWalk K F (IteT K a) ⟨enD xs, ok⟩ := by
  refine ⟨fun i H F1 G M s r _ hi => ?_, fun H F1 G M s r _ => ?_, fun i H v H' F1 G M s r _ hi yd => ?_⟩
  · have l1 : i < us.length := by rw [z.len, ← enD_len]; exact hi
    exact ⟨us, us[i], same_tup r.sub (same_tup s h), by simp [l1]⟩
  · exact ⟨us, same_tup r.sub (same_tup s h), by rw [z.len, show (VIt.mk (enD xs) ok).ds = enD xs from rfl, enD_len]; exact Nat.le_refl _⟩
  · obtain ⟨T, p, rfl, hT, rfl, k1⟩ := yd
    obtain ⟨dx, e1, d1⟩ := (z.up s).get (k1 us (same_tup r.sub (same_tup s h)))
    obtain ⟨F2, s2, r2, d3⟩ := pair_new r hT (.int _) d1
    exact ⟨F2, _, s2, r2, enD_get e1, d3⟩
@[simp] def iEnT (t : VTA) : VTI := fun e M R => t e M fun ds M1 => ∃ xs, ds = [.tup xs] ∧ R ⟨enD xs, fun _ => True⟩ M1
section
variable {X : Cx} {a : Expr} {t : VTA} {p pos : Pos}
theorem vi_enumT {elts : List Expr} {kk : Nat} {tpos : Pos} (hm : X.mg "enumerate" = none) (ha : VA X [a] t) (hg : Gl X "enumerate" := by rfl) (hs : starEach [a] X.env = [(false, eval a X.env)] := by rfl) : VI X (.Tuple elts kk tpos) (.Call (.Name "enumerate" p) [a] [] pos) (iEnT t) :=
  PI_imp (pi_enT hg hm ha hs) fun σ H R ⟨F, M, G, e, R', hs, hr, q, o⟩ => ⟨F, M, G, e, _, hs, hr, q, fun vs H1 F1 M1 ds s1 r1 d1 ⟨xs, ed, q1⟩ => by
    subst ed
    obtain ⟨v, rfl, z1⟩ := one_of d1
    cases z1 with
    | @tup p1 ws _ h1 y1 => exact ⟨p1, ws, rfl, same_tup r1.sub h1, o _ _ H1 F1 M1 s1 r1 (walk_enT h1 y1) q1⟩⟩
end
end VL
namespace VL
open PySem PySem.Spec L2
section
open PyProof.Rows
theorem tup_once (l : Addr) (its : Array Value) (n : Nat) (dd : Option Addr) (sl : Array (Option Value)) (u : Tok) :
    Meets (Builtin.«tuple.__mul__» ⟨[.ref l, .int 1 u], []⟩) (fun _ R s => s.heap.get? l = some { cls := .type "tuple", dict := dd, data := .seq its n, slots := sl } ∧ R (.ok (.ret (.ref l))) s) :=
  .of_wp fun prog w A R s h => by
    obtain ⟨hp, g, d, tk, os⟩ := s
    obtain ⟨hl, h⟩ := h
    have idx := AutoSeq1.idx_int
    wp_walk using wpAny_loadPart' hl
    exact ⟨_, rfl, h⟩
def rOnceT (K : PySem.W.Frag) : R2 := fun x y H Q => ∃ l xs, x = .ref l ∧ y = .int 1 ∧ SqT K H l xs ∧ Q (.ref l) H
theorem op_onceT {X : Cx} : OpR X (binaryOp .Mult) (rOnceT X.K) := by
  intro pins s σ H x y v u Q I rx ry ⟨l, xs, ex, ey, hT, q⟩
  subst ex ey
  cases rx
  obtain ⟨t, rfl⟩ := ry
  obtain ⟨its, r, ⟨⟨cls, dd, data, sl⟩, ho, hc, n, hd⟩, hs⟩ := I.tuple hT
  obtain rfl : cls = .type "tuple" := hc
  obtain rfl : data = .seq its.toArray n := hd
  exact wpAny_binaryOp_repeat_ref (T := "tuple") (U := "int") (by decide) ⟨_, ho, rfl⟩ (fun s' => typeIs_int s' 1 t) noFill_tuple_mul F.fills_int_mul F.slot_int_rmul repeat_tuple F.slot_int_index.lookup
    (call_meets F.slot_int_rmul (typeIs_int s 1 t) F.entry_int_rmul (F.args_int_rmul_2 _ _) (int_rmul_tuple 1 t l its.toArray n dd sl) ⟨ho, rfl, ⟨_, ho, rfl⟩, call_meets F.slot_tuple_mul ⟨_, ho, rfl⟩ F.entry_tuple_mul (F.args_tuple_mul_2 _ _) (tup_once l its.toArray n dd sl t) ⟨ho, ⟨.ref l, H, I, rfl, q⟩⟩⟩)
end
def oRepT : VR2 := fun x y M Q => ∃ xs k, x = .tup xs ∧ y = .int k ∧ xs ≠ [] ∧ 1 ≤ k ∧ k ≤ 1000 ∧ xs.length ≤ 1000 ∧ Q (.tup (List.replicate k.toNat xs).flatten) M
theorem o_repT {X : Cx} : OpR X (binaryOp .Mult) (l2 X.K oRepT) := by
  intro pins s σ H x y v u Q I rx ry ⟨F, M, G, a, b, Q', r, da, db, ⟨xs, k, ea, eb, hne, k1, k2, hl, q⟩, o⟩
  subst ea eb
  cases db
  cases da with
  | @tup l vs _ h z =>
    by_cases e : k = 1
    · subst e
      refine op_onceT pins s σ H _ _ v u Q I rx ry ⟨l, vs, rfl, rfl, same_tup r.sub h, o _ H F M _ (Same.refl F) r (.tup h z) ?_⟩
      have : (List.replicate (1 : Int).toNat xs).flatten = xs := by simp
      rw [← this]
      exact q
    · refine op_repT pins s σ H _ _ v u Q I rx ry ⟨l, k, vs, rfl, rfl, same_tup r.sub h, fun e => hne (List.eq_nil_of_length_eq_zero (by rw [← z.len, e] <;> rfl)), by omega, k2, by rw [z.len]; exact hl, fun p hp => ?_⟩
      exact o _ _ _ _ _ (r.sF hp) (r.newF hp) (.tup (SqT.of upd_same) ((z.rep _).up (r.sF hp))) q
end VL
namespace VL
open PySem PySem.Spec L2
def pr4 (f : D → D → D → D → Mem → VK → Prop) : VSp := fun ds M Q => ∃ a b c d, ds = [a, b, c, d] ∧ f a b c d M Q
theorem pr4_len {f : D → D → D → D → Mem → VK → Prop} {x y z t : Str} : ∀ ds M Q, pr4 f ds M Q → ds.length = [x, y, z, t].length := fun ds M Q ⟨a, b, c, d, e, _⟩ => by rw [e] <;> rfl
theorem pr4_at {f : D → D → D → D → Mem → VK → Prop} {a b c d : D} {M : Mem} {Q : VK} : pr4 f [a, b, c, d] M Q ↔ f a b c d M Q := ⟨fun ⟨_, _, _, _, e, h⟩ => by cases e; exact h, fun h => ⟨a, b, c, d, rfl, h⟩⟩
end VL

namespace K46
open PySem PySem.Spec PyProof.Rows L2
def top (i : Nat) : Stmt := PySem.Challenge.pw_everyrowalike_k46_whole_sums_that_square.main.body.getD i (.Pass ⟨0, 0, 0, 0⟩)
abbrev s_is_integer : Stmt := top 10
abbrev s_is_between : Stmt := top 11
abbrev s_are_between : Stmt := top 12
abbrev s_check_order : Stmt := top 23
abbrev s_is_square : Stmt := top 24
abbrev s_check_square : Stmt := top 25
abbrev s_check_kind : Stmt := top 26
abbrev s_cells_by : Stmt := top 27
abbrev s_sum_by : Stmt := top 28
abbrev s_lines_by : Stmt := top 29
abbrev s_sums_by : Stmt := top 30
abbrev s_cells_of : Stmt := top 31
abbrev s_square_by : Stmt := top 32
abbrev s_is_of_kind : Stmt := top 34
abbrev s_check_number : Stmt := top 40
abbrev s_check_two : Stmt := top 41
abbrev s_turned_once : Stmt := top 42
abbrev s_changed : Stmt := top 43
abbrev s_turn_by : Stmt := top 44
abbrev s_turned : Stmt := top 45
abbrev s_moved_by : Stmt := top 46
abbrev s_moved : Stmt := top 47
abbrev s_sum_of : Stmt := top 48
abbrev s_let : Stmt := top 49
abbrev s_added : Stmt := top 50
abbrev s_times_by : Stmt := top 51
abbrev s_times : Stmt := top 52
abbrev s_step_of : Stmt := top 56
abbrev s_sum_step : Stmt := top 57
abbrev s_places_for : Stmt := top 58
abbrev s_least_square : Stmt := top 59
abbrev s_check_sum : Stmt := top 60
abbrev s_sum_told : Stmt := top 61
abbrev s_shows_sum : Stmt := top 62
abbrev s_divisor : Stmt := top 64
abbrev s_lessened : Stmt := top 65
abbrev s_without : Stmt := top 66
abbrev s_combed : Stmt := top 67
abbrev s_asked : Stmt := top 68
abbrev s_space_of : Stmt := top 69
abbrev s_space_base : Stmt := top 70
abbrev s__law_pot : Stmt := top 72
abbrev s__law_take : Stmt := top 73
abbrev s__law_of : Stmt := top 74
abbrev s__law_cells : Stmt := top 75
abbrev s__law_is_int : Stmt := top 76
abbrev s__law_odd : Stmt := top 77
abbrev s__law_bent : Stmt := top 78
abbrev s__law_line : Stmt := top 79
abbrev s__law_lines : Stmt := top 80
abbrev s__law_sum : Stmt := top 81
abbrev s__law_is_of : Stmt := top 82
abbrev s__law_is_square : Stmt := top 83
abbrev s__law_kind : Stmt := top 84
abbrev s__law_step : Stmt := top 85
abbrev s__law_is_shown : Stmt := top 86
abbrev s__law_right : Stmt := top 87
abbrev s__law_is_drawn_right : Stmt := top 88
abbrev s_law : Stmt := top 89
def d_is_integer : He.DefD := ⟨("is_integer", none), "is_integer", "is_integer", defArgs s_is_integer, defBody s_is_integer, defScope s_is_integer, [], []⟩
def d_is_between : He.DefD := ⟨("is_between", none), "is_between", "is_between", defArgs s_is_between, defBody s_is_between, defScope s_is_between, [], []⟩
def d_are_between : He.DefD := ⟨("are_between", none), "are_between", "are_between", defArgs s_are_between, defBody s_are_between, defScope s_are_between, [], []⟩
def d_check_order : He.DefD := ⟨("check_order", none), "check_order", "check_order", defArgs s_check_order, defBody s_check_order, defScope s_check_order, [], []⟩
def d_is_square : He.DefD := ⟨("is_square", none), "is_square", "is_square", defArgs s_is_square, defBody s_is_square, defScope s_is_square, [], []⟩
def d_check_square : He.DefD := ⟨("check_square", none), "check_square", "check_square", defArgs s_check_square, defBody s_check_square, defScope s_check_square, [], []⟩
def d_check_kind : He.DefD := ⟨("check_kind", none), "check_kind", "check_kind", defArgs s_check_kind, defBody s_check_kind, defScope s_check_kind, [], []⟩
def d_cells_by : He.DefD := ⟨("cells_by", none), "cells_by", "cells_by", defArgs s_cells_by, defBody s_cells_by, defScope s_cells_by, [], []⟩
def d_sum_by : He.DefD := ⟨("sum_by", none), "sum_by", "sum_by", defArgs s_sum_by, defBody s_sum_by, defScope s_sum_by, [], []⟩
def d_lines_by : He.DefD := ⟨("lines_by", none), "lines_by", "lines_by", defArgs s_lines_by, defBody s_lines_by, defScope s_lines_by, [], []⟩
def d_sums_by : He.DefD := ⟨("sums_by", none), "sums_by", "sums_by", defArgs s_sums_by, defBody s_sums_by, defScope s_sums_by, [], []⟩
def d_cells_of : He.DefD := ⟨("cells_of", none), "cells_of", "cells_of", defArgs s_cells_of, defBody s_cells_of, defScope s_cells_of, [], []⟩
def d_square_by : He.DefD := ⟨("square_by", none), "square_by", "square_by", defArgs s_square_by, defBody s_square_by, defScope s_square_by, [], []⟩
def d_is_of_kind : He.DefD := ⟨("is_of_kind", none), "is_of_kind", "is_of_kind", defArgs s_is_of_kind, defBody s_is_of_kind, defScope s_is_of_kind, [], []⟩
def d_check_number : He.DefD := ⟨("check_number", none), "check_number", "check_number", defArgs s_check_number, defBody s_check_number, defScope s_check_number, [], []⟩
def d_check_two : He.DefD := ⟨("check_two", none), "check_two", "check_two", defArgs s_check_two, defBody s_check_two, defScope s_check_two, [], []⟩
def d_turned_once : He.DefD := ⟨("turned_once", none), "turned_once", "turned_once", defArgs s_turned_once, defBody s_turned_once, defScope s_turned_once, [], []⟩
def d_changed : He.DefD := ⟨("changed", none), "changed", "changed", defArgs s_changed, defBody s_changed, defScope s_changed, [], []⟩
def d_turn_by : He.DefD := ⟨("turn_by", none), "turn_by", "turn_by", defArgs s_turn_by, defBody s_turn_by, defScope s_turn_by, [], []⟩
def d_turned : He.DefD := ⟨("turned", none), "turned", "turned", defArgs s_turned, defBody s_turned, defScope s_turned, [], []⟩
def d_moved_by : He.DefD := ⟨("moved_by", none), "moved_by", "moved_by", defArgs s_moved_by, defBody s_moved_by, defScope s_moved_by, [], []⟩
def d_moved : He.DefD := ⟨("moved", none), "moved", "moved", defArgs s_moved, defBody s_moved, defScope s_moved, [], []⟩
def d_sum_of : He.DefD := ⟨("sum_of", none), "sum_of", "sum_of", defArgs s_sum_of, defBody s_sum_of, defScope s_sum_of, [], []⟩
def d_let : He.DefD := ⟨("let", none), "let", "let", defArgs s_let, defBody s_let, defScope s_let, [], []⟩
def d_added : He.DefD := ⟨("added", none), "added", "added", defArgs s_added, defBody s_added, defScope s_added, [], []⟩
def d_times_by : He.DefD := ⟨("times_by", none), "times_by", "times_by", defArgs s_times_by, defBody s_times_by, defScope s_times_by, [], []⟩
def d_times : He.DefD := ⟨("times", none), "times", "times", defArgs s_times, defBody s_times, defScope s_times, [], []⟩
def d_step_of : He.DefD := ⟨("step_of", none), "step_of", "step_of", defArgs s_step_of, defBody s_step_of, defScope s_step_of, [], []⟩
def d_sum_step : He.DefD := ⟨("sum_step", none), "sum_step", "sum_step", defArgs s_sum_step, defBody s_sum_step, defScope s_sum_step, [], []⟩
def d_places_for : He.DefD := ⟨("places_for", none), "places_for", "places_for", defArgs s_places_for, defBody s_places_for, defScope s_places_for, [], []⟩
def d_least_square : He.DefD := ⟨("least_square", none), "least_square", "least_square", defArgs s_least_square, defBody s_least_square, defScope s_least_square, [], []⟩
def d_check_sum : He.DefD := ⟨("check_sum", none), "check_sum", "check_sum", defArgs s_check_sum, defBody s_check_sum, defScope s_check_sum, [], []⟩
def d_sum_told : He.DefD := ⟨("sum_told", none), "sum_told", "sum_told", defArgs s_sum_told, defBody s_sum_told, defScope s_sum_told, [], []⟩
def d_shows_sum : He.DefD := ⟨("shows_sum", none), "shows_sum", "shows_sum", defArgs s_shows_sum, defBody s_shows_sum, defScope s_shows_sum, [], []⟩
def d_divisor : He.DefD := ⟨("divisor", none), "divisor", "divisor", defArgs s_divisor, defBody s_divisor, defScope s_divisor, [], []⟩
def d_lessened : He.DefD := ⟨("lessened", none), "lessened", "lessened", defArgs s_lessened, defBody s_lessened, defScope s_lessened, [], []⟩
def d_without : He.DefD := ⟨("without", none), "without", "without", defArgs s_without, defBody s_without, defScope s_without, [], []⟩
def d_combed : He.DefD := ⟨("combed", none), "combed", "combed", defArgs s_combed, defBody s_combed, defScope s_combed, [], []⟩
def d_asked : He.DefD := ⟨("asked", none), "asked", "asked", defArgs s_asked, defBody s_asked, defScope s_asked, [], []⟩
def d_space_of : He.DefD := ⟨("space_of", none), "space_of", "space_of", defArgs s_space_of, defBody s_space_of, defScope s_space_of, [], []⟩
def d_space_base : He.DefD := ⟨("space_base", none), "space_base", "space_base", defArgs s_space_base, defBody s_space_base, defScope s_space_base, [], []⟩
def d__law_pot : He.DefD := ⟨("_law_pot", none), "_law_pot", "_law_pot", defArgs s__law_pot, defBody s__law_pot, defScope s__law_pot, [], []⟩
def d__law_take : He.DefD := ⟨("_law_take", none), "_law_take", "_law_take", defArgs s__law_take, defBody s__law_take, defScope s__law_take, [], []⟩
def d__law_of : He.DefD := ⟨("_law_of", none), "_law_of", "_law_of", defArgs s__law_of, defBody s__law_of, defScope s__law_of, [], []⟩
def d__law_cells : He.DefD := ⟨("_law_cells", none), "_law_cells", "_law_cells", defArgs s__law_cells, defBody s__law_cells, defScope s__law_cells, [], []⟩
def d__law_is_int : He.DefD := ⟨("_law_is_int", none), "_law_is_int", "_law_is_int", defArgs s__law_is_int, defBody s__law_is_int, defScope s__law_is_int, [], []⟩
def d__law_odd : He.DefD := ⟨("_law_odd", none), "_law_odd", "_law_odd", defArgs s__law_odd, defBody s__law_odd, defScope s__law_odd, [], []⟩
def d__law_bent : He.DefD := ⟨("_law_bent", none), "_law_bent", "_law_bent", defArgs s__law_bent, defBody s__law_bent, defScope s__law_bent, [], []⟩
def d__law_line : He.DefD := ⟨("_law_line", none), "_law_line", "_law_line", defArgs s__law_line, defBody s__law_line, defScope s__law_line, [], []⟩
def d__law_lines : He.DefD := ⟨("_law_lines", none), "_law_lines", "_law_lines", defArgs s__law_lines, defBody s__law_lines, defScope s__law_lines, [], []⟩
def d__law_sum : He.DefD := ⟨("_law_sum", none), "_law_sum", "_law_sum", defArgs s__law_sum, defBody s__law_sum, defScope s__law_sum, [], []⟩
def d__law_is_of : He.DefD := ⟨("_law_is_of", none), "_law_is_of", "_law_is_of", defArgs s__law_is_of, defBody s__law_is_of, defScope s__law_is_of, [], []⟩
def d__law_is_square : He.DefD := ⟨("_law_is_square", none), "_law_is_square", "_law_is_square", defArgs s__law_is_square, defBody s__law_is_square, defScope s__law_is_square, [], []⟩
def d__law_kind : He.DefD := ⟨("_law_kind", none), "_law_kind", "_law_kind", defArgs s__law_kind, defBody s__law_kind, defScope s__law_kind, [], []⟩
def d__law_step : He.DefD := ⟨("_law_step", none), "_law_step", "_law_step", defArgs s__law_step, defBody s__law_step, defScope s__law_step, [], []⟩
def d__law_is_shown : He.DefD := ⟨("_law_is_shown", none), "_law_is_shown", "_law_is_shown", defArgs s__law_is_shown, defBody s__law_is_shown, defScope s__law_is_shown, [], []⟩
def d__law_right : He.DefD := ⟨("_law_right", none), "_law_right", "_law_right", defArgs s__law_right, defBody s__law_right, defScope s__law_right, [], []⟩
def d__law_is_drawn_right : He.DefD := ⟨("_law_is_drawn_right", none), "_law_is_drawn_right", "_law_is_drawn_right", defArgs s__law_is_drawn_right, defBody s__law_is_drawn_right, defScope s__law_is_drawn_right, [], []⟩
def d_law : He.DefD := ⟨("law", none), "law", "law", defArgs s_law, defBody s_law, defScope s_law, [], []⟩
def fn : List He.DefD := [d_is_integer, d_is_between, d_are_between, d_check_order, d_is_square, d_check_square, d_check_kind, d_cells_by, d_sum_by, d_lines_by, d_sums_by, d_cells_of, d_square_by, d_is_of_kind, d_check_number, d_check_two, d_turned_once, d_changed, d_turn_by, d_turned, d_moved_by, d_moved, d_sum_of, d_let, d_added, d_times_by, d_times, d_step_of, d_sum_step, d_places_for, d_least_square, d_check_sum, d_sum_told, d_shows_sum, d_divisor, d_lessened, d_without, d_combed, d_asked, d_space_of, d_space_base, d__law_pot, d__law_take, d__law_of, d__law_cells, d__law_is_int, d__law_odd, d__law_bent, d__law_line, d__law_lines, d__law_sum, d__law_is_of, d__law_is_square, d__law_kind, d__law_step, d__law_is_shown, d__law_right, d__law_is_drawn_right, d_law]
def fa : List He.Fa := [.glo "is_integer", .glo "is_between", .glo "are_between", .glo "check_order", .glo "is_square", .glo "check_square", .glo "check_kind", .glo "cells_by", .glo "sum_by", .glo "lines_by", .glo "sums_by", .glo "cells_of", .glo "square_by", .glo "is_of_kind", .glo "check_number", .glo "check_two", .glo "turned_once", .glo "changed", .glo "turn_by", .glo "turned", .glo "moved_by", .glo "moved", .glo "sum_of", .glo "let", .glo "added", .glo "times_by", .glo "times", .glo "step_of", .glo "sum_step", .glo "places_for", .glo "least_square", .glo "check_sum", .glo "sum_told", .glo "shows_sum", .glo "divisor", .glo "lessened", .glo "without", .glo "combed", .glo "asked", .glo "space_of", .glo "space_base", .glo "_law_pot", .glo "_law_take", .glo "_law_of", .glo "_law_cells", .glo "_law_is_int", .glo "_law_odd", .glo "_law_bent", .glo "_law_line", .glo "_law_lines", .glo "_law_sum", .glo "_law_is_of", .glo "_law_is_square", .glo "_law_kind", .glo "_law_step", .glo "_law_is_shown", .glo "_law_right", .glo "_law_is_drawn_right", .glo "law", .free "ValueError", .free "abs", .free "all", .free "bool", .free "enumerate", .free "int", .free "isinstance", .free "len", .free "list", .free "max", .free "min", .free "range", .free "repr", .free "str", .free "sum", .free "super", .free "tuple", .free "zip", .int "MOST_ORDER" 9, .int "MOST_ENTRY" 1000000000, .str "ROW" "row", .str "COLUMN" "column", .str "DOWN" "down", .str "UP" "up", .str "ROWS" "rows", .str "MAGIC" "magic", .str "ROUND" "round", .str "SQUARE" "square", .int "MOST_TURN" 7, .int "MOST_NUMBER" 1000000, .int "FOUR" 4, .int "THREE" 3, .str "DIVISOR" "divisor"]
def nm0 : List PySem.Str := ["SquareError", "BadKind", "BadNumber", "BadOrder", "BadSquare", "BadTurn", "TooGreat", "Unlike", "is_integer", "is_between", "are_between", "MOST_ORDER", "MOST_ENTRY", "ROW", "COLUMN", "DOWN", "UP", "ROWS", "MAGIC", "ROUND", "check_order", "is_square", "check_square", "check_kind", "cells_by", "sum_by", "lines_by", "sums_by", "cells_of", "square_by"]
def nm1 : List PySem.Str := ["is_of_kind", "SQUARE", "MOST_TURN", "MOST_NUMBER", "FOUR", "check_number", "check_two", "turned_once", "changed", "turn_by", "turned", "moved_by", "moved", "sum_of", "let", "added", "times_by", "times", "THREE", "DIVISOR", "step_of", "sum_step", "places_for", "least_square", "check_sum", "sum_told", "shows_sum", "divisor", "lessened", "without"]
def nm2 : List PySem.Str := ["combed", "asked", "space_of", "space_base", "_law_pot", "_law_take", "_law_of", "_law_cells", "_law_is_int", "_law_odd", "_law_bent", "_law_line", "_law_lines", "_law_sum", "_law_is_of", "_law_is_square", "_law_kind", "_law_step", "_law_is_shown", "_law_right", "_law_is_drawn_right"]
def nm : List PySem.Str := nm0 ++ nm1 ++ nm2
abbrev R : PySem.W.OpenRow := PySem.W.OpenLaw.row PySem.Challenge.rw_everyrowalike_k46_whole_sums_that_square
abbrev hk : PySem.W.Hook := He.hookD 4 fa fn
def ob (s : PySem.W.SharedT) : He.AlD := He.obsDG 4 fa fn (HandSHeadRun.getT s)
theorem ob_eq (s : PySem.W.SharedT) : ob s = hk.obs s.abs := He.obsDG_eq (HandSHeadRun.getT_eq s)
theorem run (w : World) : HandSHeadRun.RunEq R (PySem.W.view R.prog [89]) hk ob 5000 nm w := by
  intro os
  kernel_rfl
end K46
namespace K46
open PySem PySem.Spec L2 VL
def bl : List Str := ["ValueError", "abs", "all", "bool", "enumerate", "int", "isinstance", "len", "list", "max", "min", "range", "repr", "str", "sum", "super", "tuple", "zip"]
def isI : D → Bool
  | .int _ => true
  | _ => false
def btw (lo hi : Int) : D → Bool
  | .int i => decide (lo ≤ i) && decide (i ≤ hi)
  | _ => false
def areB (lo hi : Int) : D → Bool
  | .tup xs => xs.all (btw lo hi)
  | _ => false
def lenT : D → Nat
  | .tup xs => xs.length
  | _ => 0
def isSqB (lo hi : Int) : D → Bool
  | .tup xs => decide (1 ≤ xs.length) && decide (xs.length ≤ 9) && xs.all fun r => areB lo hi r && decide (lenT r = xs.length)
  | _ => false
abbrev N_is_integer : List Str := ["value"]
abbrev P_is_integer : List Str := ["value"]
theorem sc_is_integer : FnScope N_is_integer P_is_integer (defScope s_is_integer) := ⟨rfl, rfl, rfl, by decide +kernel, rfl, by decide +kernel, by decide +kernel⟩
def p_is_integer : VSp := pr1 fun a M Q => Okv M a ∧ Q (.bl (isI a)) M
theorem ok_is_integer {P : Program} {w : World} {K : PySem.W.Frag} {mg : Str → Option Value} {base : Heap} (hD : Df K mg "is_integer" s_is_integer) (hB : Fr mg bl) : Kn P w K mg base 1 "is_integer" P_is_integer p_is_integer := by
  have S := sc_is_integer
  refine kn_of hD sc_is_integer (fun _ _ _ _ _ _ us hl => match us, hl with | [_], _ => rfl) pr1_len ?_
  intro f cdv A outer s H E hr
  refine ⟨_, (vss_one (vs_ret (v_and (v_isi (T := "int") (hB _ (by decide +kernel)) (hB _ (by decide +kernel)) (v_var (pv 0))) (v_one (v_not (v_isi (T := "bool") (hB _ (by decide +kernel)) (hB _ (by decide +kernel)) (v_var (pv 0)))))))), ?_⟩
  clear hr S
  rintro _ M Q ⟨x0, rfl, h⟩
  rw [show vstart N_is_integer.length [x0] = [some x0] from rfl]
  obtain ⟨ok, h⟩ := h
  simp only [sRet, vAnd, vNot]
  refine isi_int x0 (fun R r => ⟨x0, rfl, r⟩) ok ⟨_, rfl, ?_⟩
  cases x0 with
  | int i => simp [isInt, vVar, isI] at h ⊢; exact h
  | bl b => simp [isInt, vVar, isI] at h ⊢; exact h
  | _ => simp [isInt, isI] at h ⊢; exact h
abbrev N_is_between : List Str := ["value", "low", "high"]
abbrev P_is_between : List Str := ["value", "low", "high"]
theorem sc_is_between : FnScope N_is_between P_is_between (defScope s_is_between) := ⟨rfl, rfl, rfl, by decide +kernel, rfl, by decide +kernel, by decide +kernel⟩
def p_is_between : VSp := pr3 fun a b c M Q => ∃ lo hi, Okv M a ∧ b = .int lo ∧ c = .int hi ∧ Q (.bl (btw lo hi a)) M
theorem ok_is_between {P : Program} {w : World} {K : PySem.W.Frag} {mg : Str → Option Value} {base : Heap} (hD : Df K mg "is_between" s_is_between) (hB : Fr mg bl) (k_is_integer : Kn P w K mg base 1 "is_integer" P_is_integer p_is_integer) : Kn P w K mg base 2 "is_between" P_is_between p_is_between := by
  have S := sc_is_between
  refine kn_of hD sc_is_between (fun _ _ _ _ _ _ us hl => match us, hl with | [_, _, _], _ => rfl) pr3_len ?_
  intro f cdv A outer s H E hr
  refine ⟨_, (vss_one (vs_ret (v_and (v_callK k_is_integer hr (va_cons (v_var (pv 0)) va_nil)) (v_one (v_chain o_le o_le (v_var (pv 1)) (v_var (pv 0)) (v_var (pv 2))))))), ?_⟩
  clear hr S
  rintro _ M Q ⟨x0, x1, x2, rfl, h⟩
  rw [show vstart N_is_between.length [x0, x1, x2] = [some x0, some x1, some x2] from rfl]
  obtain ⟨lo, hi, ok, rfl, rfl, h⟩ := h
  simp [p_is_integer]
  refine ⟨ok, ?_⟩
  cases x0 with
  | int i =>
    simp [isI, btw] at h ⊢
    split
    · rename_i z; simpa [z] using h
    · rename_i z; simpa [z] using h
  | _ => simp [isI, btw] at h ⊢; exact h
abbrev N_are_between : List Str := ["value", "low", "high", "one"]
abbrev P_are_between : List Str := ["value", "low", "high"]
theorem sc_are_between : FnScope N_are_between P_are_between (defScope s_are_between) := ⟨rfl, rfl, rfl, by decide +kernel, rfl, by decide +kernel, by decide +kernel⟩
def p_are_between : VSp := pr3 fun a b c M Q => ∃ lo hi, Okv M a ∧ b = .int lo ∧ c = .int hi ∧ Q (.bl (areB lo hi a)) M
theorem ok_are_between {P : Program} {w : World} {K : PySem.W.Frag} {mg : Str → Option Value} {base : Heap} (hD : Df K mg "are_between" s_are_between) (hB : Fr mg bl) (k_is_between : Kn P w K mg base 2 "is_between" P_is_between p_is_between) : Kn P w K mg base 3 "are_between" P_are_between p_are_between := by
  have S := sc_are_between
  refine kn_of hD sc_are_between (fun _ _ _ _ _ _ us hl => match us, hl with | [_, _, _], _ => rfl) pr3_len ?_
  intro f cdv A outer s H E hr
  refine ⟨_, (vss_one (vs_ret (v_and (v_isi (T := "tuple") (hB _ (by decide +kernel)) (hB _ (by decide +kernel)) (v_var (pv 0))) (v_one (v_callB (c_all rfl) (hB _ (by decide +kernel)) (va_cons (v_lc (own := [("one", 3)]) rfl S.nd (vi_seq (v_var (pv 0))) (blkOk_by (by first | rfl | kernel_rfl)) (lcg_name (fun _ _ _ _ _ => pg_name (i := 3) S.nd rfl (by first | exact Or.inl rfl | exact Or.inr rfl))) (fun _ _ _ _ _ => vts_nil) (fun _ _ _ _ _ => (v_callK k_is_between hr (va_cons (v_var (pv 3)) (va_cons (v_var (pv 1)) (va_cons (v_var (pv 2)) va_nil)))))) va_nil)))))), ?_⟩
  clear hr S
  rintro _ M Q ⟨x0, x1, x2, rfl, h⟩
  rw [show vstart N_are_between.length [x0, x1, x2] = [some x0, some x1, some x2, none] from rfl]
  obtain ⟨lo, hi, ok, rfl, rfl, h⟩ := h
  simp only [sRet, vAnd]
  refine isi_tuple x0 (fun R r => ⟨x0, rfl, r⟩) ok ⟨_, rfl, ?_⟩
  cases x0 with
  | tup xs =>
    unfold Okv at ok
    have sz := size1000
    simp [isTuple]
    refine vLc_al xs (fun d => d) (fun d => .bl (btw lo hi d)) (w := ⟨xs, fun _ => True⟩) (fun R r => ?_) (by simp) trivial (by omega) (fun d hd A hA => ?_) ?_
    · simpa using r
    · simp [vwipe, p_is_between]
      exact ⟨okvs_mem ok.2 d hd, hA⟩
    · simp [VL.rAll]
      exact ⟨xs.map (btw lo hi), by simp [Function.comp_def], by simpa [List.all_map, Function.comp_def, areB] using h⟩
  | _ => simp [isTuple, areB] at h ⊢; exact h
abbrev N_check_order : List Str := ["value"]
abbrev P_check_order : List Str := ["value"]
theorem sc_check_order : FnScope N_check_order P_check_order (defScope s_check_order) := ⟨rfl, rfl, rfl, by decide +kernel, rfl, by decide +kernel, by decide +kernel⟩
def p_check_order : VSp := pr1 fun a M Q => ∃ n : Nat, a = .int n ∧ 1 ≤ n ∧ n ≤ 9 ∧ Q .non M
theorem ok_check_order {P : Program} {w : World} {K : PySem.W.Frag} {mg : Str → Option Value} {base : Heap} (hD : Df K mg "check_order" s_check_order) (hB : Fr mg bl) {t_MOST_ORDER : Tok} (i_MOST_ORDER : mg "MOST_ORDER" = some (.int 9 t_MOST_ORDER)) (k_is_between : Kn P w K mg base 2 "is_between" P_is_between p_is_between) : Kn P w K mg base 3 "check_order" P_check_order p_check_order := by
  have S := sc_check_order
  refine kn_of hD sc_check_order (fun _ _ _ _ _ _ us hl => match us, hl with | [_], _ => rfl) pr1_len ?_
  intro f cdv A outer s H E hr
  refine ⟨_, (vss_one (vs_if (t_not (t_val (v_callK k_is_between hr (va_cons (v_var (pv 0)) (va_cons v_int (va_cons (v_gint i_MOST_ORDER ⟨_, rfl⟩) va_nil)))))) vss_never vss_nil)), ?_⟩
  clear hr S
  rintro _ M Q ⟨x0, rfl, h⟩
  rw [show vstart N_check_order.length [x0] = [some x0] from rfl]
  obtain ⟨n, rfl, h1, h2, h⟩ := h
  have b : (1 : Int) ≤ n ∧ (n : Int) ≤ 9 := by omega
  simp [p_is_between, btw, b, Okv]
  exact h
abbrev N_is_square : List Str := ["value", "row"]
abbrev P_is_square : List Str := ["value"]
theorem sc_is_square : FnScope N_is_square P_is_square (defScope s_is_square) := ⟨rfl, rfl, rfl, by decide +kernel, rfl, by decide +kernel, by decide +kernel⟩
def p_is_square : VSp := pr1 fun a M Q => Okv M a ∧ Q (.bl (isSqB (-1000000000) 1000000000 a)) M
theorem ok_is_square {P : Program} {w : World} {K : PySem.W.Frag} {mg : Str → Option Value} {base : Heap} (hD : Df K mg "is_square" s_is_square) (hB : Fr mg bl) {t_MOST_ORDER : Tok} (i_MOST_ORDER : mg "MOST_ORDER" = some (.int 9 t_MOST_ORDER)) {t_MOST_ENTRY : Tok} (i_MOST_ENTRY : mg "MOST_ENTRY" = some (.int 1000000000 t_MOST_ENTRY)) (k_are_between : Kn P w K mg base 3 "are_between" P_are_between p_are_between) : Kn P w K mg base 4 "is_square" P_is_square p_is_square := by
  have S := sc_is_square
  refine kn_of hD sc_is_square (fun _ _ _ _ _ _ us hl => match us, hl with | [_], _ => rfl) pr1_len ?_
  intro f cdv A outer s H E hr
  refine ⟨_, (vss_cons (vs_if (t_pw (t_or (t_not (t_val (v_isi (T := "tuple") (hB _ (by decide +kernel)) (hB _ (by decide +kernel)) (v_var (pv 0))))) (t_or1 (t_not (t_chain o_le o_le v_int (v_callB c_len (hB _ (by decide +kernel)) (va_cons (v_var (pv 0)) va_nil)) (v_gint i_MOST_ORDER ⟨_, rfl⟩)))))) (vss_one (vs_ret v_bl)) vss_nil) (vss_one (vs_ret (v_callB (c_all rfl) (hB _ (by decide +kernel)) (va_cons (v_lc (own := [("row", 1)]) rfl S.nd (vi_seq (v_var (pv 0))) (blkOk_by (by first | rfl | kernel_rfl)) (lcg_name (fun _ _ _ _ _ => pg_name (i := 1) S.nd rfl (by first | exact Or.inl rfl | exact Or.inr rfl))) (fun _ _ _ _ _ => vts_nil) (fun _ _ _ _ _ => (v_and (v_callK k_are_between hr (va_cons (v_var (pv 1)) (va_cons (v_op o_sub v_int (v_gint i_MOST_ENTRY ⟨_, rfl⟩)) (va_cons (v_gint i_MOST_ENTRY ⟨_, rfl⟩) va_nil)))) (v_one (v_cmp (o_eq hr.r) (v_callB c_len (hB _ (by decide +kernel)) (va_cons (v_var (pv 1)) va_nil)) (v_callB c_len (hB _ (by decide +kernel)) (va_cons (v_var (pv 0)) va_nil)) (nomark _)))))) va_nil))))), ?_⟩
  clear hr S
  rintro _ M Q ⟨x0, rfl, h⟩
  rw [show vstart N_is_square.length [x0] = [some x0, none] from rfl]
  obtain ⟨ok, h⟩ := h
  simp only [sSeq, sIf, vOrT, vNotT, vTest]
  refine isi_tuple x0 (fun R r => ⟨x0, rfl, r⟩) ok ⟨_, rfl, ?_⟩
  cases x0 with
  | tup xs =>
    unfold Okv at ok
    have sz := size1000
    simp [isTuple]
    by_cases h1 : 1 ≤ xs.length ∧ xs.length ≤ 9
    · have b1 : (1 : Int) ≤ (xs.length : Int) := by omega
      have b2 : (xs.length : Int) ≤ 9 := by omega
      have b3 : ¬ (9 < (xs.length : Int)) := by omega
      simp [b1, b2, b3]
      refine vLc_al xs (fun d => d) (fun r => .bl (areB (-1000000000) 1000000000 r && decide (lenT r = xs.length))) (w := ⟨xs, fun _ => True⟩) (fun R r => ?_) (by simp) trivial (by omega) (fun d hd A hA => ?_) ?_
      · simpa using r
      · simp [vwipe, p_are_between]
        refine ⟨okvs_mem ok.2 d hd, ?_⟩
        cases d with
        | tup ys =>
          by_cases q : areB (-1000000000) 1000000000 (.tup ys) = true
          · have e : ((ys.length : Int) = (xs.length : Int)) ↔ ys.length = xs.length := by omega
            simp [q, lenT, e] at hA ⊢; exact hA
          · simp [q] at hA ⊢; exact hA
        | _ => simp [areB] at hA ⊢; exact hA
      · simp [VL.rAll]
        exact ⟨xs.map fun r => areB (-1000000000) 1000000000 r && decide (lenT r = xs.length), by simp [Function.comp_def], by simpa [List.all_map, Function.comp_def, isSqB, h1] using h⟩
    · have e : isSqB (-1000000000) 1000000000 (.tup xs) = false := by
        have : (decide (1 ≤ xs.length) && decide (xs.length ≤ 9)) = false := by
          rw [← Bool.decide_and]; exact decide_eq_false h1
        simp only [isSqB, this, Bool.false_and]
      rw [e] at h
      by_cases q : 1 ≤ xs.length
      · have b1 : (1 : Int) ≤ (xs.length : Int) := by omega
        have b3 : (9 < (xs.length : Int)) := by omega
        have b2 : ¬ (xs.length : Int) ≤ 9 := by omega
        simp [b1, b2, b3]; exact h
      · have b1 : ¬ (1 : Int) ≤ (xs.length : Int) := by omega
        simp [b1]; exact h
  | _ => simp [isTuple, isSqB] at h ⊢; exact h
def sqD (m : List (List Int)) : D := .tup (m.map fun r => .tup (r.map D.int))
def Sq (n : Nat) (m : List (List Int)) : Prop := 1 ≤ n ∧ n ≤ 9 ∧ m.length = n ∧ (∀ r ∈ m, r.length = n) ∧ ∀ r ∈ m, ∀ x ∈ r, -1000000000 ≤ x ∧ x ≤ 1000000000
theorem sq_ok {n : Nat} {m : List (List Int)} {M : Mem} (h : Sq n m) : Okv M (sqD m) := by
  unfold sqD Okv
  refine ⟨by rw [List.length_map, h.2.2.1]; have := h.2.1; omega, okvs_of fun x hx => ?_⟩
  obtain ⟨r, hr, rfl⟩ := List.mem_map.mp hx
  unfold Okv
  refine ⟨by rw [List.length_map, h.2.2.2.1 r hr]; have := h.2.1; omega, okvs_of fun y hy => ?_⟩
  obtain ⟨i, _, rfl⟩ := List.mem_map.mp hy
  unfold Okv; trivial
theorem sq_is {n : Nat} {m : List (List Int)} (h : Sq n m) : isSqB (-1000000000) 1000000000 (sqD m) = true := by
  obtain ⟨h1, h2, h3, h4, h5⟩ := h
  simp only [sqD, isSqB, List.length_map, h3, decide_eq_true h1, decide_eq_true h2, Bool.true_and, List.all_map, List.all_eq_true]
  intro r hr
  simp only [Function.comp_def, areB, lenT, List.length_map, h4 r hr, decide_true, Bool.and_true, List.all_map, List.all_eq_true]
  intro x hx
  obtain ⟨b1, b2⟩ := h5 r hr x hx
  simp [btw, b1, b2]
theorem is_sq {d : D} (h : isSqB (-1000000000) 1000000000 d = true) : ∃ m, d = sqD m ∧ Sq m.length m := by
  cases d with
  | tup xs =>
    simp only [isSqB, Bool.and_eq_true, decide_eq_true_eq, List.all_eq_true] at h
    obtain ⟨⟨h1, h2⟩, h3⟩ := h
    have key : ∀ r ∈ xs, ∃ l : List Int, r = .tup (l.map D.int) ∧ l.length = xs.length ∧ ∀ x ∈ l, -1000000000 ≤ x ∧ x ≤ 1000000000 := fun r hr => by
      obtain ⟨q1, q2⟩ := h3 r hr
      cases r with
      | tup ys =>
        have k2 : ∀ y ∈ ys, ∃ i : Int, y = .int i ∧ -1000000000 ≤ i ∧ i ≤ 1000000000 := fun y hy => by
          have := List.all_eq_true.mp q1 y hy
          cases y with
          | int i => simp [btw] at this; exact ⟨i, rfl, this⟩
          | _ => simp [btw] at this
        have k3 : ∀ zs : List D, (∀ y ∈ zs, ∃ i : Int, y = .int i ∧ -1000000000 ≤ i ∧ i ≤ 1000000000) → ∃ l : List Int, zs = l.map D.int ∧ ∀ x ∈ l, -1000000000 ≤ x ∧ x ≤ 1000000000 := fun zs => by
          induction zs with
          | nil => exact fun _ => ⟨[], rfl, fun _ z => nomatch z⟩
          | cons z zs ih =>
            intro hz
            obtain ⟨i, rfl, b⟩ := hz z List.mem_cons_self
            obtain ⟨l, e, bl⟩ := ih fun y hy => hz y (List.mem_cons_of_mem _ hy)
            exact ⟨i :: l, by rw [e] <;> rfl, fun x hx => by
              rcases List.mem_cons.mp hx with rfl | hx
              · exact b
              · exact bl x hx⟩
        obtain ⟨l, e, bl⟩ := k3 ys k2
        exact ⟨l, by rw [e], by simp [lenT, e] at q2; exact q2, bl⟩
      | _ => simp [areB] at q1
    have k4 : ∀ zs : List D, (∀ r ∈ zs, ∃ l : List Int, r = .tup (l.map D.int) ∧ l.length = xs.length ∧ ∀ x ∈ l, -1000000000 ≤ x ∧ x ≤ 1000000000) → ∃ m : List (List Int), zs = m.map (fun r => .tup (r.map D.int)) ∧ ∀ r ∈ m, r.length = xs.length ∧ ∀ x ∈ r, -1000000000 ≤ x ∧ x ≤ 1000000000 := fun zs => by
      induction zs with
      | nil => exact fun _ => ⟨[], rfl, fun _ z => nomatch z⟩
      | cons z zs ih =>
        intro hz
        obtain ⟨l, rfl, b1, b2⟩ := hz z List.mem_cons_self
        obtain ⟨m, e, bm⟩ := ih fun y hy => hz y (List.mem_cons_of_mem _ hy)
        exact ⟨l :: m, by rw [e] <;> rfl, fun x hx => by
          rcases List.mem_cons.mp hx with rfl | hx
          · exact ⟨b1, b2⟩
          · exact bm x hx⟩
    obtain ⟨m, e, bm⟩ := k4 xs key
    have hl : m.length = xs.length := by rw [e, List.length_map]
    exact ⟨m, by rw [e] <;> rfl, by omega, by omega, rfl, fun r hr => by rw [hl]; exact (bm r hr).1, fun r hr => (bm r hr).2⟩
  | _ => simp [isSqB] at h
abbrev N_check_square : List Str := ["value"]
abbrev P_check_square : List Str := ["value"]
theorem sc_check_square : FnScope N_check_square P_check_square (defScope s_check_square) := ⟨rfl, rfl, rfl, by decide +kernel, rfl, by decide +kernel, by decide +kernel⟩
def p_check_square : VSp := pr1 fun a M Q => ∃ m, a = sqD m ∧ Sq m.length m ∧ Q .non M
theorem ok_check_square {P : Program} {w : World} {K : PySem.W.Frag} {mg : Str → Option Value} {base : Heap} (hD : Df K mg "check_square" s_check_square) (hB : Fr mg bl) (k_is_square : Kn P w K mg base 4 "is_square" P_is_square p_is_square) : Kn P w K mg base 5 "check_square" P_check_square p_check_square := by
  have S := sc_check_square
  refine kn_of hD sc_check_square (fun _ _ _ _ _ _ us hl => match us, hl with | [_], _ => rfl) pr1_len ?_
  intro f cdv A outer s H E hr
  refine ⟨_, (vss_one (vs_if (t_not (t_val (v_callK k_is_square hr (va_cons (v_var (pv 0)) va_nil)))) vss_never vss_nil)), ?_⟩
  clear hr S
  rintro _ M Q ⟨x0, rfl, h⟩
  rw [show vstart N_check_square.length [x0] = [some x0] from rfl]
  obtain ⟨m, rfl, hm, h⟩ := h
  simp [p_is_square]
  exact ⟨sq_ok hm, by simpa [sq_is hm] using h⟩
def Kd (k : Str) : Prop := k = "rows" ∨ k = "magic" ∨ k = "round"
abbrev N_check_kind : List Str := ["kind"]
abbrev P_check_kind : List Str := ["kind"]
theorem sc_check_kind : FnScope N_check_kind P_check_kind (defScope s_check_kind) := ⟨rfl, rfl, rfl, by decide +kernel, rfl, by decide +kernel, by decide +kernel⟩
def p_check_kind : VSp := pr1 fun a M Q => ∃ k : Str, a = .str k ∧ Kd k ∧ Q .non M
theorem ok_check_kind {P : Program} {w : World} {K : PySem.W.Frag} {mg : Str → Option Value} {base : Heap} (hD : Df K mg "check_kind" s_check_kind) (hB : Fr mg bl) {t_ROWS : Tok} (i_ROWS : mg "ROWS" = some (.str "rows" t_ROWS)) {t_MAGIC : Tok} (i_MAGIC : mg "MAGIC" = some (.str "magic" t_MAGIC)) {t_ROUND : Tok} (i_ROUND : mg "ROUND" = some (.str "round" t_ROUND)) : Kn P w K mg base 1 "check_kind" P_check_kind p_check_kind := by
  have S := sc_check_kind
  refine kn_of hD sc_check_kind (fun _ _ _ _ _ _ us hl => match us, hl with | [_], _ => rfl) pr1_len ?_
  intro f cdv A outer s H E hr
  refine ⟨_, (vss_one (vs_if (t_pw (t_or (t_not (t_val (v_isi (T := "str") (hB _ (by decide +kernel)) (hB _ (by decide +kernel)) (v_var (pv 0))))) (t_or1 (t_cmp (o_notIn hr.r) (v_var (pv 0)) (v_tup (va_cons (v_gstr i_ROWS ⟨_, rfl⟩) (va_cons (v_gstr i_MAGIC ⟨_, rfl⟩) (va_cons (v_gstr i_ROUND ⟨_, rfl⟩) va_nil)))) (by with_unfolding_all rfl))))) vss_never vss_nil)), ?_⟩
  clear hr S
  rintro _ M Q ⟨x0, rfl, h⟩
  rw [show vstart N_check_kind.length [x0] = [some x0] from rfl]
  obtain ⟨k, rfl, hk, h⟩ := h
  simp only [sIf, vOrT, vNotT, vTest]
  refine isi_str (.str k) (fun R r => ⟨_, rfl, r⟩) (by unfold Okv; trivial) ⟨_, rfl, ?_⟩
  have e : ∀ A : VL.VK, A (.bl false) M → oNotIn (.str k) (.tup [.str "rows", .str "magic", .str "round"]) M A := fun A q => by
    refine ⟨_, rfl, ?_, fun z hz => ?_, ?_⟩
    · rcases hk with rfl | rfl | rfl <;> exact sh_str (by decide +kernel)
    · simp at hz
      rcases hz with rfl | rfl | rfl <;> exact sh_str (by decide +kernel)
    · have : inD (.str k) [.str "rows", .str "magic", .str "round"] = true := by
        rcases hk with rfl | rfl | rfl <;> simp [inD, eqD_str]
      rw [this]; exact q
  simp [isStr]
  exact e _ (by simpa using h)
@[simp] theorem w_cr : (Str.ofString "column" = Str.ofString "row") = False := eq_false (by decide +kernel)
@[simp] theorem w_dr : (Str.ofString "down" = Str.ofString "row") = False := eq_false (by decide +kernel)
@[simp] theorem w_dc : (Str.ofString "down" = Str.ofString "column") = False := eq_false (by decide +kernel)
@[simp] theorem w_rm : (Str.ofString "rows" = Str.ofString "magic") = False := eq_false (by decide +kernel)
@[simp] theorem w_rr : (Str.ofString "rows" = Str.ofString "round") = False := eq_false (by decide +kernel)
@[simp] theorem w_mr : (Str.ofString "magic" = Str.ofString "round") = False := eq_false (by decide +kernel)
@[simp] theorem w_rom : (Str.ofString "round" = Str.ofString "magic") = False := eq_false (by decide +kernel)
def lnD (l : Str × Int) : D := .tup [.str l.1, .int l.2]
def cD (c : Int × Int) : D := .tup [.int c.1, .int c.2]
def cellsOf (n : Nat) (w : Str) (k : Int) : List (Int × Int) :=
  if w = "row" then (List.range n).map fun a => (k, ((a : Nat) : Int)) else if w = "column" then (List.range n).map fun a => (((a : Nat) : Int), k)
  else if w = "down" then (List.range n).map fun a => (((a : Nat) : Int), (((a : Nat) : Int) + k) % (n : Int)) else (List.range n).map fun a => (((a : Nat) : Int), (k - ((a : Nat) : Int)) % (n : Int))
def linesOf (n : Nat) (kind : Str) : List (Str × Int) :=
  ((List.range n).map fun a => (("row" : Str), ((a : Nat) : Int))) ++ ((List.range n).map fun a => (("column" : Str), ((a : Nat) : Int))) ++
  (if kind = "magic" then [(("down" : Str), (0 : Int)), (("up" : Str), (n : Int) - 1)] else if kind = "round" then ((List.range n).map fun a => (("down" : Str), ((a : Nat) : Int))) ++ ((List.range n).map fun a => (("up" : Str), ((a : Nat) : Int))) else [])
abbrev N_cells_by : List Str := ["order", "line", "word", "number", "at"]
abbrev P_cells_by : List Str := ["order", "line"]
theorem sc_cells_by : FnScope N_cells_by P_cells_by (defScope s_cells_by) := ⟨rfl, rfl, rfl, by decide +kernel, rfl, by decide +kernel, by decide +kernel⟩
def p_cells_by : VSp := pr2 fun a b M Q => ∃ (n : Nat) (w : Str) (k : Int), a = .int n ∧ b = lnD (w, k) ∧ 1 ≤ n ∧ n ≤ 9 ∧ Q (.lst ((cellsOf n w k).map cD)) M
theorem ok_cells_by {P : Program} {w : World} {K : PySem.W.Frag} {mg : Str → Option Value} {base : Heap} (hD : Df K mg "cells_by" s_cells_by) (hB : Fr mg bl) {t_ROW : Tok} (i_ROW : mg "ROW" = some (.str "row" t_ROW)) {t_COLUMN : Tok} (i_COLUMN : mg "COLUMN" = some (.str "column" t_COLUMN)) {t_DOWN : Tok} (i_DOWN : mg "DOWN" = some (.str "down" t_DOWN)) : Kn P w K mg base 1 "cells_by" P_cells_by p_cells_by := by
  have S := sc_cells_by
  refine kn_of hD sc_cells_by (fun _ _ _ _ _ _ us hl => match us, hl with | [_, _], _ => rfl) pr2_len ?_
  intro f cdv A outer s H E hr
  refine ⟨_, (vss_cons (vs_asg (v_var (pv 1)) (vg_tup (n := 2) rfl (vgs_cons (vg_name (pg_name (i := 2) S.nd rfl (by first | exact Or.inl rfl | exact Or.inr rfl))) (vgs_cons (vg_name (pg_name (i := 3) S.nd rfl (by first | exact Or.inl rfl | exact Or.inr rfl))) vgs_nil)))) (vss_cons (vs_if (t_cmp (o_eq hr.r) (v_var (pv 2)) (v_gstr i_ROW ⟨_, rfl⟩) (nomark _)) (vss_one (vs_ret (v_lc (own := [("at", 4)]) rfl S.nd (vi_range1 (hB _ (by decide +kernel)) (va_cons (v_var (pv 0)) va_nil)) (blkOk_by (by first | rfl | kernel_rfl)) (lcg_name (fun _ _ _ _ _ => pg_name (i := 4) S.nd rfl (by first | exact Or.inl rfl | exact Or.inr rfl))) (fun _ _ _ _ _ => vts_nil) (fun _ _ _ _ _ => (v_tup (va_cons (v_var (pv 3)) (va_cons (v_var (pv 4)) va_nil))))))) vss_nil) (vss_cons (vs_if (t_cmp (o_eq hr.r) (v_var (pv 2)) (v_gstr i_COLUMN ⟨_, rfl⟩) (nomark _)) (vss_one (vs_ret (v_lc (own := [("at", 4)]) rfl S.nd (vi_range1 (hB _ (by decide +kernel)) (va_cons (v_var (pv 0)) va_nil)) (blkOk_by (by first | rfl | kernel_rfl)) (lcg_name (fun _ _ _ _ _ => pg_name (i := 4) S.nd rfl (by first | exact Or.inl rfl | exact Or.inr rfl))) (fun _ _ _ _ _ => vts_nil) (fun _ _ _ _ _ => (v_tup (va_cons (v_var (pv 4)) (va_cons (v_var (pv 3)) va_nil))))))) vss_nil) (vss_cons (vs_if (t_cmp (o_eq hr.r) (v_var (pv 2)) (v_gstr i_DOWN ⟨_, rfl⟩) (nomark _)) (vss_one (vs_ret (v_lc (own := [("at", 4)]) rfl S.nd (vi_range1 (hB _ (by decide +kernel)) (va_cons (v_var (pv 0)) va_nil)) (blkOk_by (by first | rfl | kernel_rfl)) (lcg_name (fun _ _ _ _ _ => pg_name (i := 4) S.nd rfl (by first | exact Or.inl rfl | exact Or.inr rfl))) (fun _ _ _ _ _ => vts_nil) (fun _ _ _ _ _ => (v_tup (va_cons (v_var (pv 4)) (va_cons (v_op o_mod (v_op o_add (v_var (pv 4)) (v_var (pv 3))) (v_var (pv 0))) va_nil))))))) vss_nil) (vss_one (vs_ret (v_lc (own := [("at", 4)]) rfl S.nd (vi_range1 (hB _ (by decide +kernel)) (va_cons (v_var (pv 0)) va_nil)) (blkOk_by (by first | rfl | kernel_rfl)) (lcg_name (fun _ _ _ _ _ => pg_name (i := 4) S.nd rfl (by first | exact Or.inl rfl | exact Or.inr rfl))) (fun _ _ _ _ _ => vts_nil) (fun _ _ _ _ _ => (v_tup (va_cons (v_var (pv 4)) (va_cons (v_op o_mod (v_op o_sub (v_var (pv 3)) (v_var (pv 4))) (v_var (pv 0))) va_nil))))))))))), ?_⟩
  clear hr S
  rintro _ M Q ⟨x0, x1, rfl, h⟩
  rw [show vstart N_cells_by.length [x0, x1] = [some x0, some x1, none, none, none] from rfl]
  obtain ⟨n, w, k, rfl, rfl, n1, n9, h⟩ := h
  have sz := size1000
  have b64 : -4611686018427387904 ≤ (n : Int) ∧ (n : Int) < 4611686018427387904 := by omega
  have n0 : (0 : Int) < n := by omega
  simp [lnD]
  by_cases w1 : w = "row"
  · simp [w1]
    refine vLc_al (List.range n) (fun i => .int (0 + ((i : Nat) : Int))) (fun i => cD (k, ((i : Nat) : Int))) (w := ⟨_, fun _ => True⟩) (fun R r => ?_) rfl trivial (by simp; omega) (fun i hi A hA => ?_) ?_
    · simpa [rgD, b64] using r
    · simpa [vwipe, cD] using hA
    · simpa [cellsOf, w1, Function.comp_def] using h
  · simp [w1]
    by_cases w2 : w = "column"
    · simp [w2]
      refine vLc_al (List.range n) (fun i => .int (0 + ((i : Nat) : Int))) (fun i => cD (((i : Nat) : Int), k)) (w := ⟨_, fun _ => True⟩) (fun R r => ?_) rfl trivial (by simp; omega) (fun i hi A hA => ?_) ?_
      · simpa [rgD, b64] using r
      · simpa [vwipe, cD] using hA
      · simpa [cellsOf, w1, w2, Function.comp_def] using h
    · simp [w2]
      by_cases w3 : w = "down"
      · simp [w3]
        refine vLc_al (List.range n) (fun i => .int (0 + ((i : Nat) : Int))) (fun i => cD (((i : Nat) : Int), (((i : Nat) : Int) + k) % (n : Int))) (w := ⟨_, fun _ => True⟩) (fun R r => ?_) rfl trivial (by simp; omega) (fun i hi A hA => ?_) ?_
        · simpa [rgD, b64] using r
        · simpa [vwipe, cD, n0] using ⟨by omega, hA⟩
        · simpa [cellsOf, w1, w2, w3, Function.comp_def] using h
      · simp [w3]
        refine vLc_al (List.range n) (fun i => .int (0 + ((i : Nat) : Int))) (fun i => cD (((i : Nat) : Int), (k - ((i : Nat) : Int)) % (n : Int))) (w := ⟨_, fun _ => True⟩) (fun R r => ?_) rfl trivial (by simp; omega) (fun i hi A hA => ?_) ?_
        · simpa [rgD, b64] using r
        · simpa [vwipe, cD, n0] using ⟨by omega, hA⟩
        · simpa [cellsOf, w1, w2, w3, Function.comp_def] using h
theorem cells_in {n : Nat} {w : Str} {k : Int} (h0 : 0 ≤ k) (h1 : k < n) : ∀ c ∈ cellsOf n w k, 0 ≤ c.1 ∧ c.1 < n ∧ 0 ≤ c.2 ∧ c.2 < n := by
  intro c hc
  unfold cellsOf at hc
  have n0 : (0 : Int) < n := by omega
  split at hc
  · obtain ⟨a, ha, rfl⟩ := List.mem_map.mp hc
    have := List.mem_range.mp ha
    simp only; omega
  · split at hc
    · obtain ⟨a, ha, rfl⟩ := List.mem_map.mp hc
      have := List.mem_range.mp ha
      simp only; omega
    · split at hc
      · obtain ⟨a, ha, rfl⟩ := List.mem_map.mp hc
        have := List.mem_range.mp ha
        have e1 := Int.emod_nonneg ((a : Int) + k) (show (n : Int) ≠ 0 by omega)
        have e2 := Int.emod_lt_of_pos ((a : Int) + k) n0
        simp only; omega
      · obtain ⟨a, ha, rfl⟩ := List.mem_map.mp hc
        have := List.mem_range.mp ha
        have e1 := Int.emod_nonneg (k - (a : Int)) (show (n : Int) ≠ 0 by omega)
        have e2 := Int.emod_lt_of_pos (k - (a : Int)) n0
        simp only; omega
theorem lines_in {n : Nat} {kind : Str} (h : 1 ≤ n) : ∀ l ∈ linesOf n kind, 0 ≤ l.2 ∧ l.2 < n := by
  intro l hl
  unfold linesOf at hl
  rw [List.mem_append, List.mem_append] at hl
  have rg : ∀ (w : Str), l ∈ (List.range n).map (fun a => (w, ((a : Nat) : Int))) → 0 ≤ l.2 ∧ l.2 < n := fun w h => by
    obtain ⟨a, ha, rfl⟩ := List.mem_map.mp h
    have := List.mem_range.mp ha
    simp only; omega
  rcases hl with (hl | hl) | hl
  · exact rg _ hl
  · exact rg _ hl
  · split at hl
    · simp at hl
      rcases hl with rfl | rfl <;> simp only <;> omega
    · split at hl
      · rw [List.mem_append] at hl
        rcases hl with hl | hl
        · exact rg _ hl
        · exact rg _ hl
      · cases hl
def entry (m : List (List Int)) (c : Int × Int) : Int := (m.getD c.1.toNat []).getD c.2.toNat 0
def sumOf (n : Nat) (m : List (List Int)) (l : Str × Int) : Int := ((cellsOf n l.1 l.2).map (entry m)).sum
theorem entry_at {n : Nat} {m : List (List Int)} (h : Sq n m) {c : Int × Int} (h1 : 0 ≤ c.1) (h2 : c.1 < n) (h3 : 0 ≤ c.2) (h4 : c.2 < n) :
    ∃ r : List Int, L2.atI (m.map fun (r : List Int) => D.tup (r.map D.int)) c.1 = some (.tup (r.map D.int)) ∧ L2.atI (r.map D.int) c.2 = some (.int (entry m c)) := by
  obtain ⟨q1, q2, q3, q4, q5⟩ := h
  have l1 : c.1.toNat < m.length := by omega
  have hr := q4 (m[c.1.toNat]) (List.getElem_mem l1)
  have l2 : c.2.toNat < (m[c.1.toNat]).length := by omega
  refine ⟨m[c.1.toNat], ?_, ?_⟩
  · rw [atI_ge h1, List.getElem?_map, List.getElem?_eq_getElem l1] <;> rfl
  · rw [atI_ge h3, List.getElem?_map, List.getElem?_eq_getElem l2]
    unfold entry
    rw [List.getD_eq_getElem?_getD, List.getD_eq_getElem?_getD, List.getElem?_eq_getElem l1]
    show some (D.int _) = some (D.int (((m[c.1.toNat])[c.2.toNat]?).getD 0))
    rw [List.getElem?_eq_getElem l2] <;> rfl
abbrev N_sum_by : List Str := ["square", "line", "row", "column"]
abbrev P_sum_by : List Str := ["square", "line"]
theorem sc_sum_by : FnScope N_sum_by P_sum_by (defScope s_sum_by) := ⟨rfl, rfl, rfl, by decide +kernel, rfl, by decide +kernel, by decide +kernel⟩
def p_sum_by : VSp := pr2 fun a b M Q => ∃ (m : List (List Int)) (l : Str × Int), a = sqD m ∧ b = lnD l ∧ Sq m.length m ∧ 0 ≤ l.2 ∧ l.2 < m.length ∧ Q (.int (sumOf m.length m l)) M
theorem ok_sum_by {P : Program} {w : World} {K : PySem.W.Frag} {mg : Str → Option Value} {base : Heap} (hD : Df K mg "sum_by" s_sum_by) (hB : Fr mg bl) (k_cells_by : Kn P w K mg base 1 "cells_by" P_cells_by p_cells_by) : Kn P w K mg base 2 "sum_by" P_sum_by p_sum_by := by
  have S := sc_sum_by
  refine kn_of hD sc_sum_by (fun _ _ _ _ _ _ us hl => match us, hl with | [_, _], _ => rfl) pr2_len ?_
  intro f cdv A outer s H E hr
  refine ⟨_, (vss_one (vs_ret (v_callB (c_sum rfl) (hB _ (by decide +kernel)) (va_cons (v_lc (own := [("row", 2), ("column", 3)]) rfl S.nd (vi_seq (v_callK k_cells_by hr (va_cons (v_callB c_len (hB _ (by decide +kernel)) (va_cons (v_var (pv 0)) va_nil)) (va_cons (v_var (pv 1)) va_nil)))) (blkOk_by (by first | rfl | kernel_rfl)) (lcg_tup (n := 2) rfl (lcgs_cons (lcg_name (fun _ _ _ _ _ => pg_name (i := 2) S.nd rfl (by first | exact Or.inl rfl | exact Or.inr rfl))) (lcgs_cons (lcg_name (fun _ _ _ _ _ => pg_name (i := 3) S.nd rfl (by first | exact Or.inl rfl | exact Or.inr rfl))) lcgs_nil))) (fun _ _ _ _ _ => vts_nil) (fun _ _ _ _ _ => (v_ix (v_ix (v_var (pv 0)) (v_var (pv 2))) (v_var (pv 3))))) va_nil)))), ?_⟩
  clear hr S
  rintro _ M Q ⟨x0, x1, rfl, h⟩
  rw [show vstart N_sum_by.length [x0, x1] = [some x0, some x1, none, none] from rfl]
  obtain ⟨m, l, rfl, rfl, hm, l0, l1, h⟩ := h
  have sz := size1000
  obtain ⟨q1, q2, q3, q4, q5⟩ := id hm
  have hcl : (cellsOf m.length l.1 l.2).length = m.length := by
    unfold cellsOf
    split
    · simp
    · split
      · simp
      · split <;> simp
  simp
  refine vLc_al (cellsOf m.length l.1 l.2) cD (fun c => .int (entry m c)) (w := ⟨(cellsOf m.length l.1 l.2).map cD, fun _ => True⟩) (fun R r => ?_) rfl trivial (by omega) (fun c hc A hA => ?_) ?_
  · simp [sqD]
    exact pr2_at.mpr ⟨m.length, l.1, l.2, rfl, rfl, q1, q2, by simpa using r⟩
  · obtain ⟨c1, c2, c3, c4⟩ := cells_in l0 l1 c hc
    obtain ⟨r, e1, e2⟩ := entry_at hm c1 c2 c3 c4
    simp [vwipe, sqD, cD, e1, e2]
    exact hA
  · simp [VL.rSum]
    exact ⟨(cellsOf m.length l.1 l.2).map (entry m), by simp [Function.comp_def], h⟩
abbrev N_lines_by : List Str := ["order", "kind", "found", "number"]
abbrev P_lines_by : List Str := ["order", "kind"]
theorem sc_lines_by : FnScope N_lines_by P_lines_by (defScope s_lines_by) := ⟨rfl, rfl, rfl, by decide +kernel, rfl, by decide +kernel, by decide +kernel⟩
def p_lines_by : VSp := pr2 fun a b M Q => ∃ (n : Nat) (k : Str), a = .int n ∧ b = .str k ∧ Kd k ∧ 1 ≤ n ∧ n ≤ 9 ∧ Q (.lst ((linesOf n k).map lnD)) M
theorem ok_lines_by {P : Program} {w : World} {K : PySem.W.Frag} {mg : Str → Option Value} {base : Heap} (hD : Df K mg "lines_by" s_lines_by) (hB : Fr mg bl) {t_ROW : Tok} (i_ROW : mg "ROW" = some (.str "row" t_ROW)) {t_COLUMN : Tok} (i_COLUMN : mg "COLUMN" = some (.str "column" t_COLUMN)) {t_MAGIC : Tok} (i_MAGIC : mg "MAGIC" = some (.str "magic" t_MAGIC)) {t_DOWN : Tok} (i_DOWN : mg "DOWN" = some (.str "down" t_DOWN)) {t_UP : Tok} (i_UP : mg "UP" = some (.str "up" t_UP)) {t_ROUND : Tok} (i_ROUND : mg "ROUND" = some (.str "round" t_ROUND)) : Kn P w K mg base 1 "lines_by" P_lines_by p_lines_by := by
  have S := sc_lines_by
  refine kn_of hD sc_lines_by (fun _ _ _ _ _ _ us hl => match us, hl with | [_, _], _ => rfl) pr2_len ?_
  intro f cdv A outer s H E hr
  refine ⟨_, (vss_cons (vs_set (i := 2) S.nd rfl (Or.inl rfl) (v_op o_add (v_lc (own := [("number", 3)]) rfl S.nd (vi_range1 (hB _ (by decide +kernel)) (va_cons (v_var (pv 0)) va_nil)) (blkOk_by (by first | rfl | kernel_rfl)) (lcg_name (fun _ _ _ _ _ => pg_name (i := 3) S.nd rfl (by first | exact Or.inl rfl | exact Or.inr rfl))) (fun _ _ _ _ _ => vts_nil) (fun _ _ _ _ _ => (v_tup (va_cons (v_gstr i_ROW ⟨_, rfl⟩) (va_cons (v_var (pv 3)) va_nil))))) (v_lc (own := [("number", 3)]) rfl S.nd (vi_range1 (hB _ (by decide +kernel)) (va_cons (v_var (pv 0)) va_nil)) (blkOk_by (by first | rfl | kernel_rfl)) (lcg_name (fun _ _ _ _ _ => pg_name (i := 3) S.nd rfl (by first | exact Or.inl rfl | exact Or.inr rfl))) (fun _ _ _ _ _ => vts_nil) (fun _ _ _ _ _ => (v_tup (va_cons (v_gstr i_COLUMN ⟨_, rfl⟩) (va_cons (v_var (pv 3)) va_nil))))))) (vss_cons (vs_if (t_cmp (o_eq hr.r) (v_var (pv 1)) (v_gstr i_MAGIC ⟨_, rfl⟩) (nomark _)) (vss_one (vs_set (i := 2) S.nd rfl (Or.inl rfl) (v_op o_add (v_var (pv 2)) (v_lst (va_cons (v_tup (va_cons (v_gstr i_DOWN ⟨_, rfl⟩) (va_cons v_int va_nil))) (va_cons (v_tup (va_cons (v_gstr i_UP ⟨_, rfl⟩) (va_cons (v_op o_sub (v_var (pv 0)) v_int) va_nil))) va_nil)))))) vss_nil) (vss_cons (vs_if (t_cmp (o_eq hr.r) (v_var (pv 1)) (v_gstr i_ROUND ⟨_, rfl⟩) (nomark _)) (vss_one (vs_set (i := 2) S.nd rfl (Or.inl rfl) (v_op o_add (v_op o_add (v_var (pv 2)) (v_lc (own := [("number", 3)]) rfl S.nd (vi_range1 (hB _ (by decide +kernel)) (va_cons (v_var (pv 0)) va_nil)) (blkOk_by (by first | rfl | kernel_rfl)) (lcg_name (fun _ _ _ _ _ => pg_name (i := 3) S.nd rfl (by first | exact Or.inl rfl | exact Or.inr rfl))) (fun _ _ _ _ _ => vts_nil) (fun _ _ _ _ _ => (v_tup (va_cons (v_gstr i_DOWN ⟨_, rfl⟩) (va_cons (v_var (pv 3)) va_nil)))))) (v_lc (own := [("number", 3)]) rfl S.nd (vi_range1 (hB _ (by decide +kernel)) (va_cons (v_var (pv 0)) va_nil)) (blkOk_by (by first | rfl | kernel_rfl)) (lcg_name (fun _ _ _ _ _ => pg_name (i := 3) S.nd rfl (by first | exact Or.inl rfl | exact Or.inr rfl))) (fun _ _ _ _ _ => vts_nil) (fun _ _ _ _ _ => (v_tup (va_cons (v_gstr i_UP ⟨_, rfl⟩) (va_cons (v_var (pv 3)) va_nil)))))))) vss_nil) (vss_one (vs_ret (v_var (pv 2))))))), ?_⟩
  clear hr S
  rintro _ M Q ⟨x0, x1, rfl, h⟩
  rw [show vstart N_lines_by.length [x0, x1] = [some x0, some x1, none, none] from rfl]
  obtain ⟨n, k, rfl, rfl, hk, n1, n9, h⟩ := h
  have sz := size1000
  have b64 : -4611686018427387904 ≤ (n : Int) ∧ (n : Int) < 4611686018427387904 := by omega
  have rg : ∀ (w : Str) (b c d : Option D) (M : Mem) (Qc : VL.VK), Qc (.lst ((List.range n).map fun a => lnD (w, ((a : Nat) : Int)))) M →
      vLc (iRg1 (vaCons (vVar 0) vaNil)) (gN 3) vYes (vTup (vaCons (vC (D.str w)) (vaCons (vVar 3) vaNil))) [3] [some (.int n), b, c, d] M Qc := fun w b c d M Qc q => by
    refine vLc_al (List.range n) (fun i => .int (0 + ((i : Nat) : Int))) (fun i => lnD (w, ((i : Nat) : Int))) (w := ⟨_, fun _ => True⟩) (fun R r => ?_) rfl trivial (by simp; omega) (fun i hi A hA => ?_) q
    · simpa [rgD, b64] using r
    · simpa [vwipe, lnD] using hA
  simp
  refine rg "row" _ _ _ _ _ (rg "column" _ _ _ _ _ ?_)
  simp
  refine ⟨by omega, ?_⟩
  have h0 := h
  rcases hk with rfl | rfl | rfl
  · simpa [linesOf, Function.comp_def] using h
  · simp [lnD]
    refine ⟨by omega, ?_⟩
    simpa [linesOf, lnD, Function.comp_def] using h
  · simp
    refine rg "down" _ _ _ _ _ ?_
    simp
    refine ⟨by omega, ?_⟩
    refine rg "up" _ _ _ _ _ ?_
    simp
    exact ⟨by omega, by simpa [linesOf, lnD, Function.comp_def] using h⟩
def sumsOf (n : Nat) (m : List (List Int)) (k : Str) : List Int := (linesOf n k).map (sumOf n m)
theorem lines_len {n : Nat} {k : Str} (h : n ≤ 9) : (linesOf n k).length ≤ 36 := by
  unfold linesOf
  rw [List.length_append, List.length_append, List.length_map, List.length_map, List.length_range]
  split
  · simp; omega
  · split
    · simp; omega
    · simp; omega
abbrev N_sums_by : List Str := ["square", "kind", "line"]
abbrev P_sums_by : List Str := ["square", "kind"]
theorem sc_sums_by : FnScope N_sums_by P_sums_by (defScope s_sums_by) := ⟨rfl, rfl, rfl, by decide +kernel, rfl, by decide +kernel, by decide +kernel⟩
def p_sums_by : VSp := pr2 fun a b M Q => ∃ (m : List (List Int)) (k : Str), a = sqD m ∧ b = .str k ∧ Kd k ∧ Sq m.length m ∧ Q (.lst ((sumsOf m.length m k).map D.int)) M
theorem ok_sums_by {P : Program} {w : World} {K : PySem.W.Frag} {mg : Str → Option Value} {base : Heap} (hD : Df K mg "sums_by" s_sums_by) (hB : Fr mg bl) (k_lines_by : Kn P w K mg base 1 "lines_by" P_lines_by p_lines_by) (k_sum_by : Kn P w K mg base 2 "sum_by" P_sum_by p_sum_by) : Kn P w K mg base 3 "sums_by" P_sums_by p_sums_by := by
  have S := sc_sums_by
  refine kn_of hD sc_sums_by (fun _ _ _ _ _ _ us hl => match us, hl with | [_, _], _ => rfl) pr2_len ?_
  intro f cdv A outer s H E hr
  refine ⟨_, (vss_one (vs_ret (v_lc (own := [("line", 2)]) rfl S.nd (vi_seq (v_callK k_lines_by hr (va_cons (v_callB c_len (hB _ (by decide +kernel)) (va_cons (v_var (pv 0)) va_nil)) (va_cons (v_var (pv 1)) va_nil)))) (blkOk_by (by first | rfl | kernel_rfl)) (lcg_name (fun _ _ _ _ _ => pg_name (i := 2) S.nd rfl (by first | exact Or.inl rfl | exact Or.inr rfl))) (fun _ _ _ _ _ => vts_nil) (fun _ _ _ _ _ => (v_callK k_sum_by hr (va_cons (v_var (pv 0)) (va_cons (v_var (pv 2)) va_nil))))))), ?_⟩
  clear hr S
  rintro _ M Q ⟨x0, x1, rfl, h⟩
  rw [show vstart N_sums_by.length [x0, x1] = [some x0, some x1, none] from rfl]
  obtain ⟨m, k, rfl, rfl, hk, hm, h⟩ := h
  have sz := size1000
  obtain ⟨q1, q2, q3, q4, q5⟩ := id hm
  have ll := lines_len (n := m.length) (k := k) q2
  simp
  refine vLc_al (linesOf m.length k) lnD (fun l => .int (sumOf m.length m l)) (w := ⟨(linesOf m.length k).map lnD, fun _ => True⟩) (fun R r => ?_) rfl trivial (by omega) (fun l hl A hA => ?_) ?_
  · simp [sqD]
    exact pr2_at.mpr ⟨m.length, k, rfl, rfl, hk, q1, q2, by simpa using r⟩
  · simp [vwipe]
    obtain ⟨l0, l1⟩ := lines_in q1 l hl
    exact pr2_at.mpr ⟨m, l, rfl, rfl, hm, l0, l1, hA⟩
  · simpa [sumsOf, Function.comp_def] using h
def alike (xs : List Int) : Bool := xs.all fun x => decide (x = xs.headD 0)
abbrev N_is_of_kind : List Str := ["square", "kind", "every", "one"]
abbrev P_is_of_kind : List Str := ["square", "kind"]
theorem sc_is_of_kind : FnScope N_is_of_kind P_is_of_kind (defScope s_is_of_kind) := ⟨rfl, rfl, rfl, by decide +kernel, rfl, by decide +kernel, by decide +kernel⟩
def p_is_of_kind : VSp := pr2 fun a b M Q => ∃ (m : List (List Int)) (k : Str), a = sqD m ∧ b = .str k ∧ Kd k ∧ Sq m.length m ∧ Q (.bl (alike (sumsOf m.length m k))) M
theorem ok_is_of_kind {P : Program} {w : World} {K : PySem.W.Frag} {mg : Str → Option Value} {base : Heap} (hD : Df K mg "is_of_kind" s_is_of_kind) (hB : Fr mg bl) (k_sums_by : Kn P w K mg base 3 "sums_by" P_sums_by p_sums_by) : Kn P w K mg base 4 "is_of_kind" P_is_of_kind p_is_of_kind := by
  have S := sc_is_of_kind
  refine kn_of hD sc_is_of_kind (fun _ _ _ _ _ _ us hl => match us, hl with | [_, _], _ => rfl) pr2_len ?_
  intro f cdv A outer s H E hr
  refine ⟨_, (vss_cons (vs_set (i := 2) S.nd rfl (Or.inr rfl) (v_callK k_sums_by hr (va_cons (v_var (pv 0)) (va_cons (v_var (pv 1)) va_nil)))) (vss_one (vs_ret (v_callB (c_all rfl) (hB _ (by decide +kernel)) (va_cons (v_lc (own := [("one", 3)]) rfl S.nd (vi_seq (v_var (pv 2))) (blkOk_by (by first | rfl | kernel_rfl)) (lcg_name (fun _ _ _ _ _ => pg_name (i := 3) S.nd rfl (by first | exact Or.inl rfl | exact Or.inr rfl))) (fun _ _ _ _ _ => vts_nil) (fun _ _ _ _ _ => (v_cmp (o_eq hr.r) (v_var (pv 3)) (v_ix (v_var (pv 2)) v_int) (nomark _)))) va_nil))))), ?_⟩
  clear hr S
  rintro _ M Q ⟨x0, x1, rfl, h⟩
  rw [show vstart N_is_of_kind.length [x0, x1] = [some x0, some x1, none, none] from rfl]
  obtain ⟨m, k, rfl, rfl, hk, hm, h⟩ := h
  have sz := size1000
  obtain ⟨q1, q2, q3, q4, q5⟩ := id hm
  have ll := lines_len (n := m.length) (k := k) q2
  simp
  refine pr2_at.mpr ⟨m, k, rfl, rfl, hk, hm, ?_⟩
  simp
  have hl : (sumsOf m.length m k).length ≤ 36 := by unfold sumsOf; rw [List.length_map]; exact ll
  refine vLc_al (sumsOf m.length m k) D.int (fun x => .bl (decide (x = (sumsOf m.length m k).headD 0))) (w := ⟨(sumsOf m.length m k).map D.int, fun _ => True⟩) (fun R r => ?_) rfl trivial (by omega) (fun x hx A hA => ?_) ?_
  · simpa using r
  · have e : ((sumsOf m.length m k).map D.int)[0]? = some (.int ((sumsOf m.length m k).headD 0)) := by
      cases z : sumsOf m.length m k with
      | nil => rw [z] at hx; cases hx
      | cons a as => rfl
    simp [vwipe, e, -List.getElem?_map]
    simpa [List.headD_eq_head?_getD] using hA
  · simp [VL.rAll]
    exact ⟨(sumsOf m.length m k).map fun x => decide (x = (sumsOf m.length m k).headD 0), by simp [Function.comp_def], by simpa [List.all_map, Function.comp_def, alike] using h⟩
end K46
namespace K46
open PySem PySem.Spec L2 VL
/-- the pot: its own digits, a seed, how often it was asked -/
def Pot (B : Nat) (l : List D) : Prop := ∃ own x n : Int, l = [.int own, .int x, .int n] ∧ 0 ≤ own ∧ 0 ≤ x ∧ x < 4611686018427387904 ∧ 0 ≤ n ∧ n ≤ B
theorem pow1 : PowOk 10 60 := by unfold PowOk; decide +kernel
theorem pow18 : PowOk 10 18 := by unfold PowOk; decide +kernel
theorem pow2 : PowOk (10 ^ 60) 5 := by unfold PowOk; decide +kernel
abbrev N__law_pot : List Str := ["script", "place", "cell", "own", "small"]
abbrev P__law_pot : List Str := ["script", "place"]
theorem sc__law_pot : FnScope N__law_pot P__law_pot (defScope s__law_pot) := ⟨rfl, rfl, rfl, by decide +kernel, rfl, by decide +kernel, by decide +kernel⟩
def p__law_pot : VSp := pr2 fun a b M Q => ∃ (ns : List Int) (i : Nat), a = .rd (ns.map D.int) ∧ b = .int i ∧ i < 1000 ∧ ns.length ≤ 100000 ∧ ∀ p l, M p = none → Pot 0 l → Q (.obj p) (mupd M p (.lst l))
theorem ok__law_pot {P : Program} {w : World} {K : PySem.W.Frag} {mg : Str → Option Value} {base : Heap} (hD : Df K mg "_law_pot" s__law_pot) (hB : Fr mg bl) : Kn P w K mg base 1 "_law_pot" P__law_pot p__law_pot := by
  have S := sc__law_pot
  refine kn_of hD sc__law_pot (fun _ _ _ _ _ _ us hl => match us, hl with | [_, _], _ => rfl) pr2_len ?_
  intro f cdv A outer s H E hr
  refine ⟨_, (vss_cons (vs_set (i := 2) S.nd rfl (Or.inl rfl) (v_if (t_cmp o_lt (v_var (pv 1)) (v_callB c_len (hB _ (by decide +kernel)) (va_cons (v_var (pv 0)) va_nil)) (nomark _)) (v_ix (v_var (pv 0)) (v_var (pv 1))) (v_op o_add (v_op o_add (v_op o_mod (v_callB (c_sum rfl) (hB _ (by decide +kernel)) (va_cons (v_sl (v_var (pv 0)) vo_none (vo_some v_int)) va_nil)) v_int) (v_op o_mulI v_int (v_var (pv 1)))) v_int))) (vss_cons (vs_set (i := 3) S.nd rfl (Or.inl rfl) (v_op o_mulI (v_op o_mod (v_callTy c_int (hB _ (by decide +kernel)) (va_cons (v_callB c_abs (hB _ (by decide +kernel)) (va_cons (v_var (pv 2)) va_nil)) va_nil)) (v_op o_pow (v_op o_pow v_int v_int) v_int)) (v_callTy c_int (hB _ (by decide +kernel)) (va_cons (v_cmp o_ge (v_callB c_abs (hB _ (by decide +kernel)) (va_cons (v_var (pv 2)) va_nil)) (v_op o_pow v_int v_int) (nomark _)) va_nil)))) (vss_cons (vs_set (i := 4) S.nd rfl (Or.inl rfl) (v_op o_mod (v_callTy c_int (hB _ (by decide +kernel)) (va_cons (v_var (pv 2)) va_nil)) v_int)) (vss_one (vs_ret (v_lstO (va_cons (v_var (pv 3)) (va_cons (v_op o_mod (v_callTy c_int (hB _ (by decide +kernel)) (va_cons (v_op o_add (v_op o_add (v_op o_mulI (v_var (pv 4)) v_int) (v_op o_mulI (v_op o_mulI v_int (v_var (pv 1))) (v_var (pv 1)))) v_int) va_nil)) v_int) (va_cons v_int va_nil))))))))), ?_⟩
  clear hr S
  rintro _ M Q ⟨x0, x1, rfl, h⟩
  rw [show vstart N__law_pot.length [x0, x1] = [some x0, some x1, none, none, none] from rfl]
  obtain ⟨ns, i, rfl, rfl, hi, hl, h⟩ := h
  rcases Nat.lt_or_ge i ns.length with hc | hc
  · obtain ⟨cell, e⟩ : ∃ cell, (ns.map D.int)[i]? = some (.int cell) := ⟨ns[i], by simp [hc]⟩
    simp [hc, atI_k, e, -List.getElem?_map]
    refine ⟨pow1, by simpa using pow2, pow18, .inr (.inl ite01a), .inr (.inl (by decide)), .inl (by decide), .inr (.inl (by omega)), fun p hp => h p _ hp ⟨_, _, 0, rfl, Int.mul_nonneg (Int.emod_nonneg _ (by decide)) ite01, Int.emod_nonneg _ (by decide), ?_, by omega, by omega⟩⟩
    have := Int.emod_lt_of_pos (cell % 2305843009213693951 * 67651 + 6997 * ↑i * ↑i + 1013) (show (0 : Int) < 2305843009213693921 by decide)
    omega
  · have hc' : ¬ (i < ns.length) := by omega
    have hs : cutD (ns.map D.int) none (some 1) = (ns.take 1).map D.int := by
      have := cut_take (ns.map D.int) 1
      rw [List.map_take] at *
      exact this
    simp [hc', VL.rSum, hs, -List.map_take]
    refine ⟨ns.take 1, rfl, ?_⟩
    generalize (ns.take 1).sum % 1000303 + 5419 * ↑i + 829 = cell
    refine ⟨.inl (by decide), pow1, by simpa using pow2, pow18, .inr (.inl ite01a), .inr (.inl (by decide)), .inl (by decide), .inr (.inl (by omega)), fun p hp => h p _ hp ⟨_, _, 0, rfl, Int.mul_nonneg (Int.emod_nonneg _ (by decide)) ite01, Int.emod_nonneg _ (by decide), ?_, by omega, by omega⟩⟩
    have := Int.emod_lt_of_pos (cell % 2305843009213693951 * 67651 + 6997 * ↑i * ↑i + 1013) (show (0 : Int) < 2305843009213693921 by decide)
    omega
abbrev N__law_take : List Str := ["pot", "upto", "digit", "prime", "blend"]
abbrev P__law_take : List Str := ["pot", "upto"]
theorem sc__law_take : FnScope N__law_take P__law_take (defScope s__law_take) := ⟨rfl, rfl, rfl, by decide +kernel, rfl, by decide +kernel, by decide +kernel⟩
def p__law_take : VSp := pr2 fun a b M Q => ∃ (p : Addr) (l : List D) (B : Nat) (up : Nat), a = .obj p ∧ b = .int up ∧ M p = some (.lst l) ∧ Pot B l ∧ B < 1000000 ∧ 0 < up ∧ up ≤ 10000000 ∧ ∀ (d : Nat) l', d < up → Pot (B + 1) l' → Q (.int d) (mupd M p (.lst l'))
theorem ok__law_take {P : Program} {w : World} {K : PySem.W.Frag} {mg : Str → Option Value} {base : Heap} (hD : Df K mg "_law_take" s__law_take) (hB : Fr mg bl) : Kn P w K mg base 1 "_law_take" P__law_take p__law_take := by
  have S := sc__law_take
  refine kn_ofD hD sc__law_take (fun _ _ _ _ _ _ us hl => match us, hl with | [_, _], _ => rfl) pr2_len ?_
  intro f cdv A outer s H E hr
  refine ⟨_, (vss_cons (vs_if (t_cmp o_gt (v_ix (v_var (pv 0)) v_int) v_int (nomark _)) (vss_cons (vs_set (i := 2) S.nd rfl (Or.inl rfl) (v_op o_mod (v_callTy c_int (hB _ (by decide +kernel)) (va_cons (v_ix (v_var (pv 0)) v_int) va_nil)) (v_var (pv 1)))) (vss_cons (vs_asg (v_op o_fdiv (v_ix (v_var (pv 0)) v_int) (v_var (pv 1))) (vg_subL (v_var (pv 0)) v_int)) (vss_one (vs_ret (v_var (pv 2)))))) vss_nil) (vss_cons (vs_asg (v_op o_add (v_ix (v_var (pv 0)) v_int) v_int) (vg_subL (v_var (pv 0)) v_int)) (vss_cons (vs_set (i := 3) S.nd rfl (Or.inl rfl) (v_ix (v_lst (va_cons v_int (va_cons v_int (va_cons v_int (va_cons v_int (va_cons v_int va_nil)))))) (v_op o_mod (v_callTy c_int (hB _ (by decide +kernel)) (va_cons (v_ix (v_var (pv 0)) v_int) va_nil)) v_int))) (vss_cons (vs_set (i := 4) S.nd rfl (Or.inl rfl) (v_op o_mod (v_callTy c_int (hB _ (by decide +kernel)) (va_cons (v_op o_pow (v_callTy c_int (hB _ (by decide +kernel)) (va_cons (v_op o_add (v_op o_add (v_ix (v_var (pv 0)) v_int) (v_op o_mulI (v_op o_mulI v_int (v_ix (v_var (pv 0)) v_int)) (v_ix (v_var (pv 0)) v_int))) v_int) va_nil)) v_int) va_nil)) (v_var (pv 3)))) (vss_cons (vs_set (i := 4) S.nd rfl (Or.inl rfl) (v_op o_mod (v_callTy c_int (hB _ (by decide +kernel)) (va_cons (v_op o_mulI (v_var (pv 4)) (v_op o_add (v_op o_mod (v_callTy c_int (hB _ (by decide +kernel)) (va_cons (v_var (pv 4)) va_nil)) v_int) (v_op o_mulI v_int (v_ix (v_var (pv 0)) v_int)))) va_nil)) v_int)) (vss_one (vs_ret (v_op o_mod (v_callTy c_int (hB _ (by decide +kernel)) (va_cons (v_op o_fdiv (v_var (pv 4)) v_int) va_nil)) (v_var (pv 1)))))))))), ?_⟩
  clear hr S
  rintro _ M Q ⟨x0, x1, rfl, h⟩
  rw [show vstart N__law_take.length [x0, x1] = [some x0, some x1, none, none, none] from rfl]
  obtain ⟨p, l, B, up, rfl, rfl, hM, ⟨own, x, n, rfl, o1, x1, x2, n1, n2⟩, hB', u1, u2, h⟩ := h
  simp [asL_obj hM, hM, L2.ixN]
  split
  · refine ⟨u1, ⟨u1, log2_small u2⟩, _, Sub.refl, ?_⟩
    have hd := Int.emod_nonneg own (show (up : Int) ≠ 0 by omega)
    have hd2 := Int.emod_lt_of_pos own (show (0 : Int) < up by omega)
    have hd3 := Int.ediv_nonneg o1 (show (0 : Int) ≤ up by omega)
    have := h (own % up).toNat _ (by omega) ⟨own / up, x, n, rfl, hd3, x1, x2, n1, by omega⟩
    rw [Int.toNat_of_nonneg hd] at this
    exact this
  · have h5 : (n + 1) % 5 = 0 ∨ (n + 1) % 5 = 1 ∨ (n + 1) % 5 = 2 ∨ (n + 1) % 5 = 3 ∨ (n + 1) % 5 = 4 := by omega
    obtain ⟨c, hc, c1, c2⟩ : ∃ c : Int, L2.atI [D.int 2147482181, D.int 2147482169, D.int 2147482157, D.int 2147482139, D.int 2147482133] ((n + 1) % 5) = some (.int c) ∧ 0 < c ∧ c < 2147483648 := by
      rcases h5 with z | z | z | z | z <;> rw [z] <;> exact ⟨_, rfl, by decide, by decide⟩
    have n3 : n + 1 ≤ 1000000 := by omega
    obtain ⟨b1, b2⟩ := take_bd (n := n + 1) (k := 72577) (c := 2011) x1 x2 (by omega) n3 (by decide) (by decide) (by decide) (by decide)
    have e1 := Int.emod_nonneg ((x + 72577 * (n + 1) * (n + 1) + 2011) ^ 3) (show c ≠ 0 by omega)
    have e2 := Int.emod_lt_of_pos ((x + 72577 * (n + 1) * (n + 1) + 2011) ^ 3) c1
    refine ⟨_, hc, .inl (by decide), .inr (.inl (by omega)), pow3_ok b1 b2, c, rfl, c1, .inl (by decide), .inl (by omega), by decide +kernel, u1, _, Sub.refl, ?_⟩
    have hd := Int.emod_nonneg ((x + 72577 * (n + 1) * (n + 1) + 2011) ^ 3 % c * ((x + 72577 * (n + 1) * (n + 1) + 2011) ^ 3 % c % 7951 + 257 * (n + 1)) % 2305843009213693907 / 157) (show (up : Int) ≠ 0 by omega)
    have hd2 := Int.emod_lt_of_pos ((x + 72577 * (n + 1) * (n + 1) + 2011) ^ 3 % c * ((x + 72577 * (n + 1) * (n + 1) + 2011) ^ 3 % c % 7951 + 257 * (n + 1)) % 2305843009213693907 / 157) (show (0 : Int) < up by omega)
    have := h _ _ ((Int.toNat_lt hd).mpr hd2) ⟨own, x, n + 1, rfl, o1, x1, x2, by omega, by omega⟩
    rw [Int.toNat_of_nonneg hd] at this
    exact this
abbrev N__law_cells : List Str := ["script", "most"]
abbrev P__law_cells : List Str := ["script", "most"]
theorem sc__law_cells : FnScope N__law_cells P__law_cells (defScope s__law_cells) := ⟨rfl, rfl, rfl, by decide +kernel, rfl, by decide +kernel, by decide +kernel⟩
def p__law_cells : VSp := pr2 fun a b M Q => ∃ (ns : List Int) (k : Nat), a = .rd (ns.map D.int) ∧ b = .int k ∧ k ≤ 1000 ∧ ∀ n : Nat, n ≤ 1000 → n ≤ k ∨ n ≤ 1 → Q (.lst (rgD 0 n)) M
theorem ok__law_cells {P : Program} {w : World} {K : PySem.W.Frag} {mg : Str → Option Value} {base : Heap} (hD : Df K mg "_law_cells" s__law_cells) (hB : Fr mg bl) : Kn P w K mg base 1 "_law_cells" P__law_cells p__law_cells := by
  have S := sc__law_cells
  refine kn_of hD sc__law_cells (fun _ _ _ _ _ _ us hl => match us, hl with | [_, _], _ => rfl) pr2_len ?_
  intro f cdv A outer s H E hr
  refine ⟨_, (vss_one (vs_ret (v_listRg1 rfl (hB _ (by decide +kernel)) (hB _ (by decide +kernel)) (v_callB (c_max2 rfl) (hB _ (by decide +kernel)) (va_cons v_int (va_cons (v_callB (c_min2 rfl) (hB _ (by decide +kernel)) (va_cons (v_var (pv 1)) (va_cons (v_callB c_len (hB _ (by decide +kernel)) (va_cons (v_var (pv 0)) va_nil)) va_nil))) va_nil)))))), ?_⟩
  clear hr S
  rintro _ M Q ⟨x0, x1, rfl, h⟩
  rw [show vstart N__law_cells.length [x0, x1] = [some x0, some x1] from rfl]
  obtain ⟨ns, k, rfl, rfl, hk, h⟩ := h
  simp
  generalize hm : (if 1 < if ns.length < k then (ns.length : Int) else k then if ns.length < k then (ns.length : Int) else k else 1) = m
  have hm2 : 1 ≤ m ∧ (m ≤ k ∨ m ≤ 1) := by
    rw [← hm]
    by_cases c1 : ns.length < k
    · simp only [c1, if_true]
      split <;> omega
    · simp only [c1, if_false]
      split <;> omega
  exact ⟨by omega, by omega, h _ (by omega) (by omega)⟩
theorem potUp {b b' : Nat} {l : List D} (h : Pot b l) (hb : b ≤ b') : Pot b' l := by
  obtain ⟨own, x, k, e, a1, a2, a3, a4, a5⟩ := h
  exact ⟨own, x, k, e, a1, a2, a3, a4, by omega⟩
abbrev N__law_of : List Str := ["pot", "some"]
abbrev P__law_of : List Str := ["pot", "some"]
theorem sc__law_of : FnScope N__law_of P__law_of (defScope s__law_of) := ⟨rfl, rfl, rfl, by decide +kernel, rfl, by decide +kernel, by decide +kernel⟩
def p__law_of : VSp := pr2 fun a b M Q => ∃ (p : Addr) (l xs : List D) (B : Nat), a = .obj p ∧ M p = some (.lst l) ∧ (∀ M' : Mem, asL M b = some xs ∧ ∀ l', asL (mupd M p (.lst l')) b = some xs) ∧ Pot B l ∧ B < 1000000 ∧ 0 < xs.length ∧ xs.length ≤ 1000000 ∧ ∀ d l', d ∈ xs → Pot (B + 1) l' → Q d (mupd M p (.lst l'))
theorem ok__law_of {P : Program} {w : World} {K : PySem.W.Frag} {mg : Str → Option Value} {base : Heap} (hD : Df K mg "_law_of" s__law_of) (hB : Fr mg bl) (k__law_take : Kn P w K mg base 1 "_law_take" P__law_take p__law_take) : Kn P w K mg base 2 "_law_of" P__law_of p__law_of := by
  have S := sc__law_of
  refine kn_of hD sc__law_of (fun _ _ _ _ _ _ us hl => match us, hl with | [_, _], _ => rfl) pr2_len ?_
  intro f cdv A outer s H E hr
  refine ⟨_, (vss_one (vs_ret (v_ix (v_var (pv 1)) (v_callK k__law_take hr (va_cons (v_var (pv 0)) (va_cons (v_callB c_len (hB _ (by decide +kernel)) (va_cons (v_var (pv 1)) va_nil)) va_nil)))))), ?_⟩
  clear hr S
  rintro _ M Q ⟨x0, x1, rfl, h⟩
  rw [show vstart N__law_of.length [x0, x1] = [some x0, some x1] from rfl]
  obtain ⟨p, l, xs, B, rfl, hM, hq, hl, hB', u1, u2, h⟩ := h
  have hq1 := (hq M).1
  have hq2 := (hq M).2
  have eL : ∀ Q : VL.VK, Q (.int (xs.length : Nat)) M → VL.rLen [x1] M Q := fun Q q => by
    cases x1 with
    | lst ys => cases hq1; exact ⟨_, rfl, q⟩
    | rd ys => cases hq1; exact ⟨_, rfl, q⟩
    | obj a =>
      unfold asL at hq1
      dsimp only at hq1
      split at hq1
      · rename_i ys hy
        cases hq1
        exact ⟨_, by simp [lenOf, hy], q⟩
      · cases hq1
    | _ => cases hq1
  have eI : ∀ (l' : List D) (i : Nat) (d : D) (Q : VL.VK), xs[i]? = some d → Q d (mupd M p (.lst l')) → oIx x1 (.int (i : Nat)) (mupd M p (.lst l')) Q := fun l' i d Q hd q => by
    have e := hq2 l'
    have g : ∃ ys d, asL (mupd M p (.lst l')) x1 = some ys ∧ L2.atI ys ((i : Nat) : Int) = some d ∧ Q d (mupd M p (.lst l')) := ⟨xs, d, e, by rw [atI_k]; exact hd, q⟩
    cases x1 with
    | lst ys => exact g
    | rd ys => exact g
    | obj a => exact g
    | _ => cases e
  simp only [sRet, vOp, vVar, vFn, vaCons, vaNil, vCall]
  refine ⟨x1, rfl, .obj p, rfl, x1, rfl, eL _ ?_⟩
  refine pr2_at.mpr ⟨p, l, B, xs.length, rfl, rfl, hM, hl, hB', u1, by omega, fun d l' hd hl' => ?_⟩
  exact eI l' d xs[d] _ (List.getElem?_eq_getElem hd) (h _ _ (List.getElem_mem hd) hl')
abbrev N__law_is_int : List Str := ["value", "low", "high"]
abbrev P__law_is_int : List Str := ["value", "low", "high"]
theorem sc__law_is_int : FnScope N__law_is_int P__law_is_int (defScope s__law_is_int) := ⟨rfl, rfl, rfl, by decide +kernel, rfl, by decide +kernel, by decide +kernel⟩
def p__law_is_int : VSp := pr3 fun a b c M Q => ∃ lo hi, Okv M a ∧ b = .int lo ∧ c = .int hi ∧ Q (.bl (btw lo hi a)) M
theorem ok__law_is_int {P : Program} {w : World} {K : PySem.W.Frag} {mg : Str → Option Value} {base : Heap} (hD : Df K mg "_law_is_int" s__law_is_int) (hB : Fr mg bl) : Kn P w K mg base 1 "_law_is_int" P__law_is_int p__law_is_int := by
  have S := sc__law_is_int
  refine kn_of hD sc__law_is_int (fun _ _ _ _ _ _ us hl => match us, hl with | [_, _, _], _ => rfl) pr3_len ?_
  intro f cdv A outer s H E hr
  refine ⟨_, (vss_one (vs_ret (v_and (v_isi (T := "int") (hB _ (by decide +kernel)) (hB _ (by decide +kernel)) (v_var (pv 0))) (v_and (v_not (v_isi (T := "bool") (hB _ (by decide +kernel)) (hB _ (by decide +kernel)) (v_var (pv 0)))) (v_one (v_chain o_le o_le (v_var (pv 1)) (v_var (pv 0)) (v_var (pv 2)))))))), ?_⟩
  clear hr S
  rintro _ M Q ⟨x0, x1, x2, rfl, h⟩
  rw [show vstart N__law_is_int.length [x0, x1, x2] = [some x0, some x1, some x2] from rfl]
  obtain ⟨lo, hi, ok, rfl, rfl, h⟩ := h
  simp only [sRet, vAnd, vNot]
  refine isi_int x0 (fun R r => ⟨x0, rfl, r⟩) ok ⟨_, rfl, ?_⟩
  cases x0 with
  | int i =>
    simp [isInt, vVar, btw] at h ⊢
    split
    · rename_i z; simpa [z] using h
    · rename_i z; simpa [z] using h
  | bl b => simp [isInt, vVar, btw] at h ⊢; exact h
  | _ => simp [isInt, btw] at h ⊢; exact h
abbrev N__law_kind : List Str := ["pot"]
abbrev P__law_kind : List Str := ["pot"]
theorem sc__law_kind : FnScope N__law_kind P__law_kind (defScope s__law_kind) := ⟨rfl, rfl, rfl, by decide +kernel, rfl, by decide +kernel, by decide +kernel⟩
def p__law_kind : VSp := pr1 fun a M Q => ∃ (p : Addr) (l : List D) (B : Nat), a = .obj p ∧ M p = some (.lst l) ∧ Pot B l ∧ B < 1000000 ∧ ∀ k l', Kd k → Pot (B + 1) l' → Q (.str k) (mupd M p (.lst l'))
theorem ok__law_kind {P : Program} {w : World} {K : PySem.W.Frag} {mg : Str → Option Value} {base : Heap} (hD : Df K mg "_law_kind" s__law_kind) (hB : Fr mg bl) (k__law_of : Kn P w K mg base 2 "_law_of" P__law_of p__law_of) : Kn P w K mg base 3 "_law_kind" P__law_kind p__law_kind := by
  have S := sc__law_kind
  refine kn_of hD sc__law_kind (fun _ _ _ _ _ _ us hl => match us, hl with | [_], _ => rfl) pr1_len ?_
  intro f cdv A outer s H E hr
  refine ⟨_, (vss_one (vs_ret (v_callK k__law_of hr (va_cons (v_var (pv 0)) (va_cons (v_lst (va_cons v_str (va_cons v_str (va_cons v_str va_nil)))) va_nil))))), ?_⟩
  clear hr S
  rintro _ M Q ⟨x0, rfl, h⟩
  rw [show vstart N__law_kind.length [x0] = [some x0] from rfl]
  obtain ⟨p, l, B, rfl, hM, hl, hB', h⟩ := h
  simp
  refine pr2_at.mpr ⟨p, l, [.str "rows", .str "magic", .str "round"], B, rfl, hM, fun _ => ⟨rfl, fun _ => rfl⟩, hl, hB', by decide, by decide, fun d l' hd hl' => ?_⟩
  simp at hd
  rcases hd with rfl | rfl | rfl
  · exact h _ _ (.inl rfl) hl'
  · exact h _ _ (.inr (.inl rfl)) hl'
  · exact h _ _ (.inr (.inr rfl)) hl'
abbrev N__law_line : List Str := ["order", "line", "word", "number", "at"]
abbrev P__law_line : List Str := ["order", "line"]
theorem sc__law_line : FnScope N__law_line P__law_line (defScope s__law_line) := ⟨rfl, rfl, rfl, by decide +kernel, rfl, by decide +kernel, by decide +kernel⟩
def p__law_line : VSp := pr2 fun a b M Q => ∃ (n : Nat) (w : Str) (k : Int), a = .int n ∧ b = lnD (w, k) ∧ 1 ≤ n ∧ n ≤ 9 ∧ Q (.lst ((cellsOf n w k).map cD)) M
theorem ok__law_line {P : Program} {w : World} {K : PySem.W.Frag} {mg : Str → Option Value} {base : Heap} (hD : Df K mg "_law_line" s__law_line) (hB : Fr mg bl) : Kn P w K mg base 1 "_law_line" P__law_line p__law_line := by
  have S := sc__law_line
  refine kn_of hD sc__law_line (fun _ _ _ _ _ _ us hl => match us, hl with | [_, _], _ => rfl) pr2_len ?_
  intro f cdv A outer s H E hr
  refine ⟨_, (vss_cons (vs_asg (v_var (pv 1)) (vg_tup (n := 2) rfl (vgs_cons (vg_name (pg_name (i := 2) S.nd rfl (by first | exact Or.inl rfl | exact Or.inr rfl))) (vgs_cons (vg_name (pg_name (i := 3) S.nd rfl (by first | exact Or.inl rfl | exact Or.inr rfl))) vgs_nil)))) (vss_cons (vs_if (t_cmp (o_eq hr.r) (v_var (pv 2)) v_str (nomark _)) (vss_one (vs_ret (v_lc (own := [("at", 4)]) rfl S.nd (vi_range1 (hB _ (by decide +kernel)) (va_cons (v_var (pv 0)) va_nil)) (blkOk_by (by first | rfl | kernel_rfl)) (lcg_name (fun _ _ _ _ _ => pg_name (i := 4) S.nd rfl (by first | exact Or.inl rfl | exact Or.inr rfl))) (fun _ _ _ _ _ => vts_nil) (fun _ _ _ _ _ => (v_tup (va_cons (v_var (pv 3)) (va_cons (v_var (pv 4)) va_nil))))))) vss_nil) (vss_cons (vs_if (t_cmp (o_eq hr.r) (v_var (pv 2)) v_str (nomark _)) (vss_one (vs_ret (v_lc (own := [("at", 4)]) rfl S.nd (vi_range1 (hB _ (by decide +kernel)) (va_cons (v_var (pv 0)) va_nil)) (blkOk_by (by first | rfl | kernel_rfl)) (lcg_name (fun _ _ _ _ _ => pg_name (i := 4) S.nd rfl (by first | exact Or.inl rfl | exact Or.inr rfl))) (fun _ _ _ _ _ => vts_nil) (fun _ _ _ _ _ => (v_tup (va_cons (v_var (pv 4)) (va_cons (v_var (pv 3)) va_nil))))))) vss_nil) (vss_one (vs_ret (v_lc (own := [("at", 4)]) rfl S.nd (vi_range1 (hB _ (by decide +kernel)) (va_cons (v_var (pv 0)) va_nil)) (blkOk_by (by first | rfl | kernel_rfl)) (lcg_name (fun _ _ _ _ _ => pg_name (i := 4) S.nd rfl (by first | exact Or.inl rfl | exact Or.inr rfl))) (fun _ _ _ _ _ => vts_nil) (fun _ _ _ _ _ => (v_tup (va_cons (v_var (pv 4)) (va_cons (v_op o_mod (v_if (t_cmp (o_eq hr.r) (v_var (pv 2)) v_str (nomark _)) (v_op o_add (v_var (pv 4)) (v_var (pv 3))) (v_op o_sub (v_var (pv 3)) (v_var (pv 4)))) (v_var (pv 0))) va_nil)))))))))), ?_⟩
  clear hr S
  rintro _ M Q ⟨x0, x1, rfl, h⟩
  rw [show vstart N__law_line.length [x0, x1] = [some x0, some x1, none, none, none] from rfl]
  obtain ⟨n, w, k, rfl, rfl, n1, n9, h⟩ := h
  have sz := size1000
  have b64 : -4611686018427387904 ≤ (n : Int) ∧ (n : Int) < 4611686018427387904 := by omega
  have n0 : (0 : Int) < n := by omega
  simp [lnD]
  by_cases w1 : w = "row"
  · simp [w1]
    refine vLc_al (List.range n) (fun i => .int (0 + ((i : Nat) : Int))) (fun i => cD (k, ((i : Nat) : Int))) (w := ⟨_, fun _ => True⟩) (fun R r => ?_) rfl trivial (by simp; omega) (fun i hi A hA => ?_) ?_
    · simpa [rgD, b64] using r
    · simpa [vwipe, cD] using hA
    · simpa [cellsOf, w1, Function.comp_def] using h
  · simp [w1]
    by_cases w2 : w = "column"
    · simp [w2]
      refine vLc_al (List.range n) (fun i => .int (0 + ((i : Nat) : Int))) (fun i => cD (((i : Nat) : Int), k)) (w := ⟨_, fun _ => True⟩) (fun R r => ?_) rfl trivial (by simp; omega) (fun i hi A hA => ?_) ?_
      · simpa [rgD, b64] using r
      · simpa [vwipe, cD] using hA
      · simpa [cellsOf, w1, w2, Function.comp_def] using h
    · simp [w2]
      refine vLc_al (List.range n) (fun i => .int (0 + ((i : Nat) : Int))) (fun i => cD (((i : Nat) : Int), (if w = "down" then ((i : Nat) : Int) + k else k - ((i : Nat) : Int)) % (n : Int))) (w := ⟨_, fun _ => True⟩) (fun R r => ?_) rfl trivial (by simp; omega) (fun i hi A hA => ?_) ?_
      · simpa [rgD, b64] using r
      · by_cases w3 : w = "down"
        · simp [w3] at hA
          simp [vwipe, w3]
          exact ⟨by omega, hA⟩
        · simp [w3] at hA
          simp [vwipe, w3]
          exact ⟨by omega, hA⟩
      · by_cases w3 : w = "down" <;> simpa [cellsOf, w1, w2, w3, Function.comp_def] using h
abbrev N__law_lines : List Str := ["order", "kind", "found", "number"]
abbrev P__law_lines : List Str := ["order", "kind"]
theorem sc__law_lines : FnScope N__law_lines P__law_lines (defScope s__law_lines) := ⟨rfl, rfl, rfl, by decide +kernel, rfl, by decide +kernel, by decide +kernel⟩
def p__law_lines : VSp := pr2 fun a b M Q => ∃ (n : Nat) (k : Str), a = .int n ∧ b = .str k ∧ Kd k ∧ 1 ≤ n ∧ n ≤ 9 ∧ ∀ p, M p = none → Q (.obj p) (mupd M p (.lst ((linesOf n k).map lnD)))
theorem ok__law_lines {P : Program} {w : World} {K : PySem.W.Frag} {mg : Str → Option Value} {base : Heap} (hD : Df K mg "_law_lines" s__law_lines) (hB : Fr mg bl) : Kn P w K mg base 1 "_law_lines" P__law_lines p__law_lines := by
  have S := sc__law_lines
  refine kn_ofD hD sc__law_lines (fun _ _ _ _ _ _ us hl => match us, hl with | [_, _], _ => rfl) pr2_len ?_
  intro f cdv A outer s H E hr
  refine ⟨_, (vss_cons (vs_set (i := 2) S.nd rfl (Or.inl rfl) (v_op o_addO (v_lc (own := [("number", 3)]) rfl S.nd (vi_range1 (hB _ (by decide +kernel)) (va_cons (v_var (pv 0)) va_nil)) (blkOk_by (by first | rfl | kernel_rfl)) (lcg_name (fun _ _ _ _ _ => pg_name (i := 3) S.nd rfl (by first | exact Or.inl rfl | exact Or.inr rfl))) (fun _ _ _ _ _ => vts_nil) (fun _ _ _ _ _ => (v_tup (va_cons v_str (va_cons (v_var (pv 3)) va_nil))))) (v_lc (own := [("number", 3)]) rfl S.nd (vi_range1 (hB _ (by decide +kernel)) (va_cons (v_var (pv 0)) va_nil)) (blkOk_by (by first | rfl | kernel_rfl)) (lcg_name (fun _ _ _ _ _ => pg_name (i := 3) S.nd rfl (by first | exact Or.inl rfl | exact Or.inr rfl))) (fun _ _ _ _ _ => vts_nil) (fun _ _ _ _ _ => (v_tup (va_cons v_str (va_cons (v_var (pv 3)) va_nil))))))) (vss_cons (vs_if (t_cmp (o_eq hr.r) (v_var (pv 1)) v_str (nomark _)) (vss_one (vs_expr (v_extend (v_var (pv 2)) (va_cons (v_lst (va_cons (v_tup (va_cons v_str (va_cons v_int va_nil))) (va_cons (v_tup (va_cons v_str (va_cons (v_op o_sub (v_var (pv 0)) v_int) va_nil))) va_nil))) va_nil)))) vss_nil) (vss_cons (vs_if (t_cmp (o_eq hr.r) (v_var (pv 1)) v_str (nomark _)) (vss_one (vs_expr (v_extend (v_var (pv 2)) (va_cons (v_op o_add (v_lc (own := [("number", 3)]) rfl S.nd (vi_range1 (hB _ (by decide +kernel)) (va_cons (v_var (pv 0)) va_nil)) (blkOk_by (by first | rfl | kernel_rfl)) (lcg_name (fun _ _ _ _ _ => pg_name (i := 3) S.nd rfl (by first | exact Or.inl rfl | exact Or.inr rfl))) (fun _ _ _ _ _ => vts_nil) (fun _ _ _ _ _ => (v_tup (va_cons v_str (va_cons (v_var (pv 3)) va_nil))))) (v_lc (own := [("number", 3)]) rfl S.nd (vi_range1 (hB _ (by decide +kernel)) (va_cons (v_var (pv 0)) va_nil)) (blkOk_by (by first | rfl | kernel_rfl)) (lcg_name (fun _ _ _ _ _ => pg_name (i := 3) S.nd rfl (by first | exact Or.inl rfl | exact Or.inr rfl))) (fun _ _ _ _ _ => vts_nil) (fun _ _ _ _ _ => (v_tup (va_cons v_str (va_cons (v_var (pv 3)) va_nil)))))) va_nil)))) vss_nil) (vss_one (vs_ret (v_var (pv 2))))))), ?_⟩
  clear hr S
  rintro _ M Q ⟨x0, x1, rfl, h⟩
  rw [show vstart N__law_lines.length [x0, x1] = [some x0, some x1, none, none] from rfl]
  obtain ⟨n, k, rfl, rfl, hk, n1, n9, h⟩ := h
  have sz := size1000
  have b64 : -4611686018427387904 ≤ (n : Int) ∧ (n : Int) < 4611686018427387904 := by omega
  have rg : ∀ (w : Str) (b c d : Option D) (M : Mem) (Qc : VL.VK), Qc (.lst ((List.range n).map fun a => lnD (w, ((a : Nat) : Int)))) M →
      vLc (iRg1 (vaCons (vVar 0) vaNil)) (gN 3) vYes (vTup (vaCons (vC (D.str w)) (vaCons (vVar 3) vaNil))) [3] [some (.int n), b, c, d] M Qc := fun w b c d M Qc q => by
    refine vLc_al (List.range n) (fun i => .int (0 + ((i : Nat) : Int))) (fun i => lnD (w, ((i : Nat) : Int))) (w := ⟨_, fun _ => True⟩) (fun R r => ?_) rfl trivial (by simp; omega) (fun i hi A hA => ?_) q
    · simpa [rgD, b64] using r
    · simpa [vwipe, lnD] using hA
  simp
  refine rg "row" _ _ _ _ _ (rg "column" _ _ _ _ _ ?_)
  simp
  refine ⟨by omega, fun p hp => ?_⟩
  have hq := h p hp
  rcases hk with rfl | rfl | rfl
  · simp
    exact ⟨_, Sub.refl, by simpa [linesOf, Function.comp_def] using hq⟩
  · simp
    refine ⟨by omega, _, Sub.refl, by simpa [linesOf, lnD, Function.comp_def] using hq⟩
  · simp
    refine rg "down" _ _ _ _ _ ?_
    refine rg "up" _ _ _ _ _ ?_
    simp
    exact ⟨by omega, by omega, _, Sub.refl, by simpa [linesOf, lnD, Function.comp_def] using hq⟩
abbrev N__law_sum : List Str := ["square", "line", "row", "column"]
abbrev P__law_sum : List Str := ["square", "line"]
theorem sc__law_sum : FnScope N__law_sum P__law_sum (defScope s__law_sum) := ⟨rfl, rfl, rfl, by decide +kernel, rfl, by decide +kernel, by decide +kernel⟩
def p__law_sum : VSp := pr2 fun a b M Q => ∃ (m : List (List Int)) (l : Str × Int), a = sqD m ∧ b = lnD l ∧ Sq m.length m ∧ 0 ≤ l.2 ∧ l.2 < m.length ∧ Q (.int (sumOf m.length m l)) M
theorem ok__law_sum {P : Program} {w : World} {K : PySem.W.Frag} {mg : Str → Option Value} {base : Heap} (hD : Df K mg "_law_sum" s__law_sum) (hB : Fr mg bl) (k__law_line : Kn P w K mg base 1 "_law_line" P__law_line p__law_line) : Kn P w K mg base 2 "_law_sum" P__law_sum p__law_sum := by
  have S := sc__law_sum
  refine kn_of hD sc__law_sum (fun _ _ _ _ _ _ us hl => match us, hl with | [_, _], _ => rfl) pr2_len ?_
  intro f cdv A outer s H E hr
  refine ⟨_, (vss_one (vs_ret (v_callB (c_sum rfl) (hB _ (by decide +kernel)) (va_cons (v_lc (own := [("row", 2), ("column", 3)]) rfl S.nd (vi_seq (v_callK k__law_line hr (va_cons (v_callB c_len (hB _ (by decide +kernel)) (va_cons (v_var (pv 0)) va_nil)) (va_cons (v_var (pv 1)) va_nil)))) (blkOk_by (by first | rfl | kernel_rfl)) (lcg_tup (n := 2) rfl (lcgs_cons (lcg_name (fun _ _ _ _ _ => pg_name (i := 2) S.nd rfl (by first | exact Or.inl rfl | exact Or.inr rfl))) (lcgs_cons (lcg_name (fun _ _ _ _ _ => pg_name (i := 3) S.nd rfl (by first | exact Or.inl rfl | exact Or.inr rfl))) lcgs_nil))) (fun _ _ _ _ _ => vts_nil) (fun _ _ _ _ _ => (v_ix (v_ix (v_var (pv 0)) (v_var (pv 2))) (v_var (pv 3))))) va_nil)))), ?_⟩
  clear hr S
  rintro _ M Q ⟨x0, x1, rfl, h⟩
  rw [show vstart N__law_sum.length [x0, x1] = [some x0, some x1, none, none] from rfl]
  obtain ⟨m, l, rfl, rfl, hm, l0, l1, h⟩ := h
  have sz := size1000
  obtain ⟨q1, q2, q3, q4, q5⟩ := id hm
  have hcl : (cellsOf m.length l.1 l.2).length = m.length := by
    unfold cellsOf
    split
    · simp
    · split
      · simp
      · split <;> simp
  simp
  refine vLc_al (cellsOf m.length l.1 l.2) cD (fun c => .int (entry m c)) (w := ⟨(cellsOf m.length l.1 l.2).map cD, fun _ => True⟩) (fun R r => ?_) rfl trivial (by omega) (fun c hc A hA => ?_) ?_
  · simp [sqD]
    exact pr2_at.mpr ⟨m.length, l.1, l.2, rfl, rfl, q1, q2, by simpa using r⟩
  · obtain ⟨c1, c2, c3, c4⟩ := cells_in l0 l1 c hc
    obtain ⟨r, e1, e2⟩ := entry_at hm c1 c2 c3 c4
    simp [vwipe, sqD, cD, e1, e2]
    exact hA
  · simp [VL.rSum]
    exact ⟨(cellsOf m.length l.1 l.2).map (entry m), by simp [Function.comp_def], h⟩
theorem alike_rep (xs : List Int) : decide (xs = List.replicate xs.length (xs.headD 0)) = alike xs := by
  unfold alike
  rw [Bool.eq_iff_iff]
  simp only [decide_eq_true_eq, List.all_eq_true]
  constructor
  · intro h x hx
    rw [h] at hx
    exact List.eq_of_mem_replicate hx
  · intro h
    exact List.eq_replicate_iff.mpr ⟨rfl, h⟩
abbrev N__law_is_of : List Str := ["square", "kind", "sums", "line"]
abbrev P__law_is_of : List Str := ["square", "kind"]
theorem sc__law_is_of : FnScope N__law_is_of P__law_is_of (defScope s__law_is_of) := ⟨rfl, rfl, rfl, by decide +kernel, rfl, by decide +kernel, by decide +kernel⟩
def p__law_is_of : VSp := pr2 fun a b M Q => ∃ (m : List (List Int)) (k : Str), a = sqD m ∧ b = .str k ∧ Kd k ∧ Sq m.length m ∧ Q (.bl (alike (sumsOf m.length m k))) M
theorem ok__law_is_of {P : Program} {w : World} {K : PySem.W.Frag} {mg : Str → Option Value} {base : Heap} (hD : Df K mg "_law_is_of" s__law_is_of) (hB : Fr mg bl) (k__law_lines : Kn P w K mg base 1 "_law_lines" P__law_lines p__law_lines) (k__law_sum : Kn P w K mg base 2 "_law_sum" P__law_sum p__law_sum) : Kn P w K mg base 3 "_law_is_of" P__law_is_of p__law_is_of := by
  have S := sc__law_is_of
  refine kn_ofD hD sc__law_is_of (fun _ _ _ _ _ _ us hl => match us, hl with | [_, _], _ => rfl) pr2_len ?_
  intro f cdv A outer s H E hr
  refine ⟨_, (vss_cons (vs_setLc (i := 2) (hc := rfl) (hN := S.nd) (hy := rfl) (hyl := rfl) (hsw := sw_true rfl rfl rfl (by decide +kernel))  (own := [("line", 3)]) (vi_seq (v_callK k__law_lines hr (va_cons (v_callB c_len (hB _ (by decide +kernel)) (va_cons (v_var (pv 0)) va_nil)) (va_cons (v_var (pv 1)) va_nil)))) (blkOk_by (by first | rfl | kernel_rfl)) (lcg_name (fun _ _ _ _ _ => pg_name (i := 3) S.nd rfl (by first | exact Or.inl rfl | exact Or.inr rfl))) (fun _ _ _ _ _ => vts_nil) (fun _ _ _ _ _ => (v_callK k__law_sum hr (va_cons (v_var (pv 0)) (va_cons (v_var (pv 3)) va_nil))))) (vss_one (vs_ret (v_cmp (o_eq hr.r) (v_var (pv 2)) (v_op o_rep (v_sl (v_var (pv 2)) vo_none (vo_some v_int)) (v_callB c_len (hB _ (by decide +kernel)) (va_cons (v_var (pv 2)) va_nil))) (nomark _))))), ?_⟩
  clear hr S
  rintro _ M Q ⟨x0, x1, rfl, h⟩
  rw [show vstart N__law_is_of.length [x0, x1] = [some x0, some x1, none, none] from rfl]
  obtain ⟨m, k, rfl, rfl, hk, hm, h⟩ := h
  have sz := size1000
  obtain ⟨q1, q2, q3, q4, q5⟩ := id hm
  have ll := lines_len (n := m.length) (k := k) q2
  simp
  refine vLc_of ?_
  simp [sqD]
  refine pr2_at.mpr ⟨m.length, k, rfl, rfl, hk, q1, q2, fun p hp => ?_⟩
  simp [asI]
  refine lcEx_al (linesOf m.length k) lnD (fun l => .int (sumOf m.length m l)) rfl asL_mupd (by omega) (fun l hl A hA => ?_) ?_
  · simp [vwipe]
    obtain ⟨l0, l1⟩ := lines_in q1 l hl
    exact pr2_at.mpr ⟨m, l, rfl, rfl, hm, l0, l1, hA⟩
  · have hs : (linesOf m.length k).map (fun l => D.int (sumOf m.length m l)) = (sumsOf m.length m k).map D.int := by simp [sumsOf, Function.comp_def]
    rw [hs]
    have hl : (sumsOf m.length m k).length ≤ 36 := by unfold sumsOf; rw [List.length_map]; exact ll
    generalize sumsOf m.length m k = xs at *
    have ct : cutD (xs.map D.int) none (some 1) = (xs.take 1).map D.int := by
      have := cut_take (xs.map D.int) 1
      rw [← List.map_take] at this
      exact this
    have fl : (List.replicate xs.length ((xs.take 1).map D.int)).flatten = (List.replicate xs.length (xs.headD 0)).map D.int := by
      cases xs with
      | nil => rfl
      | cons a as =>
        simp only [List.take_succ_cons, List.take_zero, List.map_cons, List.map_nil, List.headD_cons, List.map_replicate]
        generalize (a :: as).length = n
        induction n with
        | zero => rfl
        | succ n ih => rw [List.replicate_succ, List.replicate_succ, List.flatten_cons, ih] <;> rfl
    simp [ct, oRep, -List.map_take]
    refine ⟨by omega, ?_, ?_⟩
    · have : min 1 xs.length * xs.length ≤ 1 * xs.length := Nat.mul_le_mul_right _ (Nat.min_le_left _ _)
      omega
    · rw [fl]
      have shI : ∀ xs : List Int, Sh 30 (.lst (xs.map D.int)) := fun xs x hx => by
        obtain ⟨y, _, rfl⟩ := List.mem_map.mp hx; exact sh_int
      refine .inr ⟨shI _, shI _, ?_⟩
      rw [fz_lst, fz_lst, eqD_lst, eqDs_ints, alike_rep]
      exact ⟨M, Sub.new hp, h⟩
abbrev N__law_is_square : List Str := ["value", "low", "high", "row", "number"]
abbrev P__law_is_square : List Str := ["value", "low", "high"]
theorem sc__law_is_square : FnScope N__law_is_square P__law_is_square (defScope s__law_is_square) := ⟨rfl, rfl, rfl, by decide +kernel, rfl, by decide +kernel, by decide +kernel⟩
def p__law_is_square : VSp := pr3 fun a b c M Q => ∃ lo hi, Okv M a ∧ b = .int lo ∧ c = .int hi ∧ Q (.bl (isSqB lo hi a)) M
theorem ok__law_is_square {P : Program} {w : World} {K : PySem.W.Frag} {mg : Str → Option Value} {base : Heap} (hD : Df K mg "_law_is_square" s__law_is_square) (hB : Fr mg bl) (k__law_is_int : Kn P w K mg base 1 "_law_is_int" P__law_is_int p__law_is_int) : Kn P w K mg base 2 "_law_is_square" P__law_is_square p__law_is_square := by
  have S := sc__law_is_square
  refine kn_of hD sc__law_is_square (fun _ _ _ _ _ _ us hl => match us, hl with | [_, _, _], _ => rfl) pr3_len ?_
  intro f cdv A outer s H E hr
  refine ⟨_, (vss_cons (vs_if (t_pw (t_or (t_not (t_val (v_isi (T := "tuple") (hB _ (by decide +kernel)) (hB _ (by decide +kernel)) (v_var (pv 0))))) (t_or1 (t_not (t_chain o_le o_le v_int (v_callB c_len (hB _ (by decide +kernel)) (va_cons (v_var (pv 0)) va_nil)) v_int))))) (vss_one (vs_ret v_bl)) vss_nil) (vss_cons (vs_if (t_not (t_val (v_callB (c_all rfl) (hB _ (by decide +kernel)) (va_cons (v_lc (own := [("row", 3)]) rfl S.nd (vi_seq (v_var (pv 0))) (blkOk_by (by first | rfl | kernel_rfl)) (lcg_name (fun _ _ _ _ _ => pg_name (i := 3) S.nd rfl (by first | exact Or.inl rfl | exact Or.inr rfl))) (fun _ _ _ _ _ => vts_nil) (fun _ _ _ _ _ => (v_and (v_isi (T := "tuple") (hB _ (by decide +kernel)) (hB _ (by decide +kernel)) (v_var (pv 3))) (v_one (v_cmp (o_eq hr.r) (v_callB c_len (hB _ (by decide +kernel)) (va_cons (v_var (pv 3)) va_nil)) (v_callB c_len (hB _ (by decide +kernel)) (va_cons (v_var (pv 0)) va_nil)) (nomark _)))))) va_nil)))) (vss_one (vs_ret v_bl)) vss_nil) (vss_one (vs_ret (v_callB (c_all rfl) (hB _ (by decide +kernel)) (va_cons (v_lc (own := [("row", 3)]) rfl S.nd (vi_seq (v_var (pv 0))) (blkOk_by (by first | rfl | kernel_rfl)) (lcg_name (fun _ _ _ _ _ => pg_name (i := 3) S.nd rfl (by first | exact Or.inl rfl | exact Or.inr rfl))) (fun _ _ _ _ _ => vts_nil) (fun _ _ _ _ _ => (v_callB (c_all rfl) (hB _ (by decide +kernel)) (va_cons (v_lc (own := [("number", 4)]) rfl S.nd (vi_seq (v_var (pv 3))) (blkOk_by (by first | rfl | kernel_rfl)) (lcg_name (fun _ _ _ _ _ => pg_name (i := 4) S.nd rfl (by first | exact Or.inl rfl | exact Or.inr rfl))) (fun _ _ _ _ _ => vts_nil) (fun _ _ _ _ _ => (v_callK k__law_is_int hr (va_cons (v_var (pv 4)) (va_cons (v_var (pv 1)) (va_cons (v_var (pv 2)) va_nil)))))) va_nil)))) va_nil)))))), ?_⟩
  clear hr S
  rintro _ M Q ⟨x0, x1, x2, rfl, h⟩
  rw [show vstart N__law_is_square.length [x0, x1, x2] = [some x0, some x1, some x2, none, none] from rfl]
  obtain ⟨lo, hi, ok, rfl, rfl, h⟩ := h
  simp only [sSeq, sIf, vOrT, vNotT, vTest]
  refine isi_tuple x0 (fun R r => ⟨x0, rfl, r⟩) ok ⟨_, rfl, ?_⟩
  cases x0 with
  | tup xs =>
    unfold Okv at ok
    have sz := size1000
    simp [isTuple]
    by_cases h1 : 1 ≤ xs.length ∧ xs.length ≤ 9
    · have b1 : (1 : Int) ≤ (xs.length : Int) := by omega
      have b2 : (xs.length : Int) ≤ 9 := by omega
      have b3 : ¬ (9 < (xs.length : Int)) := by omega
      simp [b1, b2, b3]
      refine vLc_al xs (fun d => d) (fun r => .bl (isTuple r && decide (lenT r = xs.length))) (w := ⟨xs, fun _ => True⟩) (fun R r => ?_) (by simp) trivial (by omega) (fun d hd A hA => ?_) ?_
      · simpa using r
      · have okd := okvs_mem ok.2 d hd
        simp [vwipe]
        cases d with
        | tup ys =>
          have e : ((ys.length : Int) = (xs.length : Int)) ↔ ys.length = xs.length := by omega
          simp [isTuple, lenT, e] at hA ⊢; exact hA
        | obj a => unfold Okv at okd; obtain ⟨kvs, hk⟩ := okd; simp [isTuple, hk] at hA ⊢; exact hA
        | rd _ => unfold Okv at okd; exact okd.elim
        | _ => simp [isTuple] at hA ⊢; exact hA
      · simp [VL.rAll]
        refine ⟨xs.map fun r => isTuple r && decide (lenT r = xs.length), by simp [Function.comp_def], ?_⟩
        simp [List.all_map, Function.comp_def]
        by_cases h2 : (xs.all fun r => isTuple r && decide (lenT r = xs.length)) = true
        · have h2' : ∀ r ∈ xs, ∃ ys, r = .tup ys ∧ ys.length = xs.length := fun r hr => by
            have := List.all_eq_true.mp h2 r hr
            cases r with
            | tup ys => simp only [isTuple, lenT, Bool.true_and] at this; exact ⟨ys, rfl, of_decide_eq_true this⟩
            | _ => simp [isTuple] at this
          have h3 : (xs.all fun x => isTuple x && decide (lenT x = xs.length)) = true := h2
          have h4 : ∀ x ∈ xs, isTuple x = true ∧ lenT x = xs.length := fun x hx => by
            obtain ⟨ys, rfl, hy⟩ := h2' x hx; exact ⟨rfl, hy⟩
          refine .inr ⟨h4, ?_⟩
          refine vLc_al xs (fun d => d) (fun r => .bl (match r with | .tup ys => ys.all (btw lo hi) | _ => false)) (w := ⟨xs, fun _ => True⟩) (fun R r => ?_) (by simp) trivial (by omega) (fun d hd A hA => ?_) ?_
          · simpa using r
          · have okd := okvs_mem ok.2 d hd
            obtain ⟨ys, rfl, hy⟩ := h2' d hd
            unfold Okv at okd
            simp [vwipe]
            refine vLc_al ys (fun d => d) (fun d => .bl (btw lo hi d)) (w := ⟨ys, fun _ => True⟩) (fun R r => ?_) (by simp) trivial (by omega) (fun d hd A hA => ?_) ?_
            · simpa using r
            · simp [vwipe]
              exact pr3_at.mpr ⟨lo, hi, okvs_mem okd.2 d hd, rfl, rfl, hA⟩
            · simp [VL.rAll]
              exact ⟨ys.map (btw lo hi), by simp [Function.comp_def], by simpa [List.all_map, Function.comp_def] using hA⟩
          · simp [VL.rAll]
            refine ⟨xs.map (fun r => match r with | .tup ys => ys.all (btw lo hi) | _ => false), by simp [Function.comp_def], ?_⟩
            have e : isSqB lo hi (.tup xs) = xs.all (fun r => match r with | .tup ys => ys.all (btw lo hi) | _ => false) := by
              simp only [isSqB, decide_eq_true h1.1, decide_eq_true h1.2, Bool.true_and]
              rw [Bool.eq_iff_iff, List.all_eq_true, List.all_eq_true]
              refine forall_congr' fun r => forall_congr' fun hr => ?_
              obtain ⟨ys, rfl, hy⟩ := h2' r hr
              simp [areB, lenT, hy]
            rw [e] at h
            simpa [List.all_map, Function.comp_def] using h
        · refine .inl ⟨?_, ?_⟩
          · simp only [Bool.not_eq_true, List.all_eq_false] at h2
            obtain ⟨a, ha, h2⟩ := h2
            refine ⟨a, ha, ?_⟩
            intro q
            simp at h2
            exact h2 q
          · have e : isSqB lo hi (.tup xs) = false := by
              simp only [isSqB, Bool.and_eq_false_iff]
              refine .inr ?_
              simp only [Bool.not_eq_true, List.all_eq_false] at h2 ⊢
              obtain ⟨a, ha, h2⟩ := h2
              refine ⟨a, ha, ?_⟩
              cases a with
              | tup ys => simp only [isTuple, Bool.true_and] at h2; rw [h2, Bool.and_false]
              | _ => simp [areB]
            rw [e] at h; exact h
    · have e : isSqB lo hi (.tup xs) = false := by
        have : (decide (1 ≤ xs.length) && decide (xs.length ≤ 9)) = false := by
          rw [← Bool.decide_and]; exact decide_eq_false h1
        simp only [isSqB, this, Bool.false_and]
      rw [e] at h
      by_cases q : 1 ≤ xs.length
      · have b1 : (1 : Int) ≤ (xs.length : Int) := by omega
        have b3 : (9 < (xs.length : Int)) := by omega
        have b2 : ¬ (xs.length : Int) ≤ 9 := by omega
        simp [b1, b2, b3]; exact h
      · have b1 : ¬ (1 : Int) ≤ (xs.length : Int) := by omega
        simp [b1]; exact h
  | _ => simp [isTuple, isSqB] at h ⊢; exact h
end K46
namespace K46
open PySem PySem.Spec L2 VL
theorem pow1011 : PowOk 10 11 := by unfold PowOk; decide +kernel
theorem pow1030 : PowOk 10 30 := by unfold PowOk; decide +kernel
abbrev N__law_odd : List Str := ["pot", "some"]
abbrev P__law_odd : List Str := ["pot"]
theorem sc__law_odd : FnScope N__law_odd P__law_odd (defScope s__law_odd) := ⟨rfl, rfl, rfl, by decide +kernel, rfl, by decide +kernel, by decide +kernel⟩
def p__law_odd : VSp := pr1 fun a M Q => ∃ (p : Addr) (l : List D) (B : Nat), a = .obj p ∧ M p = some (.lst l) ∧ Pot B l ∧ B < 1000000 ∧ ∀ d M' l', Okv M' d → M' p = some (.lst l') → VL.Sub (mupd M p (.lst l')) M' → Pot (B + 1) l' → Q d M'
theorem ok__law_odd {P : Program} {w : World} {K : PySem.W.Frag} {mg : Str → Option Value} {base : Heap} (hD : Df K mg "_law_odd" s__law_odd) (hB : Fr mg bl) (k__law_of : Kn P w K mg base 2 "_law_of" P__law_of p__law_of) : Kn P w K mg base 3 "_law_odd" P__law_odd p__law_odd := by
  have S := sc__law_odd
  refine kn_of hD sc__law_odd (fun _ _ _ _ _ _ us hl => match us, hl with | [_], _ => rfl) pr1_len ?_
  intro f cdv A outer s H E hr
  refine ⟨_, (vss_cons (vs_set (i := 1) S.nd rfl (Or.inl rfl) (v_lst (va_cons v_non (va_cons v_bl (va_cons v_bl (va_cons v_int (va_cons v_int (va_cons (v_un o_neg v_int) (va_cons v_int (va_cons (v_op o_pow v_int v_int) (va_cons v_str (va_cons v_str (va_cons v_str (va_cons (v_tup va_nil) (va_cons (v_tup (va_cons v_int va_nil)) (va_cons (v_tup (va_cons v_non va_nil)) (va_cons (v_lst va_nil) (va_cons (v_lst (va_cons v_int va_nil)) (va_cons v_dict0 (va_cons v_dictC (va_cons (v_tup (va_cons (v_tup (va_cons v_int (va_cons v_int va_nil))) va_nil)) va_nil))))))))))))))))))))) (vss_one (vs_ret (v_callK k__law_of hr (va_cons (v_var (pv 0)) (va_cons (v_var (pv 1)) va_nil)))))), ?_⟩
  clear hr S
  rintro _ M Q ⟨x0, rfl, h⟩
  rw [show vstart N__law_odd.length [x0] = [some x0, none] from rfl]
  obtain ⟨p, l, B, rfl, hM, hl, hB', h⟩ := h
  simp
  refine ⟨pow1011, fun p1 h1 p2 h2 => ⟨?_, ?_⟩⟩
  · have := size1000; omega
  · have n1 : p ≠ p1 := fun e => by subst e; rw [hM] at h1; cases h1
    have hp2 : M p2 = none ∧ p2 ≠ p1 := by
      by_cases e : p2 = p1
      · subst e; simp [mupd] at h2
      · exact ⟨by simpa [mupd, e] using h2, e⟩
    have n2 : p ≠ p2 := fun e => by subst e; rw [hM] at hp2; cases hp2.1
    refine pr2_at.mpr ⟨p, l, _, B, rfl, by simp [mupd, n1, n2, hM], fun M' => ⟨rfl, fun l' => rfl⟩, hl, hB', by simp, by simp, fun d l' hd hl' => ?_⟩
    refine h d _ l' ?_ (by simp [mupd]) ?_ hl'
    · have k1 : mupd (mupd (mupd M p1 (.dk [])) p2 (.dk [(Sum.inr (Str.ofString "a"), D.int 1)])) p (.lst l') p1 = some (.dk []) := by
        simp [mupd, Ne.symm n1, Ne.symm hp2.2]
      have k2 : mupd (mupd (mupd M p1 (.dk [])) p2 (.dk [(Sum.inr (Str.ofString "a"), D.int 1)])) p (.lst l') p2 = some (.dk [(Sum.inr (Str.ofString "a"), D.int 1)]) := by
        simp [mupd, Ne.symm n2]
      simp only [List.mem_cons, List.not_mem_nil, or_false] at hd
      rcases hd with rfl | rfl | rfl | rfl | rfl | rfl | rfl | rfl | rfl | rfl | rfl | rfl | rfl | rfl | rfl | rfl | rfl | rfl | rfl <;> simp [Okv, Okvs, k1, k2]
    · intro a o ha
      by_cases e : a = p
      · subst e; simpa [mupd] using ha
      · have ha' : M a = some o := by simpa [mupd, e] using ha
        have e1 : a ≠ p1 := fun e => by subst e; rw [ha'] at h1; cases h1
        have e2 : a ≠ p2 := fun e => by subst e; rw [ha'] at hp2; cases hp2.1
        simp [mupd, e, e1, e2, ha']
abbrev N__law_bent : List Str := ["pot", "value", "at", "row"]
abbrev P__law_bent : List Str := ["pot", "value"]
theorem sc__law_bent : FnScope N__law_bent P__law_bent (defScope s__law_bent) := ⟨rfl, rfl, rfl, by decide +kernel, rfl, by decide +kernel, by decide +kernel⟩
def pn__law_bent (n : Nat) : VSp := pr2 fun a b M Q => ∃ (p : Addr) (l : List D) (B : Nat), a = .obj p ∧ M p = some (.lst l) ∧ Pot B l ∧ B + 2 * n + 3 < 1000000 ∧ Bt n b ∧ n ≤ 20 ∧ ∀ d M' l', Okv M' d → M' p = some (.lst l') → VL.Sub (mupd M p (.lst l')) M' → Pot (B + 2 * n + 3) l' → Q d M'
theorem st__law_bent {P : Program} {w : World} {K : PySem.W.Frag} {mg : Str → Option Value} {base : Heap} (hD : Df K mg "_law_bent" s__law_bent) (hB : Fr mg bl) (k__law_take : Kn P w K mg base 1 "_law_take" P__law_take p__law_take) (k__law_of : Kn P w K mg base 2 "_law_of" P__law_of p__law_of) (k__law_odd : Kn P w K mg base 3 "_law_odd" P__law_odd p__law_odd) (k__law_is_int : Kn P w K mg base 1 "_law_is_int" P__law_is_int p__law_is_int) (n : Nat) (k__law_bent : Kn P w K mg base (3 + n) "_law_bent" P__law_bent (prev pn__law_bent n)) : Kn P w K mg base (3 + n + 1) "_law_bent" P__law_bent (pn__law_bent n) := by
  have S := sc__law_bent
  refine kn_of hD sc__law_bent (fun _ _ _ _ _ _ us hl => match us, hl with | [_, _], _ => rfl) pr2_len ?_
  intro f cdv A outer s H E hr
  refine ⟨_, (vss_cons (vs_if (t_pw (t_and (t_val (v_isi (T := "tuple") (hB _ (by decide +kernel)) (hB _ (by decide +kernel)) (v_var (pv 1)))) (t_and (t_cmp (o_ne hr.r) (v_var (pv 1)) (v_tup va_nil) (nomark _)) (t_and1 (t_cmp (o_ne hr.r) (v_callK k__law_take hr (va_cons (v_var (pv 0)) (va_cons v_int va_nil)) (by omega)) v_int (nomark _)))))) (vss_cons (vs_set (i := 2) S.nd rfl (Or.inl rfl) (v_callK k__law_take hr (va_cons (v_var (pv 0)) (va_cons (v_callB c_len (hB _ (by decide +kernel)) (va_cons (v_var (pv 1)) va_nil)) va_nil)) (by omega))) (vss_one (vs_ret (v_op o_add (v_op o_add (v_sl (v_var (pv 1)) vo_none (vo_some (v_var (pv 2)))) (v_tup (va_cons (v_callK k__law_bent hr (va_cons (v_var (pv 0)) (va_cons (v_ix (v_var (pv 1)) (v_var (pv 2))) va_nil)) (by omega)) va_nil))) (v_sl (v_var (pv 1)) (vo_some (v_op o_add (v_var (pv 2)) v_int)) vo_none))))) vss_nil) (vss_cons (vs_if (t_val (v_isi (T := "tuple") (hB _ (by decide +kernel)) (hB _ (by decide +kernel)) (v_var (pv 1)))) (vss_cons (vs_set (i := 3) S.nd rfl (Or.inl rfl) (v_callTy c_list (hB _ (by decide +kernel)) (va_cons (v_var (pv 1)) va_nil))) (vss_one (vs_ret (v_callK k__law_of hr (va_cons (v_var (pv 0)) (va_cons (v_lst (va_cons (v_var (pv 3)) (va_cons (v_sl (v_var (pv 1)) vo_none (vo_some (v_un o_neg v_int))) (va_cons (v_op o_add (v_var (pv 1)) (v_sl (v_var (pv 1)) vo_none (vo_some v_int))) (va_cons (v_op o_add (v_var (pv 1)) (v_tup (va_cons v_int va_nil))) (va_cons (v_revT (v_var (pv 1))) (va_cons (v_tup (va_cons (v_var (pv 1)) va_nil)) (va_cons (v_sl (v_var (pv 3)) vo_none (vo_some v_int)) (va_cons (v_callK k__law_odd hr (va_cons (v_var (pv 0)) va_nil) (by omega)) va_nil))))))))) va_nil)) (by omega))))) vss_nil) (vss_cons (vs_if (t_val (v_callK k__law_is_int hr (va_cons (v_var (pv 1)) (va_cons (v_un o_neg (v_op o_pow v_int v_int)) (va_cons (v_op o_pow v_int v_int) va_nil))) (by omega))) (vss_one (vs_ret (v_callK k__law_of hr (va_cons (v_var (pv 0)) (va_cons (v_lst (va_cons (v_op o_add (v_var (pv 1)) v_int) (va_cons (v_op o_sub (v_var (pv 1)) v_int) (va_cons (v_un o_neg (v_var (pv 1))) (va_cons (v_callTy c_strI (hB _ (by decide +kernel)) (va_cons (v_var (pv 1)) va_nil)) (va_cons (v_cmp (o_eq hr.r) (v_var (pv 1)) v_int (nomark _)) (va_cons (v_callK k__law_odd hr (va_cons (v_var (pv 0)) va_nil) (by omega)) va_nil))))))) va_nil)) (by omega)))) vss_nil) (vss_one (vs_ret (v_callK k__law_odd hr (va_cons (v_var (pv 0)) va_nil) (by omega))))))), ?_⟩
  clear hr S
  rintro _ M Q ⟨x0, x1, rfl, h⟩
  rw [show vstart N__law_bent.length [x0, x1] = [some x0, some x1, none, none] from rfl]
  obtain ⟨p, l, B, rfl, hM, hl, hB', bt, hn, h⟩ := h
  refine s_split (fun M1 => ∃ l1, M1 = mupd M p (.lst l1) ∧ Pot (B + 1) l1) ?_ ?_
  · rintro _ ⟨l1, rfl, hl1⟩
    have hM1 : mupd M p (.lst l1) p = some (.lst l1) := mupd_same
    have ok1 : Okv (mupd M p (.lst l1)) x1 := okvUpd hM _ (bt.ok n x1)
    simp only [sSeq, sIf, vTest]
    refine isi_tuple x1 (fun R r => ⟨x1, rfl, r⟩) ok1 ⟨_, rfl, ?_⟩
    have last : p__law_odd [D.obj p] (mupd M p (.lst l1)) Q := by
      refine pr1_at.mpr ⟨p, l1, B + 1, rfl, hM1, hl1, by omega, fun d M' l' a1 a2 a3 a4 => ?_⟩
      exact h d M' l' a1 a2 (by simpa using a3) (potUp a4 (by omega))
    have pick : ∀ (ys : List D) (x : D) (M' : Mem) (l' : List D), ys.length ≤ 100 → (∀ y ∈ ys, ∀ M'' : Mem, Okv M'' y) → Okv M' x → M' p = some (.lst l') → VL.Sub (mupd (mupd M p (.lst l1)) p (.lst l')) M' → Pot (B + 1 + 1) l' → p__law_of [.obj p, .lst (ys ++ [x])] M' Q := by
      intro ys x M' l' hy oy ox e1 e2 e3
      refine pr2_at.mpr ⟨p, l', _, B + 2, rfl, e1, fun M' => ⟨rfl, fun l' => rfl⟩, e3, by omega, by simp, by simp; omega, fun d l'' hd hl'' => ?_⟩
      refine h d _ l'' ?_ mupd_same ?_ (potUp hl'' (by omega))
      · rcases List.mem_append.mp hd with hd | hd
        · exact oy d hd _
        · cases List.mem_singleton.mp hd
          exact okvUpd e1 _ ox
      · rw [mupd_mupd] at e2
        have := VL.Sub.both (p := p) (o := .lst l'') e2
        rwa [mupd_mupd] at this
    cases x1 with
    | tup xs =>
      have okx : ∀ M'' : Mem, Okv M'' (.tup xs) := fun M'' => bt.ok n _
      have okx' : ∀ M'' : Mem, xs.length ≤ 100 ∧ Okvs M'' xs := fun M'' => by
        refine ⟨?_, ?_⟩
        · cases n with
          | zero => cases bt; simp
          | succ n => exact bt.1
        · have := okx M''; unfold Okv at this; exact this.2
      have hx := (okx' M).1
      have sz := size1000
      have c1 := cut_len xs none (some 1)
      have c2 := cut_len xs none (some (-1))
      simp [isTuple, rList, asI]
      refine ⟨by omega, by omega, ?_⟩
      refine pr1_at.mpr ⟨p, l1, B + 1, rfl, hM1, hl1, by omega, fun d M' l' a1 a2 a3 a4 => ?_⟩
      refine pick [.lst xs, .tup (cutD xs none (some (-1))), .tup (xs ++ cutD xs none (some 1)), .tup (xs ++ [D.int 0]), .tup xs.reverse, .tup [D.tup xs], .lst (cutD xs none (some 1))] d M' l' (by simp) (fun y hy M'' => ?_) a1 a2 a3 a4
      have oo := okvs_mem (okx' M'').2
      simp only [List.mem_cons, List.not_mem_nil, or_false] at hy
      rcases hy with rfl | rfl | rfl | rfl | rfl | rfl | rfl
      · unfold Okv; trivial
      · unfold Okv; exact ⟨by omega, okvs_of fun x hx => oo x (cut_mem hx)⟩
      · unfold Okv; exact ⟨by rw [List.length_append]; omega, okvs_of fun x hx => (List.mem_append.mp hx).elim (fun hx => oo x hx) fun hx => oo x (cut_mem hx)⟩
      · unfold Okv; exact ⟨by rw [List.length_append]; simp; omega, okvs_of fun x hx => (List.mem_append.mp hx).elim (fun hx => oo x hx) fun hx => by cases List.mem_singleton.mp hx; unfold Okv; trivial⟩
      · unfold Okv; exact ⟨by rw [List.length_reverse]; omega, okvs_of fun x hx => oo x (List.mem_reverse.mp hx)⟩
      · unfold Okv; exact ⟨by simp, okvs_of fun x hx => by cases List.mem_singleton.mp hx; exact okx M''⟩
      · unfold Okv; trivial
    | int i =>
      simp [isTuple]
      refine ⟨pow1030, pr3_at.mpr ⟨_, _, ok1, rfl, rfl, ?_⟩⟩
      by_cases q : -1000000000000000000000000000000 ≤ i ∧ i ≤ 1000000000000000000000000000000
      · have e : btw (-1000000000000000000000000000000) 1000000000000000000000000000000 (.int i) = true := by simp [btw, q]
        have q3 : i.natAbs < 2 ^ 1920 := by
          have : i.natAbs ≤ 1000000000000000000000000000000 := by omega
          exact Nat.lt_of_le_of_lt this (by decide +kernel)
        have q2 : i.natAbs.log2 < 1920 := by
          by_cases z : i.natAbs = 0
          · rw [z]; decide
          · exact (Nat.log2_lt z).mpr q3
        rw [e]
        refine .inr ⟨rfl, q2, ?_⟩
        refine pr1_at.mpr ⟨p, l1, B + 1, rfl, hM1, hl1, by omega, fun d M' l' a1 a2 a3 a4 => ?_⟩
        refine pick [D.int (i + 1), D.int (i - 1), D.int (-i), D.str (Str.ofString i.repr), D.bl (decide (i = 1))] d M' l' (by simp) (fun y hy M'' => ?_) a1 a2 a3 a4
        simp only [List.mem_cons, List.not_mem_nil, or_false] at hy
        rcases hy with rfl | rfl | rfl | rfl | rfl <;> (unfold Okv; trivial)
      · have e : btw (-1000000000000000000000000000000) 1000000000000000000000000000000 (.int i) = false := by
          simp only [btw, Bool.and_eq_false_iff, decide_eq_false_iff_not]; omega
        rw [e]
        exact .inl ⟨rfl, last⟩
    | obj a => cases n <;> exact bt.elim
    | rd a => cases n <;> exact bt.elim
    | lst a => cases n <;> exact bt.elim
    | _ =>
      simp [isTuple]
      exact ⟨pow1030, pr3_at.mpr ⟨_, _, ok1, rfl, rfl, rfl, last⟩⟩
  · intro R hR
    simp only [sSeq, sIf, vAndT, vTest]
    refine isi_tuple x1 (fun R r => ⟨x1, rfl, r⟩) (bt.ok n x1) ⟨_, rfl, ?_⟩
    have stay : R { nx := fun x M' => Q D.non M', rt := Q } [some (D.obj p), some x1, none, none] M := by
      rw [← mupd_self hM]; exact hR _ ⟨l, rfl, potUp hl (by omega)⟩
    cases x1 with
    | tup xs =>
      simp [isTuple]
      refine oNe_nilT (fun x hx => ?_) ?_
      · exact Sh.up n 29 x (by omega) ((Bt.sh n _ bt) x hx)
      · cases xs with
        | nil => simp; exact stay
        | cons x xs =>
          simp
          cases n with
          | zero => cases bt
          | succ n =>
            refine pr2_at.mpr ⟨p, l, B, 5, rfl, rfl, hM, hl, by omega, by decide, by decide, fun d l2 hd hl2 => ?_⟩
            by_cases z : d = 0
            · subst z
              simp
              exact hR _ ⟨l2, rfl, hl2⟩
            · simp [z]
              have hl1 := bt.1
              have c1 := fun lo hi => cut_len (x :: xs) lo hi
              have sz := size1000
              refine pr2_at.mpr ⟨p, l2, B + 1, xs.length + 1, rfl, rfl, mupd_same, hl2, by omega, by omega, by simp at hl1; omega, fun at_ l3 ha hl3 => ?_⟩
              refine ⟨at_, rfl, (x :: xs)[at_], by rw [atI_k]; exact List.getElem?_eq_getElem _, ?_⟩
              show pn__law_bent n _ _ _
              refine pr2_at.mpr ⟨p, l3, B + 2, rfl, mupd_same, hl3, by omega, bt.2 _ (List.getElem_mem _), by omega, fun d' M' l' a1 a2 a3 a4 => ?_⟩
              have k1 := c1 none (some ↑at_)
              have k2 := c1 (some (↑at_ + 1)) none
              refine ⟨by omega, by omega, h _ M' l' ?_ a2 (by simpa using a3) (potUp a4 (by omega))⟩
              unfold Okv
              refine ⟨by simp; omega, okvs_of fun y hy => ?_⟩
              have oo : ∀ y ∈ x :: xs, Okv M' y := fun y hy => Bt.ok n y (bt.2 y hy)
              rcases List.mem_append.mp hy with hy | hy
              · exact oo y (cut_mem hy)
              · rcases List.mem_cons.mp hy with rfl | hy
                · exact a1
                · exact oo y (cut_mem hy)
    | _ => simp [isTuple]; exact stay
abbrev p__law_bent : VSp := pn__law_bent 4
theorem ok__law_bent {P : Program} {w : World} {K : PySem.W.Frag} {mg : Str → Option Value} {base : Heap} (hD : Df K mg "_law_bent" s__law_bent) (hB : Fr mg bl) (k__law_take : Kn P w K mg base 1 "_law_take" P__law_take p__law_take) (k__law_of : Kn P w K mg base 2 "_law_of" P__law_of p__law_of) (k__law_odd : Kn P w K mg base 3 "_law_odd" P__law_odd p__law_odd) (k__law_is_int : Kn P w K mg base 1 "_law_is_int" P__law_is_int p__law_is_int) : Kn P w K mg base 8 "_law_bent" P__law_bent p__law_bent := by
  have go : ∀ n, Kn P w K mg base (3 + n + 1) "_law_bent" P__law_bent (pn__law_bent n) := fun n => by
    induction n with
    | zero => exact st__law_bent hD hB k__law_take k__law_of k__law_odd k__law_is_int 0 (kn_void hD (fun _ _ _ _ _ _ us hl => match us, hl with | [_, _], _ => rfl))
    | succ n ih => exact st__law_bent hD hB k__law_take k__law_of k__law_odd k__law_is_int (n + 1) ih
  exact go 4
end K46
namespace K46
open PySem PySem.Spec L2 VL
/-- a square by a rule -/
def sqOf (n : Nat) (f : Nat → Nat → Int) : List (List Int) := (List.range n).map fun i => (List.range n).map fun j => f i j
theorem sqOf_len {n : Nat} {f : Nat → Nat → Int} : (sqOf n f).length = n := by simp [sqOf]
theorem sqOf_sq {n : Nat} {f : Nat → Nat → Int} (h1 : 1 ≤ n) (h9 : n ≤ 9) (h : ∀ i j, i < n → j < n → -1000000000 ≤ f i j ∧ f i j ≤ 1000000000) : Sq n (sqOf n f) := by
  refine ⟨h1, h9, sqOf_len, fun r hr => ?_, fun r hr x hx => ?_⟩
  · obtain ⟨i, hi, rfl⟩ := List.mem_map.mp hr
    simp
  · obtain ⟨i, hi, rfl⟩ := List.mem_map.mp hr
    obtain ⟨j, hj, rfl⟩ := List.mem_map.mp hx
    exact h i j (List.mem_range.mp hi) (List.mem_range.mp hj)
theorem sqOf_D {n : Nat} {f : Nat → Nat → Int} : sqD (sqOf n f) = .tup ((List.range n).map fun i => .tup ((List.range n).map fun j => .int (f i j))) := by
  simp [sqD, sqOf, Function.comp_def]
theorem entry_b {n : Nat} {m : List (List Int)} (h : Sq n m) {i j : Int} (h1 : 0 ≤ i) (h2 : i < n) (h3 : 0 ≤ j) (h4 : j < n) : -1000000000 ≤ entry m (i, j) ∧ entry m (i, j) ≤ 1000000000 := by
  obtain ⟨q1, q2, q3, q4, q5⟩ := h
  have l1 : i.toNat < m.length := by omega
  have hr := q4 (m[i.toNat]) (List.getElem_mem l1)
  have l2 : j.toNat < (m[i.toNat]).length := by omega
  have e : entry m (i, j) = (m[i.toNat])[j.toNat] := by
    unfold entry
    rw [List.getD_eq_getElem?_getD, List.getD_eq_getElem?_getD, List.getElem?_eq_getElem l1]
    show ((m[i.toNat])[j.toNat]?).getD 0 = _
    rw [List.getElem?_eq_getElem l2] <;> rfl
  rw [e]
  exact q5 _ (List.getElem_mem l1) _ (List.getElem_mem l2)
theorem entry_of {n : Nat} {f : Nat → Nat → Int} {i j : Nat} (hi : i < n) (hj : j < n) : entry (sqOf n f) ((i : Nat), (j : Nat)) = f i j := by
  simp [entry, sqOf, hi, hj]
def turn1 (m : List (List Int)) : List (List Int) := sqOf m.length fun i j => entry m ((m.length : Int) - 1 - (j : Int), (i : Int))
theorem turn1_sq {m : List (List Int)} (h : Sq m.length m) : Sq m.length (turn1 m) :=
  sqOf_sq h.1 h.2.1 fun i j hi hj => entry_b h (by omega) (by omega) (by omega) (by omega)
abbrev N_turned_once : List Str := ["square", "order", "row", "column"]
abbrev P_turned_once : List Str := ["square"]
theorem sc_turned_once : FnScope N_turned_once P_turned_once (defScope s_turned_once) := ⟨rfl, rfl, rfl, by decide +kernel, rfl, by decide +kernel, by decide +kernel⟩
def p_turned_once : VSp := pr1 fun a M Q => ∃ m, a = sqD m ∧ Sq m.length m ∧ Q (sqD (turn1 m)) M
theorem ok_turned_once {P : Program} {w : World} {K : PySem.W.Frag} {mg : Str → Option Value} {base : Heap} (hD : Df K mg "turned_once" s_turned_once) (hB : Fr mg bl) : Kn P w K mg base 1 "turned_once" P_turned_once p_turned_once := by
  have S := sc_turned_once
  refine kn_of hD sc_turned_once (fun _ _ _ _ _ _ us hl => match us, hl with | [_], _ => rfl) pr1_len ?_
  intro f cdv A outer s H E hr
  refine ⟨_, (vss_cons (vs_set (i := 1) S.nd rfl (Or.inr rfl) (v_callB c_len (hB _ (by decide +kernel)) (va_cons (v_var (pv 0)) va_nil))) (vss_one (vs_ret (v_callTy c_tuple (hB _ (by decide +kernel)) (va_cons (v_lc (own := [("row", 2)]) rfl S.nd (vi_range1 (hB _ (by decide +kernel)) (va_cons (v_var (pv 1)) va_nil)) (blkOk_by (by first | rfl | kernel_rfl)) (lcg_name (fun _ _ _ _ _ => pg_name (i := 2) S.nd rfl (by first | exact Or.inl rfl | exact Or.inr rfl))) (fun _ _ _ _ _ => vts_nil) (fun _ _ _ _ _ => (v_callTy c_tuple (hB _ (by decide +kernel)) (va_cons (v_lc (own := [("column", 3)]) rfl S.nd (vi_range1 (hB _ (by decide +kernel)) (va_cons (v_var (pv 1)) va_nil)) (blkOk_by (by first | rfl | kernel_rfl)) (lcg_name (fun _ _ _ _ _ => pg_name (i := 3) S.nd rfl (by first | exact Or.inl rfl | exact Or.inr rfl))) (fun _ _ _ _ _ => vts_nil) (fun _ _ _ _ _ => (v_ix (v_ix (v_var (pv 0)) (v_op o_sub (v_op o_sub (v_var (pv 1)) v_int) (v_var (pv 3)))) (v_var (pv 2))))) va_nil)))) va_nil))))), ?_⟩
  clear hr S
  rintro _ M Q ⟨x0, rfl, h⟩
  rw [show vstart N_turned_once.length [x0] = [some x0, none, none, none] from rfl]
  obtain ⟨m, rfl, hm, h⟩ := h
  obtain ⟨q1, q2, q3, q4, q5⟩ := id hm
  have sz := size1000
  have b64 : -4611686018427387904 ≤ (m.length : Int) ∧ (m.length : Int) < 4611686018427387904 := by omega
  unfold turn1 at h
  rw [sqOf_D] at h
  simp [sqD]
  refine vLc_al (List.range m.length) (fun i => .int (0 + ((i : Nat) : Int))) (fun i => .tup ((List.range m.length).map fun (j : Nat) => .int (entry m ((m.length : Int) - 1 - (j : Int), (i : Int))))) (w := ⟨_, fun _ => True⟩) (fun R r => ?_) rfl trivial (by simp; omega) (fun i hi A hA => ?_) ?_
  · simpa [rgD, b64] using r
  · have i1 := List.mem_range.mp hi
    simp [vwipe]
    refine vLc_al (List.range m.length) (fun i => .int (0 + ((i : Nat) : Int))) (fun (j : Nat) => .int (entry m ((m.length : Int) - 1 - (j : Int), (i : Int)))) (w := ⟨_, fun _ => True⟩) (fun R r => ?_) rfl trivial (by simp; omega) (fun j hj B hB => ?_) ?_
    · simpa [rgD, b64] using r
    · have j1 := List.mem_range.mp hj
      obtain ⟨r, e1, e2⟩ := entry_at hm (c := ((m.length : Int) - 1 - (j : Int), (i : Int))) (by simp only; omega) (by simp only; omega) (by simp only; omega) (by simp only; omega)
      simp at e1 e2
      simp [vwipe, sqD, e1, e2]
      exact hB
    · simp [rTuple, asI]
      simpa using hA
  · simp [rTuple, asI]
    simpa [sqD] using h
theorem map_range {α β : Type} (g : α → β) (d : α) (xs : List α) : xs.map g = (List.range xs.length).map fun j => g (xs.getD j d) := by
  refine List.ext_getElem (by simp) fun i h1 h2 => ?_
  have hi : i < xs.length := by simpa using h1
  simp [hi]
theorem row_at {n : Nat} {m : List (List Int)} (h : Sq n m) {i : Int} (h1 : 0 ≤ i) (h2 : i < n) : L2.atI (m.map fun (r : List Int) => D.tup (r.map D.int)) i = some (.tup ((m.getD i.toNat []).map D.int)) := by
  obtain ⟨q1, q2, q3, q4, q5⟩ := h
  have l1 : i.toNat < m.length := by omega
  rw [atI_ge h1, List.getElem?_map, List.getElem?_eq_getElem l1, List.getD_eq_getElem?_getD, List.getElem?_eq_getElem l1] <;> rfl
theorem col_at {n : Nat} {r : List Int} (hr : r.length = n) {j : Int} (h1 : 0 ≤ j) (h2 : j < n) : L2.atI (r.map D.int) j = some (.int (r.getD j.toNat 0)) := by
  have l1 : j.toNat < r.length := by omega
  rw [atI_ge h1, List.getElem?_map, List.getElem?_eq_getElem l1, List.getD_eq_getElem?_getD, List.getElem?_eq_getElem l1] <;> rfl
def chg (m : List (List Int)) : List (List Int) := sqOf m.length fun i j => entry m ((j : Int), (i : Int))
theorem chg_sq {m : List (List Int)} (h : Sq m.length m) : Sq m.length (chg m) :=
  sqOf_sq h.1 h.2.1 fun i j hi hj => entry_b h (by omega) (by omega) (by omega) (by omega)
abbrev N_changed : List Str := ["square", "place", "row"]
abbrev P_changed : List Str := ["square"]
theorem sc_changed : FnScope N_changed P_changed (defScope s_changed) := ⟨rfl, rfl, rfl, by decide +kernel, rfl, by decide +kernel, by decide +kernel⟩
def p_changed : VSp := pr1 fun a M Q => ∃ m, a = sqD m ∧ Sq m.length m ∧ Q (sqD (chg m)) M
theorem ok_changed {P : Program} {w : World} {K : PySem.W.Frag} {mg : Str → Option Value} {base : Heap} (hD : Df K mg "changed" s_changed) (hB : Fr mg bl) : Kn P w K mg base 1 "changed" P_changed p_changed := by
  have S := sc_changed
  refine kn_of hD sc_changed (fun _ _ _ _ _ _ us hl => match us, hl with | [_], _ => rfl) pr1_len ?_
  intro f cdv A outer s H E hr
  refine ⟨_, (vss_one (vs_ret (v_callTy c_tuple (hB _ (by decide +kernel)) (va_cons (v_lc (own := [("place", 1)]) rfl S.nd (vi_range1 (hB _ (by decide +kernel)) (va_cons (v_callB c_len (hB _ (by decide +kernel)) (va_cons (v_var (pv 0)) va_nil)) va_nil)) (blkOk_by (by first | rfl | kernel_rfl)) (lcg_name (fun _ _ _ _ _ => pg_name (i := 1) S.nd rfl (by first | exact Or.inl rfl | exact Or.inr rfl))) (fun _ _ _ _ _ => vts_nil) (fun _ _ _ _ _ => (v_callTy c_tuple (hB _ (by decide +kernel)) (va_cons (v_lc (own := [("row", 2)]) rfl S.nd (vi_seq (v_var (pv 0))) (blkOk_by (by first | rfl | kernel_rfl)) (lcg_name (fun _ _ _ _ _ => pg_name (i := 2) S.nd rfl (by first | exact Or.inl rfl | exact Or.inr rfl))) (fun _ _ _ _ _ => vts_nil) (fun _ _ _ _ _ => (v_ix (v_var (pv 2)) (v_var (pv 1))))) va_nil)))) va_nil)))), ?_⟩
  clear hr S
  rintro _ M Q ⟨x0, rfl, h⟩
  rw [show vstart N_changed.length [x0] = [some x0, none, none] from rfl]
  obtain ⟨m, rfl, hm, h⟩ := h
  obtain ⟨q1, q2, q3, q4, q5⟩ := id hm
  have sz := size1000
  have b64 : -4611686018427387904 ≤ (m.length : Int) ∧ (m.length : Int) < 4611686018427387904 := by omega
  unfold chg at h
  rw [sqOf_D] at h
  simp [sqD]
  refine vLc_al (List.range m.length) (fun i => .int (0 + ((i : Nat) : Int))) (fun i => .tup ((List.range m.length).map fun (j : Nat) => .int (entry m ((j : Int), (i : Int))))) (w := ⟨_, fun _ => True⟩) (fun R r => ?_) rfl trivial (by simp; omega) (fun i hi A hA => ?_) ?_
  · simpa [rgD, b64] using r
  · have i1 := List.mem_range.mp hi
    simp [vwipe]
    refine vLc_al m (fun r => .tup (r.map D.int)) (fun r => .int (r.getD i 0)) (w := ⟨m.map fun r => .tup (r.map D.int), fun _ => True⟩) (fun R r => ?_) rfl trivial (by omega) (fun r hr B hB => ?_) ?_
    · simpa [asI] using r
    · have e := col_at (q4 r hr) (j := (i : Int)) (by omega) (by omega)
      simp [vwipe, e]
      simpa using hB
    · rw [map_range (fun r : List Int => D.int (r.getD i 0)) [] m]
      simp [rTuple, asI]
      simpa [entry] using hA
  · simp [rTuple, asI]
    simpa [sqD] using h
def turnBy (m : List (List Int)) (t : Nat) : List (List Int) := (List.range (t % 4)).foldl (fun m _ => turn1 m) (if 4 ≤ t then chg m else m)
theorem turnBy_sq {m : List (List Int)} (h : Sq m.length m) (t : Nat) : ∀ k, Sq m.length ((List.range k).foldl (fun m _ => turn1 m) (if 4 ≤ t then chg m else m)) := fun k => by
  induction k with
  | zero =>
    show Sq m.length (if 4 ≤ t then chg m else m)
    split
    · exact chg_sq h
    · exact h
  | succ k ih =>
    rw [List.range_succ, List.foldl_append]
    have e := ih.2.2.1
    have := turn1_sq (m := (List.range k).foldl (fun m _ => turn1 m) (if 4 ≤ t then chg m else m)) (by rw [e]; exact ih)
    rw [e] at this
    exact this
abbrev N_turn_by : List Str := ["square", "turn", "found", "lap"]
abbrev P_turn_by : List Str := ["square", "turn"]
theorem sc_turn_by : FnScope N_turn_by P_turn_by (defScope s_turn_by) := ⟨rfl, rfl, rfl, by decide +kernel, rfl, by decide +kernel, by decide +kernel⟩
def p_turn_by : VSp := pr2 fun a b M Q => ∃ (m : List (List Int)) (t : Nat), a = sqD m ∧ b = .int t ∧ Sq m.length m ∧ t ≤ 7 ∧ Q (sqD (turnBy m t)) M
theorem ok_turn_by {P : Program} {w : World} {K : PySem.W.Frag} {mg : Str → Option Value} {base : Heap} (hD : Df K mg "turn_by" s_turn_by) (hB : Fr mg bl) {t_FOUR : Tok} (i_FOUR : mg "FOUR" = some (.int 4 t_FOUR)) (k_changed : Kn P w K mg base 1 "changed" P_changed p_changed) (k_turned_once : Kn P w K mg base 1 "turned_once" P_turned_once p_turned_once) : Kn P w K mg base 2 "turn_by" P_turn_by p_turn_by := by
  have S := sc_turn_by
  refine kn_of hD sc_turn_by (fun _ _ _ _ _ _ us hl => match us, hl with | [_, _], _ => rfl) pr2_len ?_
  intro f cdv A outer s H E hr
  refine ⟨_, (vss_cons (vs_set (i := 2) S.nd rfl (Or.inl rfl) (v_if (t_cmp o_ge (v_var (pv 1)) (v_gint i_FOUR ⟨_, rfl⟩) (nomark _)) (v_callK k_changed hr (va_cons (v_var (pv 0)) va_nil)) (v_var (pv 0)))) (vss_cons (vs_for PassesOwn.never rfl (vi_range1 (hB _ (by decide +kernel)) (va_cons (v_op o_mod (v_var (pv 1)) (v_gint i_FOUR ⟨_, rfl⟩)) va_nil)) (vg_name (pg_name (i := 3) S.nd rfl (by first | exact Or.inl rfl | exact Or.inr rfl))) (vss_one (vs_set (i := 2) S.nd rfl (Or.inl rfl) (v_callK k_turned_once hr (va_cons (v_var (pv 2)) va_nil))))) (vss_one (vs_ret (v_var (pv 2)))))), ?_⟩
  clear hr S
  rintro _ M Q ⟨x0, x1, rfl, h⟩
  rw [show vstart N_turn_by.length [x0, x1] = [some x0, some x1, none, none] from rfl]
  obtain ⟨m, t, rfl, rfl, hm, ht, h⟩ := h
  obtain ⟨q1, q2, q3, q4, q5⟩ := id hm
  have key : ∀ m0 : List (List Int), (if 4 ≤ t then chg m else m) = m0 → sFor (iRg1 (vaCons (vOp oMod (vVar 1) (vC (D.int 4))) vaNil)) (gN 3) (sAsg (vFn p_turned_once (vaCons (vVar 2) vaNil)) (gN 2)) { nx := sRet (vVar 2) { nx := fun x M' => Q D.non M', rt := Q }, rt := Q } [some (sqD m), some (D.int ↑t), some (sqD m0), none] M := by
    intro m0 hm0
    have b4 : (t : Int) % 4 = ((t % 4 : Nat) : Int) := by omega
    refine sFor_al (List.range (t % 4)) (fun i => .int (0 + ((i : Nat) : Int))) (fun i e M' => M' = M ∧ ∃ y, e = [some (sqD m), some (D.int ↑t), some (sqD ((List.range i).foldl (fun m _ => turn1 m) m0)), y]) (w := ⟨_, fun _ => True⟩) (fun R r => ?_) rfl ⟨rfl, none, rfl⟩ (fun _ _ _ _ _ => trivial) (fun i x e M' hx hi hp => ?_) (fun e M' hp => ?_)
    · simp
      refine ⟨by omega, by omega, ?_⟩
      rw [show ((t : Int) % 4).toNat = t % 4 by omega]
      simpa [rgD] using r
    · obtain ⟨rfl, y, rfl⟩ := hp
      have sq := turnBy_sq hm t i
      rw [hm0] at sq
      have e2 : (List.range (i + 1)).foldl (fun m _ => turn1 m) m0 = turn1 ((List.range i).foldl (fun m _ => turn1 m) m0) := by
        rw [List.range_succ, List.foldl_append] <;> rfl
      rw [e2]
      generalize (List.range i).foldl (fun m _ => turn1 m) m0 = mi at *
      simp
      refine pr1_at.mpr ⟨mi, rfl, by rw [sq.2.2.1]; exact sq, ?_⟩
      exact ⟨rfl, rfl⟩
    · simp only [List.length_range] at hp
      obtain ⟨rfl, y, rfl⟩ := hp
      subst hm0
      unfold turnBy at h
      generalize (List.range (t % 4)).foldl (fun m _ => turn1 m) (if 4 ≤ t then chg m else m) = mi at *
      simp
      simpa using h
  simp
  split
  · rename_i z
    have z' : 4 ≤ t := by omega
    exact pr1_at.mpr ⟨m, rfl, hm, key _ (by rw [if_pos z'])⟩
  · rename_i z
    have z' : ¬ 4 ≤ t := by omega
    exact key _ (by rw [if_neg z'])
abbrev N_moved_by : List Str := ["square", "down", "right", "order", "rows", "row", "column"]
abbrev P_moved_by : List Str := ["square", "down", "right"]
theorem sc_moved_by : FnScope N_moved_by P_moved_by (defScope s_moved_by) := ⟨rfl, rfl, rfl, by decide +kernel, rfl, by decide +kernel, by decide +kernel⟩
def mov (m : List (List Int)) (d r : Int) : List (List Int) := sqOf m.length fun i j => entry m (((i : Int) - d) % m.length, ((j : Int) - r) % m.length)
theorem mov_sq {m : List (List Int)} (h : Sq m.length m) (d r : Int) : Sq m.length (mov m d r) := by
  have n0 : (0 : Int) < m.length := by have := h.1; omega
  exact sqOf_sq h.1 h.2.1 fun i j hi hj => entry_b h (Int.emod_nonneg _ (by omega)) (Int.emod_lt_of_pos _ n0) (Int.emod_nonneg _ (by omega)) (Int.emod_lt_of_pos _ n0)
def p_moved_by : VSp := pr3 fun a b c M Q => ∃ (m : List (List Int)) (d r : Int), a = sqD m ∧ b = .int d ∧ c = .int r ∧ Sq m.length m ∧ Q (sqD (mov m d r)) M
theorem ok_moved_by {P : Program} {w : World} {K : PySem.W.Frag} {mg : Str → Option Value} {base : Heap} (hD : Df K mg "moved_by" s_moved_by) (hB : Fr mg bl) : Kn P w K mg base 1 "moved_by" P_moved_by p_moved_by := by
  have S := sc_moved_by
  refine kn_of hD sc_moved_by (fun _ _ _ _ _ _ us hl => match us, hl with | [_, _, _], _ => rfl) pr3_len ?_
  intro f cdv A outer s H E hr
  refine ⟨_, (vss_cons (vs_set (i := 3) S.nd rfl (Or.inr rfl) (v_callB c_len (hB _ (by decide +kernel)) (va_cons (v_var (pv 0)) va_nil))) (vss_cons (vs_setLc (i := 4) (hc := rfl) (hN := S.nd) (hy := rfl) (hyl := rfl) (hsw := sw_true rfl rfl rfl (by decide +kernel))  (own := [("row", 5)]) (vi_range1 (hB _ (by decide +kernel)) (va_cons (v_var (pv 3)) va_nil)) (blkOk_by (by first | rfl | kernel_rfl)) (lcg_name (fun _ _ _ _ _ => pg_name (i := 5) S.nd rfl (by first | exact Or.inl rfl | exact Or.inr rfl))) (fun _ _ _ _ _ => vts_nil) (fun _ _ _ _ _ => (v_ix (v_var (pv 0)) (v_op o_mod (v_op o_sub (v_var (pv 5)) (v_var (pv 1))) (v_var (pv 3)))))) (vss_one (vs_ret (v_callTy c_tuple (hB _ (by decide +kernel)) (va_cons (v_lc (own := [("row", 5)]) rfl S.nd (vi_seq (v_var (pv 4))) (blkOk_by (by first | rfl | kernel_rfl)) (lcg_name (fun _ _ _ _ _ => pg_name (i := 5) S.nd rfl (by first | exact Or.inl rfl | exact Or.inr rfl))) (fun _ _ _ _ _ => vts_nil) (fun _ _ _ _ _ => (v_callTy c_tuple (hB _ (by decide +kernel)) (va_cons (v_lc (own := [("column", 6)]) rfl S.nd (vi_range1 (hB _ (by decide +kernel)) (va_cons (v_var (pv 3)) va_nil)) (blkOk_by (by first | rfl | kernel_rfl)) (lcg_name (fun _ _ _ _ _ => pg_name (i := 6) S.nd rfl (by first | exact Or.inl rfl | exact Or.inr rfl))) (fun _ _ _ _ _ => vts_nil) (fun _ _ _ _ _ => (v_ix (v_var (pv 5)) (v_op o_mod (v_op o_sub (v_var (pv 6)) (v_var (pv 2))) (v_var (pv 3)))))) va_nil)))) va_nil)))))), ?_⟩
  clear hr S
  rintro _ M Q ⟨x0, x1, x2, rfl, h⟩
  rw [show vstart N_moved_by.length [x0, x1, x2] = [some x0, some x1, some x2, none, none, none, none] from rfl]
  obtain ⟨m, d, r, rfl, rfl, rfl, hm, h⟩ := h
  obtain ⟨q1, q2, q3, q4, q5⟩ := id hm
  have sz := size1000
  have n0 : (0 : Int) < m.length := by omega
  have b64 : -4611686018427387904 ≤ (m.length : Int) ∧ (m.length : Int) < 4611686018427387904 := by omega
  unfold mov at h
  rw [sqOf_D] at h
  simp [sqD]
  refine vLc_al (List.range m.length) (fun i => .int (0 + ((i : Nat) : Int))) (fun i => .tup ((m.getD (((i : Int) - d) % m.length).toNat []).map D.int)) (w := ⟨_, fun _ => True⟩) (fun R r => ?_) rfl trivial (by simp; omega) (fun i hi A hA => ?_) ?_
  · simpa [rgD, b64] using r
  · have e := row_at hm (i := ((i : Int) - d) % m.length) (Int.emod_nonneg _ (by omega)) (Int.emod_lt_of_pos _ n0)
    simp [vwipe, n0, e]
    simpa using ⟨by omega, hA⟩
  refine vLc_al (List.range m.length) (fun (i : Nat) => .tup ((m.getD (((i : Int) - d) % m.length).toNat []).map D.int)) (fun i => .tup ((List.range m.length).map fun (j : Nat) => .int (entry m (((i : Int) - d) % m.length, ((j : Int) - r) % m.length)))) (w := ⟨_, fun _ => True⟩) (fun R r => ?_) rfl trivial (by simp; omega) (fun i hi A hA => ?_) ?_
  · simpa [asI] using r
  · have i0 := Int.emod_nonneg ((i : Int) - d) (show (m.length : Int) ≠ 0 by omega)
    have i1 := Int.emod_lt_of_pos ((i : Int) - d) n0
    have hr : (m.getD (((i : Int) - d) % m.length).toNat []).length = m.length := by
      rw [List.getD_eq_getElem?_getD, List.getElem?_eq_getElem (by omega)]
      exact q4 _ (List.getElem_mem _)
    simp [vwipe]
    refine vLc_al (List.range m.length) (fun i => .int (0 + ((i : Nat) : Int))) (fun (j : Nat) => .int (entry m (((i : Int) - d) % m.length, ((j : Int) - r) % m.length))) (w := ⟨_, fun _ => True⟩) (fun R r => ?_) rfl trivial (by simp; omega) (fun j hj B hB => ?_) ?_
    · simpa [rgD, b64] using r
    · have e := col_at hr (j := ((j : Int) - r) % m.length) (Int.emod_nonneg _ (by omega)) (Int.emod_lt_of_pos _ n0)
      simp only [List.getD_eq_getElem?_getD] at e
      simp [vwipe, n0, e]
      simpa [entry] using ⟨by omega, hB⟩
    · simp [rTuple, asI]
      simpa using hA
  · simp [rTuple, asI]
    exact h
abbrev N_times_by : List Str := ["square", "number", "row", "entry"]
abbrev P_times_by : List Str := ["square", "number"]
theorem sc_times_by : FnScope N_times_by P_times_by (defScope s_times_by) := ⟨rfl, rfl, rfl, by decide +kernel, rfl, by decide +kernel, by decide +kernel⟩
def timesBy (m : List (List Int)) (k : Int) : List (List Int) := m.map fun r => r.map (· * k)
def p_times_by : VSp := pr2 fun a b M Q => ∃ (m : List (List Int)) (k : Int), a = sqD m ∧ b = .int k ∧ k.natAbs < 18446744073709551616 ∧ m.length ≤ 9 ∧ (∀ r ∈ m, r.length ≤ 9) ∧ Q (sqD (timesBy m k)) M
theorem ok_times_by {P : Program} {w : World} {K : PySem.W.Frag} {mg : Str → Option Value} {base : Heap} (hD : Df K mg "times_by" s_times_by) (hB : Fr mg bl) : Kn P w K mg base 1 "times_by" P_times_by p_times_by := by
  have S := sc_times_by
  refine kn_of hD sc_times_by (fun _ _ _ _ _ _ us hl => match us, hl with | [_, _], _ => rfl) pr2_len ?_
  intro f cdv A outer s H E hr
  refine ⟨_, (vss_one (vs_ret (v_callTy c_tuple (hB _ (by decide +kernel)) (va_cons (v_lc (own := [("row", 2)]) rfl S.nd (vi_seq (v_var (pv 0))) (blkOk_by (by first | rfl | kernel_rfl)) (lcg_name (fun _ _ _ _ _ => pg_name (i := 2) S.nd rfl (by first | exact Or.inl rfl | exact Or.inr rfl))) (fun _ _ _ _ _ => vts_nil) (fun _ _ _ _ _ => (v_callTy c_tuple (hB _ (by decide +kernel)) (va_cons (v_lc (own := [("entry", 3)]) rfl S.nd (vi_seq (v_var (pv 2))) (blkOk_by (by first | rfl | kernel_rfl)) (lcg_name (fun _ _ _ _ _ => pg_name (i := 3) S.nd rfl (by first | exact Or.inl rfl | exact Or.inr rfl))) (fun _ _ _ _ _ => vts_nil) (fun _ _ _ _ _ => (v_op o_mulI (v_var (pv 3)) (v_var (pv 1))))) va_nil)))) va_nil)))), ?_⟩
  clear hr S
  rintro _ M Q ⟨x0, x1, rfl, h⟩
  rw [show vstart N_times_by.length [x0, x1] = [some x0, some x1, none, none] from rfl]
  obtain ⟨m, k, rfl, rfl, h0, h1, h2, h⟩ := h
  have sz := size1000
  simp [sqD]
  refine vLc_al m (fun r => .tup (r.map D.int)) (fun r => .tup ((r.map (· * k)).map D.int)) (w := ⟨m.map fun r => .tup (r.map D.int), fun _ => True⟩) (fun R r => ?_) rfl trivial (by omega) (fun r hr A hA => ?_) ?_
  · simpa [asI] using r
  · have hr9 := h2 r hr
    simp [vwipe]
    refine vLc_al r (fun x => .int x) (fun x => .int (x * k)) (w := ⟨r.map D.int, fun _ => True⟩) (fun R r => ?_) rfl trivial (by omega) (fun x hx B hB => ?_) ?_
    · simpa [asI] using r
    · simp [vwipe]
      exact ⟨.inr (.inl h0), hB⟩
    · simp [rTuple, asI]
      simpa [Function.comp_def] using hA
  · simp [rTuple, asI]
    simpa [sqD, timesBy, Function.comp_def] using h
abbrev N_check_number : List Str := ["value"]
abbrev P_check_number : List Str := ["value"]
theorem sc_check_number : FnScope N_check_number P_check_number (defScope s_check_number) := ⟨rfl, rfl, rfl, by decide +kernel, rfl, by decide +kernel, by decide +kernel⟩
def p_check_number : VSp := pr1 fun a M Q => ∃ k : Int, a = .int k ∧ -1000000 ≤ k ∧ k ≤ 1000000 ∧ Q .non M
theorem ok_check_number {P : Program} {w : World} {K : PySem.W.Frag} {mg : Str → Option Value} {base : Heap} (hD : Df K mg "check_number" s_check_number) (hB : Fr mg bl) {t_MOST_NUMBER : Tok} (i_MOST_NUMBER : mg "MOST_NUMBER" = some (.int 1000000 t_MOST_NUMBER)) (k_is_between : Kn P w K mg base 2 "is_between" P_is_between p_is_between) : Kn P w K mg base 3 "check_number" P_check_number p_check_number := by
  have S := sc_check_number
  refine kn_of hD sc_check_number (fun _ _ _ _ _ _ us hl => match us, hl with | [_], _ => rfl) pr1_len ?_
  intro f cdv A outer s H E hr
  refine ⟨_, (vss_one (vs_if (t_not (t_val (v_callK k_is_between hr (va_cons (v_var (pv 0)) (va_cons (v_op o_sub v_int (v_gint i_MOST_NUMBER ⟨_, rfl⟩)) (va_cons (v_gint i_MOST_NUMBER ⟨_, rfl⟩) va_nil)))))) vss_never vss_nil)), ?_⟩
  clear hr S
  rintro _ M Q ⟨x0, rfl, h⟩
  rw [show vstart N_check_number.length [x0] = [some x0] from rfl]
  obtain ⟨k, rfl, h1, h2, h⟩ := h
  have e : btw (-1000000) 1000000 (.int k) = true := by simp [btw, h1, h2]
  simp
  refine pr3_at.mpr ⟨_, _, by unfold Okv; trivial, rfl, rfl, ?_⟩
  rw [e]
  simpa using h
abbrev N_let : List Str := ["square"]
abbrev P_let : List Str := ["square"]
theorem sc_let : FnScope N_let P_let (defScope s_let) := ⟨rfl, rfl, rfl, by decide +kernel, rfl, by decide +kernel, by decide +kernel⟩
def p_let : VSp := pr1 fun a M Q => ∃ m, a = sqD m ∧ Sq m.length m ∧ Q (sqD m) M
theorem ok_let {P : Program} {w : World} {K : PySem.W.Frag} {mg : Str → Option Value} {base : Heap} (hD : Df K mg "let" s_let) (hB : Fr mg bl) (k_is_square : Kn P w K mg base 4 "is_square" P_is_square p_is_square) : Kn P w K mg base 5 "let" P_let p_let := by
  have S := sc_let
  refine kn_of hD sc_let (fun _ _ _ _ _ _ us hl => match us, hl with | [_], _ => rfl) pr1_len ?_
  intro f cdv A outer s H E hr
  refine ⟨_, (vss_cons (vs_if (t_not (t_val (v_callK k_is_square hr (va_cons (v_var (pv 0)) va_nil)))) vss_never vss_nil) (vss_one (vs_ret (v_var (pv 0))))), ?_⟩
  clear hr S
  rintro _ M Q ⟨x0, rfl, h⟩
  rw [show vstart N_let.length [x0] = [some x0] from rfl]
  obtain ⟨m, rfl, hm, h⟩ := h
  simp
  refine pr1_at.mpr ⟨sq_ok hm, ?_⟩
  rw [sq_is hm]
  simpa using h
abbrev N_turned : List Str := ["square", "turn"]
abbrev P_turned : List Str := ["square", "turn"]
theorem sc_turned : FnScope N_turned P_turned (defScope s_turned) := ⟨rfl, rfl, rfl, by decide +kernel, rfl, by decide +kernel, by decide +kernel⟩
def p_turned : VSp := pr2 fun a b M Q => ∃ (m : List (List Int)) (t : Nat), a = sqD m ∧ b = .int t ∧ Sq m.length m ∧ t ≤ 7 ∧ Q (sqD (turnBy m t)) M
theorem ok_turned {P : Program} {w : World} {K : PySem.W.Frag} {mg : Str → Option Value} {base : Heap} (hD : Df K mg "turned" s_turned) (hB : Fr mg bl) {t_MOST_TURN : Tok} (i_MOST_TURN : mg "MOST_TURN" = some (.int 7 t_MOST_TURN)) (k_check_square : Kn P w K mg base 5 "check_square" P_check_square p_check_square) (k_is_between : Kn P w K mg base 2 "is_between" P_is_between p_is_between) (k_turn_by : Kn P w K mg base 2 "turn_by" P_turn_by p_turn_by) : Kn P w K mg base 6 "turned" P_turned p_turned := by
  have S := sc_turned
  refine kn_of hD sc_turned (fun _ _ _ _ _ _ us hl => match us, hl with | [_, _], _ => rfl) pr2_len ?_
  intro f cdv A outer s H E hr
  refine ⟨_, (vss_cons (vs_expr (v_callK k_check_square hr (va_cons (v_var (pv 0)) va_nil))) (vss_cons (vs_if (t_not (t_val (v_callK k_is_between hr (va_cons (v_var (pv 1)) (va_cons v_int (va_cons (v_gint i_MOST_TURN ⟨_, rfl⟩) va_nil)))))) vss_never vss_nil) (vss_one (vs_ret (v_callK k_turn_by hr (va_cons (v_var (pv 0)) (va_cons (v_var (pv 1)) va_nil))))))), ?_⟩
  clear hr S
  rintro _ M Q ⟨x0, x1, rfl, h⟩
  rw [show vstart N_turned.length [x0, x1] = [some x0, some x1] from rfl]
  obtain ⟨m, t, rfl, rfl, hm, ht, h⟩ := h
  have e : btw 0 7 (.int t) = true := by simp [btw]; omega
  simp
  refine pr1_at.mpr ⟨m, rfl, hm, ?_⟩
  refine pr3_at.mpr ⟨_, _, by unfold Okv; trivial, rfl, rfl, ?_⟩
  rw [e]
  simp
  exact pr2_at.mpr ⟨m, t, rfl, rfl, hm, ht, h⟩
abbrev N_moved : List Str := ["square", "down", "right"]
abbrev P_moved : List Str := ["square", "down", "right"]
theorem sc_moved : FnScope N_moved P_moved (defScope s_moved) := ⟨rfl, rfl, rfl, by decide +kernel, rfl, by decide +kernel, by decide +kernel⟩
def p_moved : VSp := pr3 fun a b c M Q => ∃ (m : List (List Int)) (d r : Int), a = sqD m ∧ b = .int d ∧ c = .int r ∧ Sq m.length m ∧ -1000000 ≤ d ∧ d ≤ 1000000 ∧ -1000000 ≤ r ∧ r ≤ 1000000 ∧ Q (sqD (mov m d r)) M
theorem ok_moved {P : Program} {w : World} {K : PySem.W.Frag} {mg : Str → Option Value} {base : Heap} (hD : Df K mg "moved" s_moved) (hB : Fr mg bl) (k_check_square : Kn P w K mg base 5 "check_square" P_check_square p_check_square) (k_check_number : Kn P w K mg base 3 "check_number" P_check_number p_check_number) (k_moved_by : Kn P w K mg base 1 "moved_by" P_moved_by p_moved_by) : Kn P w K mg base 6 "moved" P_moved p_moved := by
  have S := sc_moved
  refine kn_of hD sc_moved (fun _ _ _ _ _ _ us hl => match us, hl with | [_, _, _], _ => rfl) pr3_len ?_
  intro f cdv A outer s H E hr
  refine ⟨_, (vss_cons (vs_expr (v_callK k_check_square hr (va_cons (v_var (pv 0)) va_nil))) (vss_cons (vs_expr (v_callK k_check_number hr (va_cons (v_var (pv 1)) va_nil))) (vss_cons (vs_expr (v_callK k_check_number hr (va_cons (v_var (pv 2)) va_nil))) (vss_one (vs_ret (v_callK k_moved_by hr (va_cons (v_var (pv 0)) (va_cons (v_var (pv 1)) (va_cons (v_var (pv 2)) va_nil))))))))), ?_⟩
  clear hr S
  rintro _ M Q ⟨x0, x1, x2, rfl, h⟩
  rw [show vstart N_moved.length [x0, x1, x2] = [some x0, some x1, some x2] from rfl]
  obtain ⟨m, d, r, rfl, rfl, rfl, hm, d1, d2, r1, r2, h⟩ := h
  simp
  refine pr1_at.mpr ⟨m, rfl, hm, ?_⟩
  refine pr1_at.mpr ⟨d, rfl, d1, d2, ?_⟩
  refine pr1_at.mpr ⟨r, rfl, r1, r2, ?_⟩
  exact pr3_at.mpr ⟨m, d, r, rfl, rfl, rfl, hm, h⟩
abbrev N_times : List Str := ["square", "number"]
abbrev P_times : List Str := ["square", "number"]
theorem sc_times : FnScope N_times P_times (defScope s_times) := ⟨rfl, rfl, rfl, by decide +kernel, rfl, by decide +kernel, by decide +kernel⟩
def p_times : VSp := pr2 fun a b M Q => ∃ (m : List (List Int)) (k : Int), a = sqD m ∧ b = .int k ∧ Sq m.length m ∧ -1000000 ≤ k ∧ k ≤ 1000000 ∧ Sq m.length (timesBy m k) ∧ Q (sqD (timesBy m k)) M
theorem ok_times {P : Program} {w : World} {K : PySem.W.Frag} {mg : Str → Option Value} {base : Heap} (hD : Df K mg "times" s_times) (hB : Fr mg bl) (k_check_square : Kn P w K mg base 5 "check_square" P_check_square p_check_square) (k_check_number : Kn P w K mg base 3 "check_number" P_check_number p_check_number) (k_let : Kn P w K mg base 5 "let" P_let p_let) (k_times_by : Kn P w K mg base 1 "times_by" P_times_by p_times_by) : Kn P w K mg base 6 "times" P_times p_times := by
  have S := sc_times
  refine kn_of hD sc_times (fun _ _ _ _ _ _ us hl => match us, hl with | [_, _], _ => rfl) pr2_len ?_
  intro f cdv A outer s H E hr
  refine ⟨_, (vss_cons (vs_expr (v_callK k_check_square hr (va_cons (v_var (pv 0)) va_nil))) (vss_cons (vs_expr (v_callK k_check_number hr (va_cons (v_var (pv 1)) va_nil))) (vss_one (vs_ret (v_callK k_let hr (va_cons (v_callK k_times_by hr (va_cons (v_var (pv 0)) (va_cons (v_var (pv 1)) va_nil))) va_nil)))))), ?_⟩
  clear hr S
  rintro _ M Q ⟨x0, x1, rfl, h⟩
  rw [show vstart N_times.length [x0, x1] = [some x0, some x1] from rfl]
  obtain ⟨m, k, rfl, rfl, hm, k1, k2, ht, h⟩ := h
  simp
  refine pr1_at.mpr ⟨m, rfl, hm, ?_⟩
  refine pr1_at.mpr ⟨k, rfl, k1, k2, ?_⟩
  refine pr2_at.mpr ⟨m, k, rfl, rfl, by omega, hm.2.1, fun r hr => by rw [hm.2.2.2.1 r hr]; exact hm.2.1, ?_⟩
  refine pr1_at.mpr ⟨_, rfl, by rw [ht.2.2.1]; exact ht, h⟩
end K46
namespace K46
open PySem PySem.Spec L2 VL
def stepOf (n : Nat) (k : Str) : Int := if k = "magic" then (if n ≤ 3 then (n : Int) else 1) else if k = "round" then (if n % 2 = 0 then 2 else 1) * (if n % 3 = 0 then 3 else 1) else 1
theorem stepOf_pos {n : Nat} {k : Str} (h : 1 ≤ n) : 1 ≤ stepOf n k ∧ stepOf n k ≤ 6 := by
  unfold stepOf
  split
  · split <;> omega
  · split
    · split <;> split <;> decide
    · decide
abbrev N_step_of : List Str := ["order", "kind"]
abbrev P_step_of : List Str := ["order", "kind"]
theorem sc_step_of : FnScope N_step_of P_step_of (defScope s_step_of) := ⟨rfl, rfl, rfl, by decide +kernel, rfl, by decide +kernel, by decide +kernel⟩
def p_step_of : VSp := pr2 fun a b M Q => ∃ (n : Nat) (k : Str), a = .int n ∧ b = .str k ∧ Kd k ∧ 1 ≤ n ∧ n ≤ 9 ∧ Q (.int (stepOf n k)) M
theorem ok_step_of {P : Program} {w : World} {K : PySem.W.Frag} {mg : Str → Option Value} {base : Heap} (hD : Df K mg "step_of" s_step_of) (hB : Fr mg bl) {t_MAGIC : Tok} (i_MAGIC : mg "MAGIC" = some (.str "magic" t_MAGIC)) {t_THREE : Tok} (i_THREE : mg "THREE" = some (.int 3 t_THREE)) {t_ROUND : Tok} (i_ROUND : mg "ROUND" = some (.str "round" t_ROUND)) : Kn P w K mg base 1 "step_of" P_step_of p_step_of := by
  have S := sc_step_of
  refine kn_of hD sc_step_of (fun _ _ _ _ _ _ us hl => match us, hl with | [_, _], _ => rfl) pr2_len ?_
  intro f cdv A outer s H E hr
  refine ⟨_, (vss_cons (vs_if (t_cmp (o_eq hr.r) (v_var (pv 1)) (v_gstr i_MAGIC ⟨_, rfl⟩) (nomark _)) (vss_one (vs_ret (v_if (t_cmp o_le (v_var (pv 0)) (v_gint i_THREE ⟨_, rfl⟩) (nomark _)) (v_var (pv 0)) v_int))) vss_nil) (vss_cons (vs_if (t_cmp (o_eq hr.r) (v_var (pv 1)) (v_gstr i_ROUND ⟨_, rfl⟩) (nomark _)) (vss_one (vs_ret (v_op o_mulI (v_if (t_cmp (o_eq hr.r) (v_op o_mod (v_var (pv 0)) v_int) v_int (nomark _)) v_int v_int) (v_if (t_cmp (o_eq hr.r) (v_op o_mod (v_var (pv 0)) (v_gint i_THREE ⟨_, rfl⟩)) v_int (nomark _)) (v_gint i_THREE ⟨_, rfl⟩) v_int)))) vss_nil) (vss_one (vs_ret v_int)))), ?_⟩
  clear hr S
  rintro _ M Q ⟨x0, x1, rfl, h⟩
  rw [show vstart N_step_of.length [x0, x1] = [some x0, some x1] from rfl]
  obtain ⟨n, k, rfl, rfl, hk, n1, n9, h⟩ := h
  have e2 : ((n : Int) % 2 = 0) ↔ n % 2 = 0 := by omega
  have e3 : ((n : Int) % 3 = 0) ↔ n % 3 = 0 := by omega
  have e4 : ((n : Int) ≤ 3) ↔ n ≤ 3 := by omega
  simp [e2, e3, e4]
  have mk : ∀ a b : Int, a.natAbs < 100 → VL.MulOk a b := fun a b h => .inl (by omega)
  unfold stepOf at h
  by_cases k1 : k = "magic"
  · refine .inr ⟨k1, ?_⟩
    rw [if_pos k1] at h
    split <;> rename_i z <;> simpa [z] using h
  · refine .inl ⟨k1, ?_⟩
    rw [if_neg k1] at h
    by_cases k2 : k = "round"
    · refine .inr ⟨k2, ?_⟩
      rw [if_pos k2] at h
      by_cases z2 : n % 2 = 0 <;> by_cases z3 : n % 3 = 0 <;> simp [z2, z3] at h ⊢ <;> first | exact ⟨mk _ _ (by decide), h⟩ | exact ⟨by omega, mk _ _ (by decide), h⟩
    · refine .inl ⟨k2, ?_⟩
      rwa [if_neg k2] at h
abbrev N_sum_step : List Str := ["order", "kind"]
abbrev P_sum_step : List Str := ["order", "kind"]
theorem sc_sum_step : FnScope N_sum_step P_sum_step (defScope s_sum_step) := ⟨rfl, rfl, rfl, by decide +kernel, rfl, by decide +kernel, by decide +kernel⟩
def p_sum_step : VSp := pr2 fun a b M Q => ∃ (n : Nat) (k : Str), a = .int n ∧ b = .str k ∧ Kd k ∧ 1 ≤ n ∧ n ≤ 9 ∧ Q (.int (stepOf n k)) M
theorem ok_sum_step {P : Program} {w : World} {K : PySem.W.Frag} {mg : Str → Option Value} {base : Heap} (hD : Df K mg "sum_step" s_sum_step) (hB : Fr mg bl) (k_check_order : Kn P w K mg base 3 "check_order" P_check_order p_check_order) (k_check_kind : Kn P w K mg base 1 "check_kind" P_check_kind p_check_kind) (k_step_of : Kn P w K mg base 1 "step_of" P_step_of p_step_of) : Kn P w K mg base 4 "sum_step" P_sum_step p_sum_step := by
  have S := sc_sum_step
  refine kn_of hD sc_sum_step (fun _ _ _ _ _ _ us hl => match us, hl with | [_, _], _ => rfl) pr2_len ?_
  intro f cdv A outer s H E hr
  refine ⟨_, (vss_cons (vs_expr (v_callK k_check_order hr (va_cons (v_var (pv 0)) va_nil))) (vss_cons (vs_expr (v_callK k_check_kind hr (va_cons (v_var (pv 1)) va_nil))) (vss_one (vs_ret (v_callK k_step_of hr (va_cons (v_var (pv 0)) (va_cons (v_var (pv 1)) va_nil))))))), ?_⟩
  clear hr S
  rintro _ M Q ⟨x0, x1, rfl, h⟩
  rw [show vstart N_sum_step.length [x0, x1] = [some x0, some x1] from rfl]
  obtain ⟨n, k, rfl, rfl, hk, n1, n9, h⟩ := h
  simp
  exact pr1_at.mpr ⟨n, rfl, n1, n9, pr1_at.mpr ⟨k, rfl, hk, pr2_at.mpr ⟨n, k, rfl, rfl, hk, n1, n9, h⟩⟩⟩
abbrev N_check_sum : List Str := ["order", "kind", "number"]
abbrev P_check_sum : List Str := ["order", "kind", "number"]
theorem sc_check_sum : FnScope N_check_sum P_check_sum (defScope s_check_sum) := ⟨rfl, rfl, rfl, by decide +kernel, rfl, by decide +kernel, by decide +kernel⟩
def p_check_sum : VSp := pr3 fun a b c M Q => ∃ (n : Nat) (k : Str) (x : Int), a = .int n ∧ b = .str k ∧ c = .int x ∧ Kd k ∧ 1 ≤ n ∧ n ≤ 9 ∧ -1000000 ≤ x ∧ x ≤ 1000000 ∧ Q .non M
theorem ok_check_sum {P : Program} {w : World} {K : PySem.W.Frag} {mg : Str → Option Value} {base : Heap} (hD : Df K mg "check_sum" s_check_sum) (hB : Fr mg bl) (k_check_order : Kn P w K mg base 3 "check_order" P_check_order p_check_order) (k_check_kind : Kn P w K mg base 1 "check_kind" P_check_kind p_check_kind) (k_check_number : Kn P w K mg base 3 "check_number" P_check_number p_check_number) : Kn P w K mg base 4 "check_sum" P_check_sum p_check_sum := by
  have S := sc_check_sum
  refine kn_of hD sc_check_sum (fun _ _ _ _ _ _ us hl => match us, hl with | [_, _, _], _ => rfl) pr3_len ?_
  intro f cdv A outer s H E hr
  refine ⟨_, (vss_cons (vs_expr (v_callK k_check_order hr (va_cons (v_var (pv 0)) va_nil))) (vss_cons (vs_expr (v_callK k_check_kind hr (va_cons (v_var (pv 1)) va_nil))) (vss_one (vs_expr (v_callK k_check_number hr (va_cons (v_var (pv 2)) va_nil)))))), ?_⟩
  clear hr S
  rintro _ M Q ⟨x0, x1, x2, rfl, h⟩
  rw [show vstart N_check_sum.length [x0, x1, x2] = [some x0, some x1, some x2] from rfl]
  obtain ⟨n, k, x, rfl, rfl, rfl, hk, n1, n9, x1, x2, h⟩ := h
  simp
  exact pr1_at.mpr ⟨n, rfl, n1, n9, pr1_at.mpr ⟨k, rfl, hk, pr1_at.mpr ⟨x, rfl, x1, x2, h⟩⟩⟩
end K46
namespace K46
open PySem PySem.Spec L2 VL
def gcds (xs : List Int) : Nat := xs.foldl (fun g x => Nat.gcd g x.natAbs) 0
abbrev N_divisor : List Str := ["row", "most", "number", "one", "other"]
abbrev P_divisor : List Str := ["row"]
theorem sc_divisor : FnScope N_divisor P_divisor (defScope s_divisor) := ⟨rfl, rfl, rfl, by decide +kernel, rfl, by decide +kernel, by decide +kernel⟩
def p_divisor : VSp := pr1 fun a M Q => ∃ xs : List Int, asI M a = some (xs.map D.int) ∧ Q (.int (gcds xs)) M
theorem ok_divisor {P : Program} {w : World} {K : PySem.W.Frag} {mg : Str → Option Value} {base : Heap} (hD : Df K mg "divisor" s_divisor) (hB : Fr mg bl) : Kn P w K mg base 1 "divisor" P_divisor p_divisor := by
  have S := sc_divisor
  refine kn_of hD sc_divisor (fun _ _ _ _ _ _ us hl => match us, hl with | [_], _ => rfl) pr1_len ?_
  intro f cdv A outer s H E hr
  refine ⟨_, (vss_cons (vs_set (i := 1) S.nd rfl (Or.inl rfl) v_int) (vss_cons (vs_for PassesOwn.never rfl (vi_seq (v_var (pv 0))) (vg_name (pg_name (i := 2) S.nd rfl (by first | exact Or.inl rfl | exact Or.inr rfl))) (vss_cons (vs_par (i := 3) (j := 4) rfl S.nd rfl rfl (by decide) rfl rfl (va_cons (v_var (pv 1)) (va_cons (v_callB c_abs (hB _ (by decide +kernel)) (va_cons (v_var (pv 2)) va_nil)) va_nil)) (by rfl)) (vss_cons (vs_while PassesOwn.never (t_cmp (o_ne hr.r) (v_var (pv 4)) v_int (nomark _)) (vss_one (vs_par (i := 3) (j := 4) rfl S.nd rfl rfl (by decide) rfl rfl (va_cons (v_var (pv 4)) (va_cons (v_op o_mod (v_var (pv 3)) (v_var (pv 4))) va_nil)) (by rfl)))) (vss_one (vs_set (i := 1) S.nd rfl (Or.inl rfl) (v_var (pv 3))))))) (vss_one (vs_ret (v_var (pv 1)))))), ?_⟩
  clear hr S
  rintro _ M Q ⟨x0, rfl, h⟩
  rw [show vstart N_divisor.length [x0] = [some x0, none, none, none, none] from rfl]
  obtain ⟨xs, hx, h⟩ := h
  simp
  refine sFor_al xs D.int (fun i e M' => M' = M ∧ ∃ n o t, e = [some x0, some (.int ((xs.take i).foldl (fun g x => Nat.gcd g x.natAbs) 0 : Nat)), n, o, t]) (w := ⟨xs.map D.int, fun M' => asI M' x0 = some (xs.map D.int)⟩) (fun R r => ?_) rfl ⟨rfl, none, none, none, rfl⟩ (fun i e M' _ hp => by rw [hp.1]; exact hx) (fun i x e M' hxi hi hp => ?_) (fun e M' hp => ?_)
  · simpa using ⟨_, hx, r⟩
  · obtain ⟨rfl, n, o, t, rfl⟩ := hp
    have et : (xs.take (i + 1)).foldl (fun g x => Nat.gcd g x.natAbs) 0 = Nat.gcd ((xs.take i).foldl (fun g x => Nat.gcd g x.natAbs) 0) x.natAbs := by
      rw [List.take_add_one, hxi]
      simp
    rw [et]
    generalize (xs.take i).foldl (fun g x => Nat.gcd g x.natAbs) 0 = g at *
    simp
    refine ⟨_, _, ⟨rfl, rfl⟩, ?_⟩
    refine ⟨fun k e M1 => M1 = M' ∧ ∃ a b : Nat, k = b ∧ Nat.gcd a b = Nat.gcd g x.natAbs ∧ e = [some x0, some (.int (g : Nat)), some (.int x), some (.int (a : Nat)), some (.int (b : Nat))], ⟨x.natAbs, rfl, g, x.natAbs, rfl, rfl, ?_⟩, ?_⟩
    · have : (if x < 0 then -x else x) = (x.natAbs : Int) := by split <;> omega
      rw [this]
    · rintro k e M1 ⟨rfl, a, b, rfl, hg, rfl⟩
      by_cases z : k = 0
      · subst z
        rw [Nat.gcd_zero_right] at hg
        subst hg
        simp
      · have z' : ¬ ((k : Int) = 0) := by omega
        have e : (a : Int) % (k : Int) = ((a % k : Nat) : Int) := rfl
        have hg' : k.gcd (a % k) = g.gcd x.natAbs := by rw [← hg, Nat.gcd_comm k, ← Nat.gcd_rec, Nat.gcd_comm]
        have lt : a % k < k := Nat.mod_lt _ (by omega)
        simp [z]
        exact ⟨by omega, _, _, ⟨rfl, rfl⟩, a % k, lt, k, hg', rfl, by rw [e]⟩
  · obtain ⟨rfl, n, o, t, rfl⟩ := hp
    simp
    exact h
def less (xs : List Int) : List Int := if 1 < gcds xs then xs.map fun x => x / (gcds xs : Int) else xs
abbrev N_lessened : List Str := ["row", "most", "number"]
abbrev P_lessened : List Str := ["row"]
theorem sc_lessened : FnScope N_lessened P_lessened (defScope s_lessened) := ⟨rfl, rfl, rfl, by decide +kernel, rfl, by decide +kernel, by decide +kernel⟩
def p_lessened : VSp := pr1 fun a M Q => ∃ xs : List Int, asI M a = some (xs.map D.int) ∧ xs.length ≤ 1000 ∧ (gcds xs).log2 < 9000 ∧ Q (.lst ((less xs).map D.int)) M
theorem ok_lessened {P : Program} {w : World} {K : PySem.W.Frag} {mg : Str → Option Value} {base : Heap} (hD : Df K mg "lessened" s_lessened) (hB : Fr mg bl) (k_divisor : Kn P w K mg base 1 "divisor" P_divisor p_divisor) : Kn P w K mg base 2 "lessened" P_lessened p_lessened := by
  have S := sc_lessened
  refine kn_of hD sc_lessened (fun _ _ _ _ _ _ us hl => match us, hl with | [_], _ => rfl) pr1_len ?_
  intro f cdv A outer s H E hr
  refine ⟨_, (vss_cons (vs_set (i := 1) S.nd rfl (Or.inr rfl) (v_callK k_divisor hr (va_cons (v_var (pv 0)) va_nil))) (vss_one (vs_ret (v_if (t_cmp o_gt (v_var (pv 1)) v_int (nomark _)) (v_lc (own := [("number", 2)]) rfl S.nd (vi_seq (v_var (pv 0))) (blkOk_by (by first | rfl | kernel_rfl)) (lcg_name (fun _ _ _ _ _ => pg_name (i := 2) S.nd rfl (by first | exact Or.inl rfl | exact Or.inr rfl))) (fun _ _ _ _ _ => vts_nil) (fun _ _ _ _ _ => (v_op o_fdiv (v_var (pv 2)) (v_var (pv 1))))) (v_callTy c_list (hB _ (by decide +kernel)) (va_cons (v_var (pv 0)) va_nil)))))), ?_⟩
  clear hr S
  rintro _ M Q ⟨x0, rfl, h⟩
  rw [show vstart N_lessened.length [x0] = [some x0, none, none] from rfl]
  obtain ⟨xs, hx, hl, hg, h⟩ := h
  have sz := size1000
  simp
  refine pr1_at.mpr ⟨xs, hx, _, rfl, ?_⟩
  unfold less at h
  by_cases z : 1 < gcds xs
  · have z' : (1 : Int) < (gcds xs : Int) := by omega
    rw [if_pos z] at h
    rw [if_pos z']
    refine vLc_al xs D.int (fun x => .int (x / (gcds xs : Int))) (w := ⟨xs.map D.int, fun M' => asI M' x0 = some (xs.map D.int)⟩) (fun R r => ?_) rfl hx (by omega) (fun x hx' A hA => ?_) ?_
    · simpa using ⟨_, hx, r⟩
    · simp [vwipe]
      exact ⟨⟨by omega, hg⟩, hA⟩
    · simpa [Function.comp_def] using h
  · have z' : ¬ (1 : Int) < (gcds xs : Int) := by omega
    rw [if_neg z] at h
    rw [if_neg z']
    exact ⟨_, hx, h⟩
end K46
namespace K46
open PySem PySem.Spec L2 VL
def Sml (xs : List Int) : Prop := ∀ x ∈ xs, x.natAbs < 18446744073709551616
def mixd (xs ys : List Int) (lead : Nat) : List Int := (xs.zip ys).map fun p => ys.getD lead 0 * p.1 - xs.getD lead 0 * p.2
theorem zipD_ints (xs ys : List Int) : zipD (xs.map D.int) (ys.map D.int) = (xs.zip ys).map fun p => .tup [.int p.1, .int p.2] := by
  unfold zipD
  rw [List.zip_map, List.map_map]
  rfl
abbrev N_without : List Str := ["row", "other", "lead", "one", "two"]
abbrev P_without : List Str := ["row", "other", "lead"]
theorem sc_without : FnScope N_without P_without (defScope s_without) := ⟨rfl, rfl, rfl, by decide +kernel, rfl, by decide +kernel, by decide +kernel⟩
def p_without : VSp := pr3 fun a b c M Q => ∃ (xs ys : List Int) (l : Nat), a = .lst (xs.map D.int) ∧ b = .lst (ys.map D.int) ∧ c = .int l ∧ xs.length = ys.length ∧ l < xs.length ∧ xs.length ≤ 1000 ∧ Sml xs ∧ Sml ys ∧ (gcds (mixd xs ys l)).log2 < 9000 ∧ Q (.lst ((less (mixd xs ys l)).map D.int)) M
theorem ok_without {P : Program} {w : World} {K : PySem.W.Frag} {mg : Str → Option Value} {base : Heap} (hD : Df K mg "without" s_without) (hB : Fr mg bl) (k_lessened : Kn P w K mg base 2 "lessened" P_lessened p_lessened) : Kn P w K mg base 3 "without" P_without p_without := by
  have S := sc_without
  refine kn_of hD sc_without (fun _ _ _ _ _ _ us hl => match us, hl with | [_, _, _], _ => rfl) pr3_len ?_
  intro f cdv A outer s H E hr
  refine ⟨_, (vss_one (vs_ret (v_callK k_lessened hr (va_cons (v_lc (own := [("one", 3), ("two", 4)]) rfl S.nd (vi_zip (hB _ (by decide +kernel)) (va_cons (v_var (pv 0)) (va_cons (v_var (pv 1)) va_nil))) (blkOk_by (by first | rfl | kernel_rfl)) (lcg_tup (n := 2) rfl (lcgs_cons (lcg_name (fun _ _ _ _ _ => pg_name (i := 3) S.nd rfl (by first | exact Or.inl rfl | exact Or.inr rfl))) (lcgs_cons (lcg_name (fun _ _ _ _ _ => pg_name (i := 4) S.nd rfl (by first | exact Or.inl rfl | exact Or.inr rfl))) lcgs_nil))) (fun _ _ _ _ _ => vts_nil) (fun _ _ _ _ _ => (v_op o_sub (v_op o_mulI (v_ix (v_var (pv 1)) (v_var (pv 2))) (v_var (pv 3))) (v_op o_mulI (v_ix (v_var (pv 0)) (v_var (pv 2))) (v_var (pv 4)))))) va_nil)))), ?_⟩
  clear hr S
  rintro _ M Q ⟨x0, x1, x2, rfl, h⟩
  rw [show vstart N_without.length [x0, x1, x2] = [some x0, some x1, some x2, none, none] from rfl]
  obtain ⟨xs, ys, l, rfl, rfl, rfl, hl, h1, h2, s1, s2, hg, h⟩ := h
  have sz := size1000
  simp
  refine vLc_al (xs.zip ys) (fun p => .tup [.int p.1, .int p.2]) (fun p => .int (ys.getD l 0 * p.1 - xs.getD l 0 * p.2)) (w := ⟨zipD (xs.map D.int) (ys.map D.int), fun M' => asL M' (.lst (xs.map D.int)) = some (xs.map D.int) ∧ asL M' (.lst (ys.map D.int)) = some (ys.map D.int)⟩) (fun R r => ?_) (zipD_ints _ _) ⟨rfl, rfl⟩ (by simp; omega) (fun p hp A hA => ?_) ?_
  · simp
    exact ⟨_, _, ⟨rfl, rfl⟩, _, _, .inl ⟨rfl, rfl, r⟩⟩
  · have hm := List.of_mem_zip (show (p.1, p.2) ∈ xs.zip ys from hp)
    have e1 := col_at (r := ys) rfl (j := (l : Int)) (by omega) (by omega)
    have e2 := col_at (r := xs) rfl (j := (l : Int)) (by omega) (by omega)
    simp only [Int.toNat_natCast] at e1 e2
    simp [vwipe, e1, e2]
    exact ⟨.inr (.inl (s1 _ hm.1)), .inr (.inl (s2 _ hm.2)), by simpa using hA⟩
  · refine pr1_at.mpr ⟨mixd xs ys l, ?_, ?_, hg, h⟩
    · simp [mixd, asI, Function.comp_def]
    · simp [mixd]; omega
end K46
namespace K46
open PySem PySem.Spec L2 VL
/-- a fold that keeps account of checks -/
def foldB {σ α : Type} (c : σ → α → Bool) (f : σ → α → σ) (s0 : σ) (xs : List α) : Bool × σ := xs.foldl (fun s a => (s.1 && c s.2 a, f s.2 a)) (true, s0)
theorem foldB_gen {σ α : Type} (c : σ → α → Bool) (f : σ → α → σ) : ∀ (xs : List α) (b : Bool) (s0 : σ), (xs.foldl (fun s a => (s.1 && c s.2 a, f s.2 a)) (b, s0)).2 = xs.foldl f s0 ∧ ((xs.foldl (fun s a => (s.1 && c s.2 a, f s.2 a)) (b, s0)).1 = true → b = true ∧ ∀ (i : Nat) (x : α), xs[i]? = some x → c ((xs.take i).foldl f s0) x = true)
  | [], b, s0 => ⟨rfl, fun h => ⟨h, fun i x e => by simp at e⟩⟩
  | a :: xs, b, s0 => by
    obtain ⟨h1, h2⟩ := foldB_gen c f xs (b && c s0 a) (f s0 a)
    refine ⟨h1, fun h => ?_⟩
    obtain ⟨h3, h4⟩ := h2 h
    rw [Bool.and_eq_true] at h3
    refine ⟨h3.1, fun i x e => ?_⟩
    cases i with
    | zero => simp at e; subst e; exact h3.2
    | succ i => exact h4 i x (by simpa using e)
theorem foldB_2 {σ α : Type} {c : σ → α → Bool} {f : σ → α → σ} {s0 : σ} {xs : List α} : (foldB c f s0 xs).2 = xs.foldl f s0 := (foldB_gen c f xs true s0).1
theorem foldB_1 {σ α : Type} {c : σ → α → Bool} {f : σ → α → σ} {s0 : σ} {xs : List α} (h : (foldB c f s0 xs).1 = true) {i : Nat} {x : α} (e : xs[i]? = some x) : c ((xs.take i).foldl f s0) x = true := ((foldB_gen c f xs true s0).2 h).2 i x e
theorem foldl_take {σ α : Type} (f : σ → α → σ) (s0 : σ) {xs : List α} {i : Nat} {x : α} (e : xs[i]? = some x) : (xs.take (i + 1)).foldl f s0 = f ((xs.take i).foldl f s0) x := by
  rw [List.take_add_one, e]
  simp
def okR (n : Nat) (xs : List Int) : Bool := decide (xs.length = n) && xs.all fun x => decide (x.natAbs < 18446744073709551616)
theorem okR_i {n : Nat} {xs : List Int} (h : okR n xs = true) : xs.length = n ∧ Sml xs := by
  simp only [okR, Bool.and_eq_true, decide_eq_true_eq, List.all_eq_true] at h
  exact h
def okW (n : Nat) (xs ys : List Int) (l : Nat) : Bool := okR n xs && okR n ys && decide (l < n) && decide ((gcds (mixd xs ys l)).log2 < 9000)
abbrev Kp := List (Nat × List Int)
def nowC (n : Nat) (now : List Int) (p : Nat × List Int) : Bool := okW n now p.2 p.1
def now1 (now : List Int) (p : Nat × List Int) : List Int := if now.getD p.1 0 = 0 then now else less (mixd now p.2 p.1)
def spots (now : List Int) : List Nat := (List.range now.length).filter fun i => decide (now.getD i 0 ≠ 0)
def swap1 (now : List Int) (lead : Nat) (p : Nat × List Int) : Nat × List Int := (p.1, if p.2.getD lead 0 = 0 then p.2 else less (mixd p.2 now lead))
def stepC (n : Nat) (kept : Kp) (row : List Int) : Bool :=
  let q := foldB (nowC n) now1 (less row) kept
  okR n row && decide ((gcds row).log2 < 9000) && q.1 && okR n q.2 && decide (kept.length ≤ 900) && kept.all fun p => okW n p.2 q.2 ((spots q.2).headD 0)
def stepK (kept : Kp) (row : List Int) : Kp :=
  let now := kept.foldl now1 (less row)
  match spots now with
  | [] => kept
  | lead :: _ => kept.map (swap1 now lead) ++ [(lead, now)]
def comb (rows : List (List Int)) : Kp := rows.foldl stepK []
def kpD (p : Nat × List Int) : D := .tup [.int p.1, .lst (p.2.map D.int)]
def rwD (r : List Int) : D := .lst (r.map D.int)
theorem okW_i {n : Nat} {xs ys : List Int} {l : Nat} (h : okW n xs ys l = true) : xs.length = n ∧ Sml xs ∧ ys.length = n ∧ Sml ys ∧ l < n ∧ (gcds (mixd xs ys l)).log2 < 9000 := by
  simp only [okW, Bool.and_eq_true, decide_eq_true_eq] at h
  obtain ⟨⟨⟨h1, h2⟩, h3⟩, h4⟩ := h
  exact ⟨(okR_i h1).1, (okR_i h1).2, (okR_i h2).1, (okR_i h2).2, h3, h4⟩
theorem enD_ints (xs : List Int) : enD (xs.map D.int) = (List.range xs.length).map fun (i : Nat) => .tup [.int (i : Nat), .int (xs.getD i 0)] := by
  unfold enD
  rw [List.length_map]
  refine List.map_congr_left fun i hi => ?_
  have := List.mem_range.mp hi
  simp [this]
abbrev N_combed : List Str := ["rows", "kept", "row", "now", "lead", "other", "spots", "place", "number", "its", "one"]
abbrev P_combed : List Str := ["rows"]
theorem sc_combed : FnScope N_combed P_combed (defScope s_combed) := ⟨rfl, rfl, rfl, by decide +kernel, rfl, by decide +kernel, by decide +kernel⟩
def p_combed : VSp := pr1 fun a M Q => ∃ (n : Nat) (rows : List (List Int)), asI M a = some (rows.map rwD) ∧ n ≤ 1000 ∧ (foldB (stepC n) stepK [] rows).1 = true ∧ Q (.lst ((comb rows).map kpD)) M
theorem ok_combed {P : Program} {w : World} {K : PySem.W.Frag} {mg : Str → Option Value} {base : Heap} (hD : Df K mg "combed" s_combed) (hB : Fr mg bl) (k_lessened : Kn P w K mg base 2 "lessened" P_lessened p_lessened) (k_without : Kn P w K mg base 3 "without" P_without p_without) : Kn P w K mg base 4 "combed" P_combed p_combed := by
  have S := sc_combed
  refine kn_of hD sc_combed (fun _ _ _ _ _ _ us hl => match us, hl with | [_], _ => rfl) pr1_len ?_
  intro f cdv A outer s H E hr
  refine ⟨_, (vss_cons (vs_set (i := 1) S.nd rfl (Or.inl rfl) (v_lst va_nil)) (vss_cons (vs_for PassesOwn.never rfl (vi_seq (v_var (pv 0))) (vg_name (pg_name (i := 2) S.nd rfl (by first | exact Or.inl rfl | exact Or.inr rfl))) (vss_cons (vs_set (i := 3) S.nd rfl (Or.inr rfl) (v_callK k_lessened hr (va_cons (v_var (pv 2)) va_nil))) (vss_cons (vs_for PassesOwn.never rfl (vi_seq (v_var (pv 1))) (vg_tup (n := 2) rfl (vgs_cons (vg_name (pg_name (i := 4) S.nd rfl (by first | exact Or.inl rfl | exact Or.inr rfl))) (vgs_cons (vg_name (pg_name (i := 5) S.nd rfl (by first | exact Or.inl rfl | exact Or.inr rfl))) vgs_nil))) (vss_one (vs_set (i := 3) S.nd rfl (Or.inr rfl) (v_if (t_cmp (o_ne hr.r) (v_ix (v_var (pv 3)) (v_var (pv 4))) v_int (nomark _)) (v_callK k_without hr (va_cons (v_var (pv 3)) (va_cons (v_var (pv 5)) (va_cons (v_var (pv 4)) va_nil)))) (v_var (pv 3)))))) (vss_cons (vs_setLc (i := 6) (hc := rfl) (hN := S.nd) (hy := rfl) (hyl := rfl) (hsw := sw_true rfl rfl rfl (by decide +kernel))  (own := [("place", 7), ("number", 8)]) (vi_enum (hB _ (by decide +kernel)) (va_cons (v_var (pv 3)) va_nil)) (blkOk_by (by first | rfl | kernel_rfl)) (lcg_tup (n := 2) rfl (lcgs_cons (lcg_name (fun _ _ _ _ _ => pg_name (i := 7) S.nd rfl (by first | exact Or.inl rfl | exact Or.inr rfl))) (lcgs_cons (lcg_name (fun _ _ _ _ _ => pg_name (i := 8) S.nd rfl (by first | exact Or.inl rfl | exact Or.inr rfl))) lcgs_nil))) (fun _ _ _ _ _ => (vts_one (t_cmp (o_ne hr.r) (v_var (pv 8)) v_int (nomark _)))) (fun _ _ _ _ _ => (v_var (pv 7)))) (vss_one (vs_if (t_cmp (o_ne hr.r) (v_var (pv 6)) (v_lst va_nil) (nomark _)) (vss_cons (vs_set (i := 4) S.nd rfl (Or.inr rfl) (v_ix (v_var (pv 6)) v_int)) (vss_one (vs_set (i := 1) S.nd rfl (Or.inl rfl) (v_op o_add (v_lc (own := [("its", 9), ("one", 10)]) rfl S.nd (vi_seq (v_var (pv 1))) (blkOk_by (by first | rfl | kernel_rfl)) (lcg_tup (n := 2) rfl (lcgs_cons (lcg_name (fun _ _ _ _ _ => pg_name (i := 9) S.nd rfl (by first | exact Or.inl rfl | exact Or.inr rfl))) (lcgs_cons (lcg_name (fun _ _ _ _ _ => pg_name (i := 10) S.nd rfl (by first | exact Or.inl rfl | exact Or.inr rfl))) lcgs_nil))) (fun _ _ _ _ _ => vts_nil) (fun _ _ _ _ _ => (v_tup (va_cons (v_var (pv 9)) (va_cons (v_if (t_cmp (o_ne hr.r) (v_ix (v_var (pv 10)) (v_var (pv 4))) v_int (nomark _)) (v_callK k_without hr (va_cons (v_var (pv 10)) (va_cons (v_var (pv 3)) (va_cons (v_var (pv 4)) va_nil)))) (v_var (pv 10))) va_nil))))) (v_lst (va_cons (v_tup (va_cons (v_var (pv 4)) (va_cons (v_var (pv 3)) va_nil))) va_nil)))))) vss_nil)))))) (vss_one (vs_ret (v_var (pv 1)))))), ?_⟩
  clear hr S
  rintro _ M Q ⟨x0, rfl, h⟩
  rw [show vstart N_combed.length [x0] = [some x0, none, none, none, none, none, none, none, none, none, none] from rfl]
  obtain ⟨n, rows, ha, hn, hc, h⟩ := h
  have sz := size1000
  simp
  refine sFor_al rows rwD (fun i e M' => M' = M ∧ ∃ y2 y3 y4 y5 y6 y7 y8 y9 y10, e = [some x0, some (.lst (((rows.take i).foldl stepK []).map kpD)), y2, y3, y4, y5, y6, y7, y8, y9, y10]) (w := ⟨rows.map rwD, fun M' => asI M' x0 = some (rows.map rwD)⟩) (fun R r => ?_) rfl ⟨rfl, none, none, none, none, none, none, none, none, none, rfl⟩ (fun i e M' _ hp => by rw [hp.1]; exact ha) (fun i row e M' hxi hi hp => ?_) (fun e M' hp => ?_)
  · simpa using ⟨_, ha, r⟩
  · obtain ⟨rfl, y2, y3, y4, y5, y6, y7, y8, y9, y10, rfl⟩ := hp
    have hk := foldB_1 hc hxi
    rw [foldl_take _ _ hxi]
    generalize (rows.take i).foldl stepK [] = kept at *
    simp only [stepC, Bool.and_eq_true, decide_eq_true_eq, List.all_eq_true] at hk
    obtain ⟨⟨⟨⟨⟨k1, k2⟩, k3⟩, k4⟩, k5⟩, k6⟩ := hk
    rw [foldB_2] at k4 k6
    simp [rwD]
    refine pr1_at.mpr ⟨row, rfl, by rw [(okR_i k1).1]; exact hn, k2, ?_⟩
    simp
    refine sFor_al kept kpD (fun i e M1 => M1 = M' ∧ ∃ y4 y5, e = [some x0, some (.lst (kept.map kpD)), some (.lst (row.map D.int)), some (.lst (((kept.take i).foldl now1 (less row)).map D.int)), y4, y5, y6, y7, y8, y9, y10]) (w := ⟨kept.map kpD, fun M' => asI M' (.lst (kept.map kpD)) = some (kept.map kpD)⟩) (fun R r => ?_) rfl ⟨rfl, _, _, rfl⟩ (fun i e M' _ hp => rfl) (fun j p e M1 hxj hj hp => ?_) (fun e M1 hp => ?_)
    · simpa using r
    · obtain ⟨rfl, y4, y5, rfl⟩ := hp
      have hw := okW_i (foldB_1 k3 hxj)
      rw [foldl_take _ _ hxj]
      generalize (kept.take j).foldl now1 (less row) = now at *
      obtain ⟨w1, w2, w3, w4, w5, w6⟩ := hw
      have e1 := col_at (r := now) rfl (j := (p.1 : Int)) (by omega) (by omega)
      simp only [Int.toNat_natCast] at e1
      simp [kpD, e1]
      unfold now1
      by_cases z : now.getD p.1 0 = 0
      · refine .inl ⟨by simpa using z, ?_⟩
        rw [if_pos z]
      · refine .inr ⟨by simpa using z, ?_⟩
        rw [if_neg z]
        exact pr3_at.mpr ⟨now, p.2, p.1, rfl, rfl, rfl, by omega, by omega, by omega, w2, w4, w6, rfl, rfl⟩
    · simp only [List.take_length] at hp
      obtain ⟨rfl, y4, y5, rfl⟩ := hp
      have hs : stepK kept row = match spots (kept.foldl now1 (less row)) with
        | [] => kept
        | lead :: _ => kept.map (swap1 (kept.foldl now1 (less row)) lead) ++ [(lead, kept.foldl now1 (less row))] := rfl
      rw [hs]
      clear k3 hs
      generalize kept.foldl now1 (less row) = now at *
      have k4' := okR_i k4
      simp
      refine vLc_alF (List.range now.length) (fun i => .tup [.int (i : Nat), .int (now.getD i 0)]) (fun i => decide (now.getD i 0 ≠ 0)) (fun i => .int (i : Nat)) (w := ⟨enD (now.map D.int), fun M' => asL M' (.lst (now.map D.int)) = some (now.map D.int)⟩) (fun R r => ?_) (enD_ints _) rfl (by simp; omega) (fun i hi A B hA hB => ?_) ?_
      · simpa using r
      · simp at hA hB
        simp [vwipe]
        by_cases z : now[i]?.getD 0 = 0
        · simp [z]; exact hB z
        · simp [z]; exact hA z
      · rw [show (List.range now.length).filter (fun i => decide (now.getD i 0 ≠ 0)) = spots now from rfl]
        refine oNe_nil rfl (fun x hx => by obtain ⟨i, _, rfl⟩ := List.mem_map.mp hx; exact sh_int) ?_
        cases hsp : spots now with
        | nil => simp
        | cons lead tail =>
          rw [hsp] at k6
          simp [atI_0]
          refine vLc_al kept kpD (fun p => kpD (swap1 now lead p)) (w := ⟨kept.map kpD, fun M' => asI M' (.lst (kept.map kpD)) = some (kept.map kpD)⟩) (fun R r => ?_) rfl rfl (by omega) (fun p hp A hA => ?_) ?_
          · simpa using r
          · obtain ⟨w1, w2, w3, w4, w5, w6⟩ := okW_i (k6 p hp)
            simp only [List.headD_cons] at w5 w6
            have e1 := col_at (r := p.2) rfl (j := (lead : Int)) (by omega) (by omega)
            simp only [Int.toNat_natCast] at e1
            simp [vwipe, kpD, e1]
            unfold swap1 kpD at hA
            by_cases z : p.2.getD lead 0 = 0
            · refine .inl ⟨by simpa using z, ?_⟩
              rw [if_pos z] at hA; exact hA
            · refine .inr ⟨by simpa using z, ?_⟩
              rw [if_neg z] at hA
              exact pr3_at.mpr ⟨p.2, now, lead, rfl, rfl, rfl, by omega, by omega, by omega, w2, w4, w6, hA⟩
          · simp
            exact ⟨by omega, rfl⟩
  · obtain ⟨rfl, y2, y3, y4, y5, y6, y7, y8, y9, y10, rfl⟩ := hp
    simpa [comb] using h
end K46
namespace K46
open PySem PySem.Spec L2 VL
def cellsAll (n : Nat) : List (Int × Int) := ((List.range n).map fun i => (List.range n).map fun j => (((i : Nat) : Int), ((j : Nat) : Int))).flatten
abbrev N_cells_of : List Str := ["order", "found", "row", "column"]
abbrev P_cells_of : List Str := ["order"]
theorem sc_cells_of : FnScope N_cells_of P_cells_of (defScope s_cells_of) := ⟨rfl, rfl, rfl, by decide +kernel, rfl, by decide +kernel, by decide +kernel⟩
def p_cells_of : VSp := pr1 fun a M Q => ∃ n : Nat, a = .int n ∧ n ≤ 9 ∧ ∀ p, M p = none → Q (.obj p) (mupd M p (.lst ((cellsAll n).map cD)))
theorem ok_cells_of {P : Program} {w : World} {K : PySem.W.Frag} {mg : Str → Option Value} {base : Heap} (hD : Df K mg "cells_of" s_cells_of) (hB : Fr mg bl) : Kn P w K mg base 1 "cells_of" P_cells_of p_cells_of := by
  have S := sc_cells_of
  refine kn_ofD hD sc_cells_of (fun _ _ _ _ _ _ us hl => match us, hl with | [_], _ => rfl) pr1_len ?_
  intro f cdv A outer s H E hr
  refine ⟨_, (vss_cons (vs_set (i := 1) S.nd rfl (Or.inl rfl) (v_lstO va_nil)) (vss_cons (vs_for PassesOwn.never rfl (vi_range1 (hB _ (by decide +kernel)) (va_cons (v_var (pv 0)) va_nil)) (vg_name (pg_name (i := 2) S.nd rfl (by first | exact Or.inl rfl | exact Or.inr rfl))) (vss_one (vs_expr (v_extend (v_var (pv 1)) (va_cons (v_lc (own := [("column", 3)]) rfl S.nd (vi_range1 (hB _ (by decide +kernel)) (va_cons (v_var (pv 0)) va_nil)) (blkOk_by (by first | rfl | kernel_rfl)) (lcg_name (fun _ _ _ _ _ => pg_name (i := 3) S.nd rfl (by first | exact Or.inl rfl | exact Or.inr rfl))) (fun _ _ _ _ _ => vts_nil) (fun _ _ _ _ _ => (v_tup (va_cons (v_var (pv 2)) (va_cons (v_var (pv 3)) va_nil))))) va_nil))))) (vss_one (vs_ret (v_var (pv 1)))))), ?_⟩
  clear hr S
  rintro _ M Q ⟨x0, rfl, h⟩
  rw [show vstart N_cells_of.length [x0] = [some x0, none, none, none] from rfl]
  obtain ⟨n, rfl, n9, h⟩ := h
  have sz := size1000
  have b64 : -4611686018427387904 ≤ (n : Int) ∧ (n : Int) < 4611686018427387904 := by omega
  simp
  intro p hp
  refine sFor_al (List.range n) (fun i => .int (0 + ((i : Nat) : Int))) (fun i e M1 => M1 = mupd M p (.lst ((((List.range i).map fun i => (List.range n).map fun j => (((i : Nat) : Int), ((j : Nat) : Int))).flatten).map cD)) ∧ ∃ d, e = [some (.int n), some (.obj p), d, none]) (w := ⟨_, fun _ => True⟩) (fun R r => ?_) rfl ⟨by simp, _, rfl⟩ (fun _ _ _ _ _ => trivial) (fun i x e M1 hd hlt ⟨hM, d1, he⟩ => ?_) (fun e M1 ⟨hM, d1, he⟩ => ?_)
  · simpa [rgD, b64] using r
  · subst he hM
    simp at hlt
    rw [List.getElem?_range (by simpa using hlt)] at hd
    cases hd
    simp [-List.length_flatten, -List.map_flatten]
    refine vLc_al (List.range n) (fun j => .int (0 + ((j : Nat) : Int))) (fun j => cD (((i : Nat) : Int), ((j : Nat) : Int))) (w := ⟨_, fun _ => True⟩) (fun R r => ?_) rfl trivial (by simp; omega) (fun x hx A hA => ?_) ?_
    · simpa [rgD, b64] using r
    · simpa [vwipe, cD] using hA
    · simp [-List.length_flatten, -List.map_flatten]
      have fl := flat_len (fun i : Nat => (List.range n).map fun j => (((i : Nat) : Int), ((j : Nat) : Int))) 9 (List.range i) (fun x _ => by simp; omega)
      rw [List.length_range] at fl
      exact ⟨by omega, by simp [List.range_succ, Function.comp_def]⟩
  · subst he hM
    simp only [List.length_range]
    simp [-List.length_flatten, -List.map_flatten]
    exact ⟨_, VL.Sub.refl, by simpa [cellsAll] using h p hp⟩
end K46
namespace K46
open PySem PySem.Spec L2 VL
def ind (b : Bool) : Int := if b then 1 else 0
def askedRow (n : Nat) (f l : Str × Int) : List Int := (cellsAll n).map fun c => ind ((cellsOf n l.1 l.2).contains c) - ind ((cellsOf n f.1 f.2).contains c)
def askedOf (n : Nat) (k : Str) : List (List Int) := (linesOf n k).tail.map (askedRow n ((linesOf n k).headD ("row", 0)))
theorem cD_inj {a b : Int × Int} : eqD (cD a) (cD b) = decide (a = b) := by
  unfold cD
  rw [eqD_tup]
  rw [show [D.int a.1, D.int a.2] = [a.1, a.2].map D.int from rfl, show [D.int b.1, D.int b.2] = [b.1, b.2].map D.int from rfl, eqDs_ints]
  rw [decide_eq_decide]
  constructor
  · intro h; simp at h; exact Prod.ext h.1 h.2
  · rintro rfl; rfl
theorem sh_cD {c : Int × Int} {n : Nat} : Sh (n + 1) (cD c) := fun x hx => by
  simp only [List.mem_cons, List.not_mem_nil, or_false] at hx
  rcases hx with rfl | rfl <;> exact sh_int
theorem inD_cD {c : Int × Int} {cs : List (Int × Int)} : inD (cD c) (cs.map cD) = cs.contains c := by
  unfold inD
  rw [List.any_map]
  rw [Bool.eq_iff_iff, List.any_eq_true, List.contains_iff_mem]
  constructor
  · rintro ⟨y, hy, e⟩
    simp only [Function.comp_def, cD_inj, decide_eq_true_eq] at e
    exact e ▸ hy
  · intro hc
    exact ⟨c, hc, by simp [cD_inj]⟩
theorem sh_cDs {cs : List (Int × Int)} : ∀ z ∈ cs.map cD, Sh 30 z := fun z hz => by obtain ⟨y, _, rfl⟩ := List.mem_map.mp hz; exact sh_cD
theorem oIn_cD {c : Int × Int} {cs : List (Int × Int)} {M : Mem} {Q : VL.VK} (h : Q (.bl (cs.contains c)) M) : oIn (cD c) (.lst (cs.map cD)) M Q :=
  ⟨cs.map cD, rfl, sh_cD, sh_cDs, by rw [inD_cD]; exact h⟩
theorem lines_cons {n : Nat} (k : Str) (h : 1 ≤ n) : ∃ ls : List (Str × Int), linesOf n k = (("row" : Str), (0 : Int)) :: ls := by
  obtain ⟨m, rfl⟩ : ∃ m, n = m + 1 := ⟨n - 1, by omega⟩
  unfold linesOf
  rw [List.range_succ_eq_map]
  exact ⟨_, rfl⟩
abbrev N_asked : List Str := ["order", "kind", "lines", "rows", "first", "line", "here", "cell"]
abbrev P_asked : List Str := ["order", "kind"]
theorem sc_asked : FnScope N_asked P_asked (defScope s_asked) := ⟨rfl, rfl, rfl, by decide +kernel, rfl, by decide +kernel, by decide +kernel⟩
def p_asked : VSp := pr2 fun a b M Q => ∃ (n : Nat) (k : Str), a = .int n ∧ b = .str k ∧ Kd k ∧ 1 ≤ n ∧ n ≤ 9 ∧ ∀ p, M p = none → Q (.obj p) (mupd M p (.lst ((askedOf n k).map rwD)))
theorem ok_asked {P : Program} {w : World} {K : PySem.W.Frag} {mg : Str → Option Value} {base : Heap} (hD : Df K mg "asked" s_asked) (hB : Fr mg bl) (k_lines_by : Kn P w K mg base 1 "lines_by" P_lines_by p_lines_by) (k_cells_by : Kn P w K mg base 1 "cells_by" P_cells_by p_cells_by) (k_cells_of : Kn P w K mg base 1 "cells_of" P_cells_of p_cells_of) : Kn P w K mg base 2 "asked" P_asked p_asked := by
  have S := sc_asked
  refine kn_ofD hD sc_asked (fun _ _ _ _ _ _ us hl => match us, hl with | [_, _], _ => rfl) pr2_len ?_
  intro f cdv A outer s H E hr
  refine ⟨_, (vss_cons (vs_par (i := 2) (j := 3) rfl S.nd rfl rfl (by decide) rfl rfl (va_cons (v_callK k_lines_by hr (va_cons (v_var (pv 0)) (va_cons (v_var (pv 1)) va_nil))) (va_cons (v_lstO va_nil) va_nil)) (by rfl)) (vss_cons (vs_set (i := 4) S.nd rfl (Or.inr rfl) (v_callK k_cells_by hr (va_cons (v_var (pv 0)) (va_cons (v_ix (v_var (pv 2)) v_int) va_nil)))) (vss_cons (vs_for PassesOwn.never rfl (vi_seq (v_sl (v_var (pv 2)) (vo_some v_int) vo_none)) (vg_name (pg_name (i := 5) S.nd rfl (by first | exact Or.inl rfl | exact Or.inr rfl))) (vss_cons (vs_set (i := 6) S.nd rfl (Or.inr rfl) (v_callK k_cells_by hr (va_cons (v_var (pv 0)) (va_cons (v_var (pv 5)) va_nil)))) (vss_one (vs_expr (v_append (v_var (pv 3)) (va_cons (v_lc (own := [("cell", 7)]) rfl S.nd (vi_seq (v_callK k_cells_of hr (va_cons (v_var (pv 0)) va_nil))) (blkOk_by (by first | rfl | kernel_rfl)) (lcg_name (fun _ _ _ _ _ => pg_name (i := 7) S.nd rfl (by first | exact Or.inl rfl | exact Or.inr rfl))) (fun _ _ _ _ _ => vts_nil) (fun _ _ _ _ _ => (v_op o_sub (v_callTy c_int (hB _ (by decide +kernel)) (va_cons (v_cmp (o_in hr.r) (v_var (pv 7)) (v_var (pv 6)) (by with_unfolding_all rfl)) va_nil)) (v_callTy c_int (hB _ (by decide +kernel)) (va_cons (v_cmp (o_in hr.r) (v_var (pv 7)) (v_var (pv 4)) (by with_unfolding_all rfl)) va_nil))))) va_nil)))))) (vss_one (vs_ret (v_var (pv 3))))))), ?_⟩
  clear hr S
  rintro _ M Q ⟨x0, x1, rfl, h⟩
  rw [show vstart N_asked.length [x0, x1] = [some x0, some x1, none, none, none, none, none, none] from rfl]
  obtain ⟨n, k, rfl, rfl, hk, n1, n9, h⟩ := h
  have sz := size1000
  have ll := lines_len (n := n) (k := k) n9
  obtain ⟨ls, hls⟩ := lines_cons k n1
  have h2 : askedOf n k = ls.map (askedRow n (("row" : Str), (0 : Int))) := by unfold askedOf; rw [hls]; rfl
  rw [h2] at h
  have hin : ∀ l ∈ ls, 0 ≤ l.2 ∧ l.2 < n := fun l hl => lines_in n1 l (by rw [hls]; exact List.mem_cons_of_mem _ hl)
  rw [hls] at ll
  simp
  refine pr2_at.mpr ⟨n, k, rfl, rfl, hk, n1, n9, fun p hp => ?_⟩
  refine ⟨_, _, ⟨rfl, rfl⟩, ?_⟩
  rw [hls]
  simp [atI_0]
  refine pr2_at.mpr ⟨n, "row", 0, rfl, rfl, n1, n9, ?_⟩
  show sFor _ _ _ _ _ _
  refine sFor_al ls lnD (fun i e M1 => VL.Sub (mupd M p (.lst (((ls.take i).map (askedRow n (("row" : Str), (0 : Int)))).map rwD))) M1 ∧ ∃ y5 y6 y7, e = [some (.int n), some (.str k), some (.lst (lnD (("row" : Str), (0 : Int)) :: ls.map lnD)), some (.obj p), some (.lst ((cellsOf n "row" 0).map cD)), y5, y6, y7]) (w := ⟨ls.map lnD, fun M' => asI M' (.lst (ls.map lnD)) = some (ls.map lnD)⟩) (fun R r => ?_) rfl ⟨VL.Sub.refl, _, _, _, rfl⟩ (fun i e M' _ hp => rfl) (fun i l e M1 hxi hi hp => ?_) (fun e M1 hp => ?_)
  · simp [cut_tail]
    simpa using r
  · obtain ⟨hs, y5, y6, y7, rfl⟩ := hp
    have hMp := hs p _ mupd_same
    obtain ⟨l0, l1⟩ := hin l (List.mem_of_getElem? hxi)
    simp
    refine pr2_at.mpr ⟨n, l.1, l.2, rfl, rfl, n1, n9, ?_⟩
    simp [hMp]
    have tk : List.take (i + 1) (List.map (rwD ∘ askedRow n (("row" : Str), (0 : Int))) ls) = ((ls.take i).map (askedRow n (("row" : Str), (0 : Int)))).map rwD ++ [rwD (askedRow n (("row" : Str), (0 : Int)) l)] := by
      rw [← List.map_take, List.take_add_one, hxi]
      simp
    rw [tk]
    refine vLc_of ?_
    simp only [iSeq, vFn, vaCons, vaNil, vVar]
    simp
    refine pr1_at.mpr ⟨n, rfl, n9, fun q hq => ?_⟩
    have hpq : p ≠ q := fun e => by subst e; rw [hMp] at hq; cases hq
    have hq' : mupd M1 q (.lst ((cellsAll n).map cD)) q = some (.lst ((cellsAll n).map cD)) := mupd_same
    have cl : (cellsAll n).length ≤ 81 := by
      unfold cellsAll
      have fl := flat_len (fun i : Nat => (List.range n).map fun j => (((i : Nat) : Int), ((j : Nat) : Int))) 9 (List.range n) (fun x _ => by simp; omega)
      rw [List.length_range] at fl
      omega
    refine ⟨(cellsAll n).map cD, by simp [asL_obj hq'], ?_⟩
    refine lcEx_al (cellsAll n) cD (fun c => .int (ind ((cellsOf n l.1 l.2).contains c) - ind ((cellsOf n "row" 0).contains c))) rfl (by simp [asL_obj hq']) (by omega) (fun c hc A hA => ?_) ?_
    · simp [vwipe]
      refine oIn_cD ⟨_, rfl, ?_⟩
      refine ⟨sh_cD, sh_cDs, ?_⟩
      rw [inD_cD]
      exact ⟨_, rfl, _, rfl, hA⟩
    · refine ⟨_, (mupd_ne hpq).trans hMp, by have : i ≤ ls.length := Nat.le_of_lt hi; simp at ll ⊢; omega, ?_⟩
      have e1 := hs.trans (VL.Sub.new (o := .lst ((cellsAll n).map cD)) hq)
      have e2 := VL.Sub.both (p := p) (o := .lst (((ls.take i).map (askedRow n (("row" : Str), (0 : Int)))).map rwD ++ [rwD (askedRow n (("row" : Str), (0 : Int)) l)])) e1
      rw [mupd_mupd] at e2
      have e3 : rwD (askedRow n (("row" : Str), (0 : Int)) l) = .lst ((cellsAll n).map fun c => .int (ind ((cellsOf n l.1 l.2).contains c) - ind ((cellsOf n "row" 0).contains c))) := by
        simp [rwD, askedRow, Function.comp_def]
      rw [e3] at e2 ⊢
      have tk2 : List.take i (List.map (rwD ∘ askedRow n ("row", 0)) ls) = ((ls.take i).map (askedRow n (("row" : Str), (0 : Int)))).map rwD := by
        simp [List.map_take]
      rw [tk2]
      exact e2
  · obtain ⟨hs, y5, y6, y7, rfl⟩ := hp
    simp only [List.take_length] at hs
    simp
    exact ⟨_, hs, by simpa using h p hp⟩
end K46
namespace K46
open PySem PySem.Spec L2 VL
theorem inD_map {α : Type} {x : Int} {ys : List α} {f : α → Int} : inD (.int x) (ys.map fun y => D.int (f y)) = ys.any fun y => decide (f y = x) := by
  unfold inD
  rw [List.any_map]
  rw [Bool.eq_iff_iff, List.any_eq_true, List.any_eq_true]
  simp only [Function.comp_def, eqD_int, decide_eq_true_eq]
theorem abs_nat (x : Int) : (if x < 0 then -x else x) = (x.natAbs : Int) := by split <;> omega
def leadIn (kept : Kp) (i : Nat) : Bool := kept.any fun p => decide ((p.1 : Int) = (i : Int))
def freesOf (N : Nat) (kept : Kp) : List Nat := (List.range N).filter fun i => !leadIn kept i
def most1 (free : Nat) (m : Int) (p : Nat × List Int) : Int := if p.2.getD free 0 = 0 then m else m * ((p.2.getD p.1 0).natAbs : Int) / (gcds [m, p.2.getD p.1 0] : Int)
def mostOf (kept : Kp) (free : Nat) : Int := kept.foldl (most1 free) 1
def num1 (free : Nat) (m : Int) (v : List Int) (p : Nat × List Int) : List Int := v.set p.1 (0 - (p.2.getD free 0 * m).fdiv (p.2.getD p.1 0))
def numsOf (N : Nat) (kept : Kp) (free : Nat) : List Int := kept.foldl (num1 free (mostOf kept free)) ((List.replicate N 0).set free (mostOf kept free))
def rowC (N : Nat) (p : Nat × List Int) : Bool := okR N p.2 && decide (p.1 < N) && decide (p.2.getD p.1 0 ≠ 0) && decide ((p.2.getD p.1 0).natAbs < 1073741824)
def keptC (N : Nat) (kept : Kp) : Bool := decide (kept.length ≤ 900) && kept.all (rowC N) && (freesOf N kept).all fun f => decide ((gcds (numsOf N kept f)).log2 < 9000)
def spaceOf (n : Nat) (k : Str) : List (List Int) := (freesOf (n * n) (comb (askedOf n k))).map fun f => less (numsOf (n * n) (comb (askedOf n k)) f)
def spaceC (n : Nat) (k : Str) : Bool := (foldB (stepC (n * n)) stepK [] (askedOf n k)).1 && keptC (n * n) (comb (askedOf n k))
theorem nums_len {N : Nat} {free : Nat} {m : Int} : ∀ (kept : Kp) (v : List Int), v.length = N → (kept.foldl (num1 free m) v).length = N
  | [], v, h => h
  | p :: kept, v, h => nums_len kept _ (by simp [num1, h])
theorem gcds_two {a b : Int} (hb : b ≠ 0) : 0 < gcds [a, b] ∧ gcds [a, b] ≤ b.natAbs := by
  have e : gcds [a, b] = Nat.gcd (Nat.gcd 0 a.natAbs) b.natAbs := rfl
  rw [e]
  exact ⟨Nat.gcd_pos_of_pos_right _ (by omega), Nat.gcd_le_right _ (by omega)⟩
abbrev N_space_of : List Str := ["order", "kind", "kept", "found", "leads", "free", "most", "lead", "row", "numbers", "place"]
abbrev P_space_of : List Str := ["order", "kind"]
theorem sc_space_of : FnScope N_space_of P_space_of (defScope s_space_of) := ⟨rfl, rfl, rfl, by decide +kernel, rfl, by decide +kernel, by decide +kernel⟩
def p_space_of : VSp := pr2 fun a b M Q => ∃ (n : Nat) (k : Str), a = .int n ∧ b = .str k ∧ Kd k ∧ 1 ≤ n ∧ n ≤ 9 ∧ spaceC n k = true ∧ ∀ p, M p = none → Q (.obj p) (mupd M p (.lst ((spaceOf n k).map rwD)))
theorem ok_space_of {P : Program} {w : World} {K : PySem.W.Frag} {mg : Str → Option Value} {base : Heap} (hD : Df K mg "space_of" s_space_of) (hB : Fr mg bl) (k_combed : Kn P w K mg base 4 "combed" P_combed p_combed) (k_asked : Kn P w K mg base 2 "asked" P_asked p_asked) (k_divisor : Kn P w K mg base 1 "divisor" P_divisor p_divisor) (k_lessened : Kn P w K mg base 2 "lessened" P_lessened p_lessened) : Kn P w K mg base 5 "space_of" P_space_of p_space_of := by
  have S := sc_space_of
  refine kn_ofD hD sc_space_of (fun _ _ _ _ _ _ us hl => match us, hl with | [_, _], _ => rfl) pr2_len ?_
  intro f cdv A outer s H E hr
  refine ⟨_, (vss_cons (vs_par (i := 2) (j := 3) rfl S.nd rfl rfl (by decide) rfl rfl (va_cons (v_callK k_combed hr (va_cons (v_callK k_asked hr (va_cons (v_var (pv 0)) (va_cons (v_var (pv 1)) va_nil))) va_nil)) (va_cons (v_lstO va_nil) va_nil)) (by rfl)) (vss_cons (vs_set (i := 4) S.nd rfl (Or.inr rfl) (v_lc (own := [("lead", 7), ("row", 8)]) rfl S.nd (vi_seq (v_var (pv 2))) (blkOk_by (by first | rfl | kernel_rfl)) (lcg_tup (n := 2) rfl (lcgs_cons (lcg_name (fun _ _ _ _ _ => pg_name (i := 7) S.nd rfl (by first | exact Or.inl rfl | exact Or.inr rfl))) (lcgs_cons (lcg_name (fun _ _ _ _ _ => pg_name (i := 8) S.nd rfl (by first | exact Or.inl rfl | exact Or.inr rfl))) lcgs_nil))) (fun _ _ _ _ _ => vts_nil) (fun _ _ _ _ _ => (v_var (pv 7))))) (vss_cons (vs_for PassesOwn.never rfl (vi_seq (v_lc (own := [("place", 10)]) rfl S.nd (vi_range1 (hB _ (by decide +kernel)) (va_cons (v_op o_mulI (v_var (pv 0)) (v_var (pv 0))) va_nil)) (blkOk_by (by first | rfl | kernel_rfl)) (lcg_name (fun _ _ _ _ _ => pg_name (i := 10) S.nd rfl (by first | exact Or.inl rfl | exact Or.inr rfl))) (fun _ _ _ _ _ => (vts_one (t_cmp (o_notIn hr.r) (v_var (pv 10)) (v_var (pv 4)) (by with_unfolding_all rfl)))) (fun _ _ _ _ _ => (v_var (pv 10))))) (vg_name (pg_name (i := 5) S.nd rfl (by first | exact Or.inl rfl | exact Or.inr rfl))) (vss_cons (vs_set (i := 6) S.nd rfl (Or.inl rfl) v_int) (vss_cons (vs_for PassesOwn.never rfl (vi_seq (v_var (pv 2))) (vg_tup (n := 2) rfl (vgs_cons (vg_name (pg_name (i := 7) S.nd rfl (by first | exact Or.inl rfl | exact Or.inr rfl))) (vgs_cons (vg_name (pg_name (i := 8) S.nd rfl (by first | exact Or.inl rfl | exact Or.inr rfl))) vgs_nil))) (vss_one (vs_set (i := 6) S.nd rfl (Or.inl rfl) (v_if (t_cmp (o_ne hr.r) (v_ix (v_var (pv 8)) (v_var (pv 5))) v_int (nomark _)) (v_op o_fdiv (v_op o_mulI (v_var (pv 6)) (v_callB c_abs (hB _ (by decide +kernel)) (va_cons (v_ix (v_var (pv 8)) (v_var (pv 7))) va_nil))) (v_callK k_divisor hr (va_cons (v_lst (va_cons (v_var (pv 6)) (va_cons (v_ix (v_var (pv 8)) (v_var (pv 7))) va_nil))) va_nil))) (v_var (pv 6)))))) (vss_cons (vs_set (i := 9) S.nd rfl (Or.inl rfl) (v_op o_repO (v_lst (va_cons v_int va_nil)) (v_op o_mulI (v_var (pv 0)) (v_var (pv 0))))) (vss_cons (vs_asg (v_var (pv 6)) (vg_subL (v_var (pv 9)) (v_var (pv 5)))) (vss_cons (vs_for PassesOwn.never rfl (vi_seq (v_var (pv 2))) (vg_tup (n := 2) rfl (vgs_cons (vg_name (pg_name (i := 7) S.nd rfl (by first | exact Or.inl rfl | exact Or.inr rfl))) (vgs_cons (vg_name (pg_name (i := 8) S.nd rfl (by first | exact Or.inl rfl | exact Or.inr rfl))) vgs_nil))) (vss_one (vs_asg (v_op o_sub v_int (v_op o_fdivN (v_op o_mulI (v_ix (v_var (pv 8)) (v_var (pv 5))) (v_var (pv 6))) (v_ix (v_var (pv 8)) (v_var (pv 7))))) (vg_subL (v_var (pv 9)) (v_var (pv 7)))))) (vss_one (vs_expr (v_append (v_var (pv 3)) (va_cons (v_callK k_lessened hr (va_cons (v_var (pv 9)) va_nil)) va_nil)))))))))) (vss_one (vs_ret (v_var (pv 3))))))), ?_⟩
  clear hr S
  rintro _ M Q ⟨x0, x1, rfl, h⟩
  rw [show vstart N_space_of.length [x0, x1] = [some x0, some x1, none, none, none, none, none, none, none, none, none] from rfl]
  obtain ⟨n, k, rfl, rfl, hk, n1, n9, hc, h⟩ := h
  have sz := size1000
  have nn : n * n ≤ 81 := Nat.le_trans (Nat.mul_le_mul n9 n9) (by decide)
  have nn2 : (n : Int) * (n : Int) = ((n * n : Nat) : Int) := by simp
  unfold spaceC at hc
  rw [Bool.and_eq_true] at hc
  obtain ⟨hc1, hc2⟩ := hc
  simp
  refine pr2_at.mpr ⟨n, k, rfl, rfl, hk, n1, n9, fun p hp => ?_⟩
  refine pr1_at.mpr ⟨n * n, askedOf n k, by simp [asI, asL_obj (mupd_same)], by omega, hc1, ?_⟩
  intro q hq
  refine ⟨_, _, ⟨rfl, rfl⟩, ?_⟩
  unfold spaceOf at h
  generalize comb (askedOf n k) = kept at *
  simp only [keptC, Bool.and_eq_true, decide_eq_true_eq, List.all_eq_true] at hc2
  obtain ⟨⟨kl, krow⟩, kfree⟩ := hc2
  have row : ∀ p ∈ kept, p.2.length = n * n ∧ Sml p.2 ∧ p.1 < n * n ∧ p.2.getD p.1 0 ≠ 0 ∧ (p.2.getD p.1 0).natAbs < 1073741824 := fun p hp => by
    have := krow p hp
    simp only [rowC, Bool.and_eq_true, decide_eq_true_eq] at this
    obtain ⟨⟨⟨a, b⟩, c⟩, d⟩ := this
    exact ⟨(okR_i a).1, (okR_i a).2, b, c, d⟩
  generalize hM1 : mupd M p (MO.lst ((askedOf n k).map rwD)) = M1 at *
  have hqp : q ≠ p := fun e => by subst e; rw [← hM1, mupd_same] at hq; cases hq
  have hMq : M q = none := by rw [← hM1, mupd_ne hqp] at hq; exact hq
  have sub1 : VL.Sub M M1 := by rw [← hM1]; exact VL.Sub.new hp
  refine vLc_al kept kpD (fun p => .int p.1) (w := ⟨kept.map kpD, fun M' => asI M' (.lst (kept.map kpD)) = some (kept.map kpD)⟩) (fun R r => ?_) rfl rfl (by omega) (fun p hp A hA => ?_) ?_
  · simpa using r
  · simp [vwipe, kpD]
    exact hA
  have e64 : -4611686018427387904 ≤ (n : Int) * n ∧ (n : Int) * n < 4611686018427387904 := by rw [nn2]; omega
  have mk : VL.MulOk (n : Int) (n : Int) := .inl (by omega)
  have fl : (freesOf (n * n) kept).length ≤ 81 := by
    unfold freesOf
    exact Nat.le_trans (List.length_filter_le _ _) (by simpa using nn)
  have ff : ∀ f ∈ freesOf (n * n) kept, f < n * n := fun f hf => by
    unfold freesOf at hf
    exact List.mem_range.mp (List.mem_filter.mp hf).1
  refine sFor_al (freesOf (n * n) kept) (fun (i : Nat) => D.int (0 + (i : Int))) (fun i e M2 => VL.Sub (mupd M1 q (.lst ((((freesOf (n * n) kept).take i).map fun f => less (numsOf (n * n) kept f)).map rwD))) M2 ∧ ∃ y5 y6 y7 y8 y9 y10, e = [some (.int n), some (.str k), some (.lst (kept.map kpD)), some (.obj q), some (.lst (kept.map fun p => .int p.1)), y5, y6, y7, y8, y9, y10]) (w := ⟨(freesOf (n * n) kept).map fun (i : Nat) => D.int (0 + (i : Int)), fun M' => asI M' (.lst ((freesOf (n * n) kept).map fun (i : Nat) => D.int (0 + (i : Int)))) = some ((freesOf (n * n) kept).map fun (i : Nat) => D.int (0 + (i : Int)))⟩) (fun R r => ?_) rfl ⟨VL.Sub.refl, _, _, _, _, _, _, rfl⟩ (fun _ _ _ _ _ => rfl) (fun i f e M2 hxi hi hp => ?_) (fun e M2 hp => ?_)
  · show vLc _ _ _ _ _ _ _ _
    refine vLc_alF (List.range (n * n)) (fun (i : Nat) => D.int (0 + (i : Int))) (fun i => !leadIn kept i) (fun (i : Nat) => D.int (0 + (i : Int))) (w := ⟨_, fun _ => True⟩) (fun R r => ?_) rfl trivial (by simp; omega) (fun i hi A B hA hB => ?_) ?_
    · simp
      refine ⟨mk, by omega, by omega, ?_⟩
      have e2 : ((n : Int) * (n : Int)).toNat = n * n := by rw [nn2]; rfl
      rw [e2]
      simpa [rgD] using r
    · simp at hA hB
      simp [vwipe]
      refine ⟨_, rfl, sh_int, fun z hz => by obtain ⟨y, _, rfl⟩ := List.mem_map.mp hz; exact sh_int, ?_⟩
      rw [inD_map]
      unfold leadIn at hA hB
      cases hz : kept.any fun y => decide ((y.1 : Int) = (i : Int)) with
      | true => simpa [hz] using hB hz
      | false => simpa [hz] using hA hz
    · exact ⟨_, rfl, r⟩
  · obtain ⟨hs, y5, y6, y7, y8, y9, y10, rfl⟩ := hp
    have hMq2 := hs q _ mupd_same
    have hf := ff f (List.mem_of_getElem? hxi)
    have tk : (freesOf (n * n) kept).take (i + 1) = (freesOf (n * n) kept).take i ++ [f] := by
      rw [List.take_add_one, hxi] <;> rfl
    rw [tk]
    have il : i ≤ 81 := by omega
    have hfs := kfree f (List.mem_of_getElem? hxi)
    have dl : ((freesOf (n * n) kept).take i).length ≤ 81 := by rw [List.length_take]; omega
    generalize (freesOf (n * n) kept).take i = done at *
    simp only [List.map_append, List.map_cons, List.map_nil]
    generalize hDone : (done.map fun f => less (numsOf (n * n) kept f)).map rwD = dones at *
    simp
    refine sFor_al kept kpD (fun j e M3 => M3 = M2 ∧ ∃ y7 y8, e = [some (.int n), some (.str k), some (.lst (kept.map kpD)), some (.obj q), some (.lst (kept.map fun p => .int p.1)), some (.int f), some (.int ((kept.take j).foldl (most1 f) 1)), y7, y8, y9, y10]) (w := ⟨kept.map kpD, fun M' => asI M' (.lst (kept.map kpD)) = some (kept.map kpD)⟩) (fun R r => ?_) rfl ⟨rfl, _, _, rfl⟩ (fun _ _ _ _ _ => rfl) (fun j c e M3 hxj hj hp => ?_) (fun e M3 hp => ?_)
    · simpa using r
    · obtain ⟨rfl, y7, y8, rfl⟩ := hp
      obtain ⟨r1, r2, r3, r4, r5⟩ := row c (List.mem_of_getElem? hxj)
      rw [foldl_take _ _ hxj]
      generalize (kept.take j).foldl (most1 f) 1 = m at *
      have e1 := col_at (r := c.2) r1 (j := (f : Int)) (by omega) (by omega)
      have e2 := col_at (r := c.2) r1 (j := (c.1 : Int)) (by omega) (by omega)
      obtain ⟨g1, g2⟩ := gcds_two (a := m) r4
      simp only [Int.toNat_natCast] at e1 e2
      simp only [List.getD_eq_getElem?_getD] at r4 r5 g1 g2
      have lg : (gcds [m, c.2[c.1]?.getD 0]).log2 < 9000 := by
        have : (gcds [m, c.2[c.1]?.getD 0]).log2 < 30 := (Nat.log2_lt (by omega)).mpr (Nat.lt_of_le_of_lt g2 r5)
        omega
      simp [kpD, e1, e2]
      by_cases z : c.2[f]?.getD 0 = 0
      · exact .inl ⟨z, by simp [most1, z]⟩
      · refine .inr ⟨z, ?_, ?_⟩
        · rw [abs_nat]
          exact .inr (.inl (by omega))
        · refine pr1_at.mpr ⟨[m, c.2[c.1]?.getD 0], rfl, ?_⟩
          refine ⟨_, rfl, ⟨by omega, lg⟩, rfl, ?_⟩
          rw [abs_nat]
          simp [most1, z]
    · obtain ⟨rfl, y7, y8, rfl⟩ := hp
      simp only [List.take_length]
      rw [show kept.foldl (most1 f) 1 = mostOf kept f from rfl]
      unfold numsOf at hfs ⊢
      generalize mostOf kept f = m at *
      have e2 : ((n : Int) * (n : Int)).toNat = n * n := by rw [nn2]; rfl
      simp
      refine ⟨mk, [D.int 0], _, rfl, rfl, by omega, by omega, by rw [e2]; simp; omega, fun z hz => ?_⟩
      rw [e2, List.flatten_replicate_singleton]
      have ez : ∀ j : Nat, j < n * n → ixN ((List.replicate (n * n) 0).set f m).length (j : Int) = some j := fun j hj => ixN_lt (by simpa using hj)
      refine ⟨z, rfl, _, mupd_same, f, ixN_lt (by simpa using hf), ?_⟩
      have hqz : q ≠ z := fun e => by subst e; rw [hMq2] at hz; cases hz
      have nl : ∀ j, ((kept.take j).foldl (num1 f m) ((List.replicate (n * n) 0).set f m)).length = n * n := fun j => nums_len _ _ (by simp)
      have nl' := nums_len (N := n * n) (free := f) (m := m) kept ((List.replicate (n * n) 0).set f m) (by simp)
      refine sFor_al kept kpD (fun j e M4 => M4 = mupd M3 z (.lst (((kept.take j).foldl (num1 f m) ((List.replicate (n * n) 0).set f m)).map D.int)) ∧ ∃ y7 y8, e = [some (.int n), some (.str k), some (.lst (kept.map kpD)), some (.obj q), some (.lst (kept.map fun p => .int p.1)), some (.int f), some (.int m), y7, y8, some (.obj z), y10]) (w := ⟨kept.map kpD, fun M' => asI M' (.lst (kept.map kpD)) = some (kept.map kpD)⟩) (fun R r => ?_) rfl ⟨?_, _, _, rfl⟩ (fun _ _ _ _ _ => rfl) (fun j c e M4 hxj hj hp => ?_) (fun e M4 hp => ?_)
      · simpa using r
      · rw [mupd_mupd]
        simp [List.map_set]
      · obtain ⟨rfl, y7, y8, rfl⟩ := hp
        obtain ⟨r1, r2, r3, r4, r5⟩ := row c (List.mem_of_getElem? hxj)
        rw [foldl_take _ _ hxj]
        have nlj := nl j
        generalize (kept.take j).foldl (num1 f m) ((List.replicate (n * n) 0).set f m) = v at *
        have e1 := col_at (r := c.2) r1 (j := (f : Int)) (by omega) (by omega)
        have e2 := col_at (r := c.2) r1 (j := (c.1 : Int)) (by omega) (by omega)
        simp only [Int.toNat_natCast] at e1 e2
        have sm := r2 (c.2.getD f 0) (by rw [List.getD_eq_getElem?_getD, List.getElem?_eq_getElem (by omega)]; exact List.getElem_mem _)
        simp only [List.getD_eq_getElem?_getD] at r4 r5 sm
        simp [kpD, e1, e2]
        refine ⟨.inl sm, ⟨r4, r5⟩, c.1, ixN_lt (by omega), ?_⟩
        simp [num1, List.map_set]
      · obtain ⟨rfl, y7, y8, rfl⟩ := hp
        simp only [List.take_length]
        simp
        have hMz : mupd M3 z (.lst ((kept.foldl (num1 f m) ((List.replicate (n * n) 0).set f m)).map D.int)) q = some (.lst dones) := by rw [mupd_ne hqz]; exact hMq2
        refine ⟨⟨_, hMz⟩, pr1_at.mpr ⟨kept.foldl (num1 f m) ((List.replicate (n * n) 0).set f m), by simp [asI, asL_obj (mupd_same)], by omega, hfs, _, hMz, by rw [← hDone]; simp; omega, ?_⟩⟩
        have e3 := hs.trans (VL.Sub.new (o := .lst ((kept.foldl (num1 f m) ((List.replicate (n * n) 0).set f m)).map D.int)) hz)
        have e4 := VL.Sub.both (p := q) (o := .lst (dones ++ [rwD (less (kept.foldl (num1 f m) ((List.replicate (n * n) 0).set f m)))])) e3
        rw [mupd_mupd] at e4
        exact e4
  · obtain ⟨hs, y5, y6, y7, y8, y9, y10, rfl⟩ := hp
    simp only [List.take_length] at hs
    simp
    exact ⟨_, VL.Sub.trans (VL.Sub.both sub1) hs, h q hMq⟩
end K46
namespace K46
open PySem PySem.Spec L2 VL
abbrev N_check_two : List Str := ["one", "other"]
abbrev P_check_two : List Str := ["one", "other"]
theorem sc_check_two : FnScope N_check_two P_check_two (defScope s_check_two) := ⟨rfl, rfl, rfl, by decide +kernel, rfl, by decide +kernel, by decide +kernel⟩
def p_check_two : VSp := pr2 fun a b M Q => ∃ m k, a = sqD m ∧ b = sqD k ∧ Sq m.length m ∧ Sq m.length k ∧ Q .non M
theorem ok_check_two {P : Program} {w : World} {K : PySem.W.Frag} {mg : Str → Option Value} {base : Heap} (hD : Df K mg "check_two" s_check_two) (hB : Fr mg bl) (k_check_square : Kn P w K mg base 5 "check_square" P_check_square p_check_square) : Kn P w K mg base 6 "check_two" P_check_two p_check_two := by
  have S := sc_check_two
  refine kn_of hD sc_check_two (fun _ _ _ _ _ _ us hl => match us, hl with | [_, _], _ => rfl) pr2_len ?_
  intro f cdv A outer s H E hr
  refine ⟨_, (vss_cons (vs_expr (v_callK k_check_square hr (va_cons (v_var (pv 0)) va_nil))) (vss_cons (vs_expr (v_callK k_check_square hr (va_cons (v_var (pv 1)) va_nil))) (vss_one (vs_if (t_cmp (o_ne hr.r) (v_callB c_len (hB _ (by decide +kernel)) (va_cons (v_var (pv 0)) va_nil)) (v_callB c_len (hB _ (by decide +kernel)) (va_cons (v_var (pv 1)) va_nil)) (nomark _)) vss_never vss_nil)))), ?_⟩
  clear hr S
  rintro _ M Q ⟨x0, x1, rfl, h⟩
  rw [show vstart N_check_two.length [x0, x1] = [some x0, some x1] from rfl]
  obtain ⟨m, k, rfl, rfl, hm, hk, h⟩ := h
  simp
  refine pr1_at.mpr ⟨m, rfl, hm, ?_⟩
  refine pr1_at.mpr ⟨k, rfl, by rw [hk.2.2.1]; exact hk, ?_⟩
  have := hk.2.2.1
  simpa [sqD, this] using h
def addM (a b : List (List Int)) : List (List Int) := (a.zip b).map fun p => (p.1.zip p.2).map fun q => q.1 + q.2
abbrev N_sum_of : List Str := ["one", "other", "rows", "row", "its", "here", "there"]
abbrev P_sum_of : List Str := ["one", "other"]
theorem sc_sum_of : FnScope N_sum_of P_sum_of (defScope s_sum_of) := ⟨rfl, rfl, rfl, by decide +kernel, rfl, by decide +kernel, by decide +kernel⟩
def p_sum_of : VSp := pr2 fun a b M Q => ∃ m k, a = sqD m ∧ b = sqD k ∧ Sq m.length m ∧ Sq m.length k ∧ Q (sqD (addM m k)) M
theorem ok_sum_of {P : Program} {w : World} {K : PySem.W.Frag} {mg : Str → Option Value} {base : Heap} (hD : Df K mg "sum_of" s_sum_of) (hB : Fr mg bl) : Kn P w K mg base 1 "sum_of" P_sum_of p_sum_of := by
  have S := sc_sum_of
  refine kn_of hD sc_sum_of (fun _ _ _ _ _ _ us hl => match us, hl with | [_, _], _ => rfl) pr2_len ?_
  intro f cdv A outer s H E hr
  refine ⟨_, (vss_cons (vs_set (i := 2) S.nd rfl (Or.inl rfl) (v_callTy c_zipN (hB _ (by decide +kernel)) (va_cons (v_var (pv 0)) (va_cons (v_var (pv 1)) va_nil)))) (vss_one (vs_ret (v_callTy c_tuple (hB _ (by decide +kernel)) (va_cons (v_lc (own := [("row", 3), ("its", 4)]) rfl S.nd (vi_zipN (pv 2)) (blkOk_by (by first | rfl | kernel_rfl)) (lcg_tup (n := 2) rfl (lcgs_cons (lcg_name (fun _ _ _ _ _ => pg_name (i := 3) S.nd rfl (by first | exact Or.inl rfl | exact Or.inr rfl))) (lcgs_cons (lcg_name (fun _ _ _ _ _ => pg_name (i := 4) S.nd rfl (by first | exact Or.inl rfl | exact Or.inr rfl))) lcgs_nil))) (fun _ _ _ _ _ => vts_nil) (fun _ _ _ _ _ => (v_callTy c_tuple (hB _ (by decide +kernel)) (va_cons (v_lc (own := [("here", 5), ("there", 6)]) rfl S.nd (vi_zip (hB _ (by decide +kernel)) (va_cons (v_var (pv 3)) (va_cons (v_var (pv 4)) va_nil))) (blkOk_by (by first | rfl | kernel_rfl)) (lcg_tup (n := 2) rfl (lcgs_cons (lcg_name (fun _ _ _ _ _ => pg_name (i := 5) S.nd rfl (by first | exact Or.inl rfl | exact Or.inr rfl))) (lcgs_cons (lcg_name (fun _ _ _ _ _ => pg_name (i := 6) S.nd rfl (by first | exact Or.inl rfl | exact Or.inr rfl))) lcgs_nil))) (fun _ _ _ _ _ => vts_nil) (fun _ _ _ _ _ => (v_op o_add (v_var (pv 5)) (v_var (pv 6))))) va_nil)))) va_nil))))), ?_⟩
  clear hr S
  rintro _ M Q ⟨x0, x1, rfl, h⟩
  rw [show vstart N_sum_of.length [x0, x1] = [some x0, some x1, none, none, none, none, none] from rfl]
  obtain ⟨m, k, rfl, rfl, hm, hk, h⟩ := h
  obtain ⟨q1, q2, q3, q4, q5⟩ := id hm
  obtain ⟨k1, k2, k3, k4, k5⟩ := id hk
  have sz := size1000
  simp [sqD]
  refine ⟨_, _, ⟨rfl, rfl⟩, fun b hb => ?_⟩
  refine vLc_of ⟨M, b, _, _, rfl, rfl, hb, ?_⟩
  refine lcEx_al (m.zip k) (fun p => .tup [.tup (p.1.map D.int), .tup (p.2.map D.int)]) (fun p => .tup ((p.1.zip p.2).map fun q => .int (q.1 + q.2))) ?_ trivial (by simp; omega) (fun p hp A hA => ?_) ?_
  · unfold zipD
    rw [List.zip_map, List.map_map]
    rfl
  · have hm1 := List.of_mem_zip (show (p.1, p.2) ∈ m.zip k from hp)
    have l1 := q4 _ hm1.1
    have l2 := k4 _ hm1.2
    simp [vwipe]
    refine vLc_al (p.1.zip p.2) (fun q => .tup [.int q.1, .int q.2]) (fun q => .int (q.1 + q.2)) (w := ⟨zipD (p.1.map D.int) (p.2.map D.int), fun _ => True⟩) (fun R r => ?_) ?_ trivial (by simp; omega) (fun q hq B hB => ?_) ?_
    · simp
      exact ⟨_, _, ⟨rfl, rfl⟩, _, _, .inr ⟨rfl, rfl, r⟩⟩
    · unfold zipD
      rw [List.zip_map, List.map_map]
      rfl
    · simp [vwipe]
      exact hB
    · simp [rTuple, asI]
      simpa using hA
  · simp [rTuple, asI]
    simpa [sqD, addM, Function.comp_def] using h
theorem addM_sq {m k : List (List Int)} (hm : Sq m.length m) (hk : Sq m.length k) (h : ∀ r ∈ addM m k, ∀ x ∈ r, -1000000000 ≤ x ∧ x ≤ 1000000000) : Sq m.length (addM m k) ∧ (addM m k).length = m.length := by
  obtain ⟨q1, q2, q3, q4, q5⟩ := id hm
  obtain ⟨k1, k2, k3, k4, k5⟩ := id hk
  have hl : (addM m k).length = m.length := by simp [addM, k3]
  refine ⟨⟨q1, q2, hl, fun r hr => ?_, h⟩, hl⟩
  obtain ⟨p, hp, rfl⟩ := List.mem_map.mp hr
  have hm1 := List.of_mem_zip (show (p.1, p.2) ∈ m.zip k from hp)
  have l1 := q4 _ hm1.1
  have l2 := k4 _ hm1.2
  simp [l1, l2]
abbrev N_added : List Str := ["one", "other"]
abbrev P_added : List Str := ["one", "other"]
theorem sc_added : FnScope N_added P_added (defScope s_added) := ⟨rfl, rfl, rfl, by decide +kernel, rfl, by decide +kernel, by decide +kernel⟩
def p_added : VSp := pr2 fun a b M Q => ∃ m k, a = sqD m ∧ b = sqD k ∧ Sq m.length m ∧ Sq m.length k ∧ (∀ r ∈ addM m k, ∀ x ∈ r, -1000000000 ≤ x ∧ x ≤ 1000000000) ∧ Q (sqD (addM m k)) M
theorem ok_added {P : Program} {w : World} {K : PySem.W.Frag} {mg : Str → Option Value} {base : Heap} (hD : Df K mg "added" s_added) (hB : Fr mg bl) (k_check_two : Kn P w K mg base 6 "check_two" P_check_two p_check_two) (k_let : Kn P w K mg base 5 "let" P_let p_let) (k_sum_of : Kn P w K mg base 1 "sum_of" P_sum_of p_sum_of) : Kn P w K mg base 7 "added" P_added p_added := by
  have S := sc_added
  refine kn_of hD sc_added (fun _ _ _ _ _ _ us hl => match us, hl with | [_, _], _ => rfl) pr2_len ?_
  intro f cdv A outer s H E hr
  refine ⟨_, (vss_cons (vs_expr (v_callK k_check_two hr (va_cons (v_var (pv 0)) (va_cons (v_var (pv 1)) va_nil)))) (vss_one (vs_ret (v_callK k_let hr (va_cons (v_callK k_sum_of hr (va_cons (v_var (pv 0)) (va_cons (v_var (pv 1)) va_nil))) va_nil))))), ?_⟩
  clear hr S
  rintro _ M Q ⟨x0, x1, rfl, h⟩
  rw [show vstart N_added.length [x0, x1] = [some x0, some x1] from rfl]
  obtain ⟨m, k, rfl, rfl, hm, hk, hb, h⟩ := h
  simp
  refine pr2_at.mpr ⟨m, k, rfl, rfl, hm, hk, ?_⟩
  refine pr2_at.mpr ⟨m, k, rfl, rfl, hm, hk, ?_⟩
  obtain ⟨h1, h2⟩ := addM_sq hm hk hb
  exact pr1_at.mpr ⟨_, rfl, by rw [h2]; exact h1, h⟩
end K46
namespace K46
open PySem PySem.Spec L2 VL
theorem cut_both {α : Type} (xs : List α) (a b : Nat) (h : a + b ≤ xs.length) : cutD xs (some (a : Int)) (some ((a : Int) + (b : Int))) = (xs.drop a).take b := by
  unfold cutD
  have e1 : HT.sIx xs.length 0 (some (a : Int)) = min a xs.length := HT.sIx_nat _ _ _
  have e2 : HT.sIx xs.length xs.length (some ((a : Int) + (b : Int))) = min (a + b) xs.length := HT.sIx_nat _ _ (a + b)
  rw [e1, e2, Nat.min_eq_left h, Nat.min_eq_left (show a ≤ xs.length by omega), Nat.add_sub_cancel_left]
def sqBy (n : Nat) (xs : List Int) : List (List Int) := (List.range n).map fun i => (xs.drop (n * i)).take n
abbrev N_square_by : List Str := ["order", "numbers", "row"]
abbrev P_square_by : List Str := ["order", "numbers"]
theorem sc_square_by : FnScope N_square_by P_square_by (defScope s_square_by) := ⟨rfl, rfl, rfl, by decide +kernel, rfl, by decide +kernel, by decide +kernel⟩
def p_square_by : VSp := pr2 fun a b M Q => ∃ (n : Nat) (xs : List Int), a = .int n ∧ b = .lst (xs.map D.int) ∧ n ≤ 9 ∧ xs.length = n * n ∧ Q (sqD (sqBy n xs)) M
theorem ok_square_by {P : Program} {w : World} {K : PySem.W.Frag} {mg : Str → Option Value} {base : Heap} (hD : Df K mg "square_by" s_square_by) (hB : Fr mg bl) : Kn P w K mg base 1 "square_by" P_square_by p_square_by := by
  have S := sc_square_by
  refine kn_of hD sc_square_by (fun _ _ _ _ _ _ us hl => match us, hl with | [_, _], _ => rfl) pr2_len ?_
  intro f cdv A outer s H E hr
  refine ⟨_, (vss_one (vs_ret (v_callTy c_tuple (hB _ (by decide +kernel)) (va_cons (v_lc (own := [("row", 2)]) rfl S.nd (vi_range1 (hB _ (by decide +kernel)) (va_cons (v_var (pv 0)) va_nil)) (blkOk_by (by first | rfl | kernel_rfl)) (lcg_name (fun _ _ _ _ _ => pg_name (i := 2) S.nd rfl (by first | exact Or.inl rfl | exact Or.inr rfl))) (fun _ _ _ _ _ => vts_nil) (fun _ _ _ _ _ => (v_callTy c_tuple (hB _ (by decide +kernel)) (va_cons (v_sl (v_var (pv 1)) (vo_some (v_op o_mulI (v_var (pv 0)) (v_var (pv 2)))) (vo_some (v_op o_add (v_op o_mulI (v_var (pv 0)) (v_var (pv 2))) (v_var (pv 0))))) va_nil)))) va_nil)))), ?_⟩
  clear hr S
  rintro _ M Q ⟨x0, x1, rfl, h⟩
  rw [show vstart N_square_by.length [x0, x1] = [some x0, some x1, none] from rfl]
  obtain ⟨n, xs, rfl, rfl, n9, hl, h⟩ := h
  have sz := size1000
  have b64 : -4611686018427387904 ≤ (n : Int) ∧ (n : Int) < 4611686018427387904 := by omega
  simp
  refine vLc_al (List.range n) (fun i => .int (0 + ((i : Nat) : Int))) (fun (i : Nat) => .tup (((xs.drop (n * i)).take n).map D.int)) (w := ⟨_, fun _ => True⟩) (fun R r => ?_) rfl trivial (by simp; omega) (fun i hi A hA => ?_) ?_
  · simpa [rgD, b64] using r
  · have i1 := List.mem_range.mp hi
    have i2 : n * i + n ≤ n * n := by
      have := Nat.mul_le_mul_left n (show i + 1 ≤ n by omega)
      rw [Nat.mul_add, Nat.mul_one] at this
      exact this
    have mk : VL.MulOk (n : Int) (i : Int) := .inl (by omega)
    have e := cut_both (xs.map D.int) (n * i) n (by rw [List.length_map, hl]; exact i2)
    have e3 : ((n * i : Nat) : Int) = (n : Int) * (i : Int) := by simp
    rw [e3] at e
    simp [vwipe, oSl, asL, e, rTuple, asI]
    refine ⟨mk, ?_⟩
    simpa [List.map_take, List.map_drop] using hA
  · simp [rTuple, asI]
    simpa [sqD, sqBy, Function.comp_def] using h
def baseOf (n : Nat) (k : Str) : List (List (List Int)) := (spaceOf n k).map (sqBy n)
theorem less_len {xs : List Int} : (less xs).length = xs.length := by
  unfold less
  split
  · rw [List.length_map]
  · rfl
theorem freesOf_len {N : Nat} {kept : Kp} : (freesOf N kept).length ≤ N := by
  unfold freesOf
  exact Nat.le_trans (List.length_filter_le _ _) (by simp)
theorem spaceOf_len {n : Nat} {k : Str} : (spaceOf n k).length ≤ n * n ∧ ∀ xs ∈ spaceOf n k, xs.length = n * n := by
  unfold spaceOf
  refine ⟨by rw [List.length_map]; exact freesOf_len, fun xs h => ?_⟩
  obtain ⟨f, _, rfl⟩ := List.mem_map.mp h
  rw [less_len]
  exact nums_len _ _ (by simp)
abbrev N_space_base : List Str := ["order", "kind", "numbers"]
abbrev P_space_base : List Str := ["order", "kind"]
theorem sc_space_base : FnScope N_space_base P_space_base (defScope s_space_base) := ⟨rfl, rfl, rfl, by decide +kernel, rfl, by decide +kernel, by decide +kernel⟩
def p_space_base : VSp := pr2 fun a b M Q => ∃ (n : Nat) (k : Str), a = .int n ∧ b = .str k ∧ Kd k ∧ 1 ≤ n ∧ n ≤ 9 ∧ spaceC n k = true ∧ Q (.tup ((baseOf n k).map sqD)) M
theorem ok_space_base {P : Program} {w : World} {K : PySem.W.Frag} {mg : Str → Option Value} {base : Heap} (hD : Df K mg "space_base" s_space_base) (hB : Fr mg bl) (k_check_order : Kn P w K mg base 3 "check_order" P_check_order p_check_order) (k_check_kind : Kn P w K mg base 1 "check_kind" P_check_kind p_check_kind) (k_space_of : Kn P w K mg base 5 "space_of" P_space_of p_space_of) (k_square_by : Kn P w K mg base 1 "square_by" P_square_by p_square_by) : Kn P w K mg base 6 "space_base" P_space_base p_space_base := by
  have S := sc_space_base
  refine kn_ofD hD sc_space_base (fun _ _ _ _ _ _ us hl => match us, hl with | [_, _], _ => rfl) pr2_len ?_
  intro f cdv A outer s H E hr
  refine ⟨_, (vss_cons (vs_expr (v_callK k_check_order hr (va_cons (v_var (pv 0)) va_nil))) (vss_cons (vs_expr (v_callK k_check_kind hr (va_cons (v_var (pv 1)) va_nil))) (vss_one (vs_ret (v_callTy c_tuple (hB _ (by decide +kernel)) (va_cons (v_lc (own := [("numbers", 2)]) rfl S.nd (vi_seq (v_callK k_space_of hr (va_cons (v_var (pv 0)) (va_cons (v_var (pv 1)) va_nil)))) (blkOk_by (by first | rfl | kernel_rfl)) (lcg_name (fun _ _ _ _ _ => pg_name (i := 2) S.nd rfl (by first | exact Or.inl rfl | exact Or.inr rfl))) (fun _ _ _ _ _ => vts_nil) (fun _ _ _ _ _ => (v_callK k_square_by hr (va_cons (v_var (pv 0)) (va_cons (v_var (pv 2)) va_nil))))) va_nil)))))), ?_⟩
  clear hr S
  rintro _ M Q ⟨x0, x1, rfl, h⟩
  rw [show vstart N_space_base.length [x0, x1] = [some x0, some x1, none] from rfl]
  obtain ⟨n, k, rfl, rfl, hk, n1, n9, hc, h⟩ := h
  have sz := size1000
  have nn : n * n ≤ 81 := Nat.le_trans (Nat.mul_le_mul n9 n9) (by decide)
  obtain ⟨l1, l2⟩ := spaceOf_len (n := n) (k := k)
  simp
  refine pr1_at.mpr ⟨n, rfl, n1, n9, ?_⟩
  refine pr1_at.mpr ⟨k, rfl, hk, ?_⟩
  refine vLc_of ?_
  simp only [iSeq, vFn, vaCons, vaNil, vVar]
  simp
  refine pr2_at.mpr ⟨n, k, rfl, rfl, hk, n1, n9, hc, fun p hp => ?_⟩
  have hp' : mupd M p (.lst ((spaceOf n k).map rwD)) p = some (.lst ((spaceOf n k).map rwD)) := mupd_same
  refine ⟨(spaceOf n k).map rwD, by simp [asI, asL_obj hp'], ?_⟩
  refine lcEx_al (spaceOf n k) rwD (fun xs => sqD (sqBy n xs)) rfl (by simp [asI, asL_obj hp']) (by omega) (fun xs hx A hA => ?_) ?_
  · simp [vwipe]
    exact pr2_at.mpr ⟨n, xs, rfl, rfl, n9, l2 xs hx, hA⟩
  · simp [rTuple, asI]
    exact ⟨M, VL.Sub.new hp, by simpa [baseOf, Function.comp_def] using h⟩
end K46
namespace K46
open PySem PySem.Spec L2 VL
/-- rows from their end, the last of what waits at the head -/
def nextR (n : Nat) (r : List Nat) : List (List Nat) := ((List.range n).filter fun c => !r.any fun y => Nat.beq y c).map (· :: r)
def goodR (n : Nat) (row : List Nat) : Bool := Nat.beq ((List.range n).filter fun i => Nat.beq i (row.getD i 0)).length 1 && Nat.beq ((List.range n).filter fun i => Nat.beq (i + row.getD i 0 + 1) n).length 1
def simP (n : Nat) : Nat → List (List Nat) → Option (List Nat)
  | 0, _ => none
  | _ + 1, [] => none
  | k + 1, r :: t => bif Nat.beq r.length n then (bif goodR n r.reverse then some r.reverse else simP n k t) else simP n k ((nextR n r).reverse ++ t)
def plOf (n : Nat) : List Nat := match n with
  | 4 => [3, 1, 0, 2]
  | 5 => [4, 2, 0, 3, 1]
  | 6 => [5, 3, 2, 4, 0, 1]
  | 7 => [6, 4, 3, 2, 0, 5, 1]
  | 8 => [7, 5, 6, 3, 2, 4, 0, 1]
  | 9 => [8, 6, 7, 4, 3, 5, 1, 0, 2]
  | _ => []
theorem pl4 : simP 4 13 [[]] = some (plOf 4) := by decide +kernel
theorem pl5 : simP 5 33 [[]] = some (plOf 5) := by decide +kernel
theorem pl6 : simP 6 91 [[]] = some (plOf 6) := by decide +kernel
theorem pl7 : simP 7 426 [[]] = some (plOf 7) := by decide +kernel
theorem pl8 : simP 8 2050 [[]] = some (plOf 8) := by decide +kernel
theorem pl9 : simP 9 14109 [[]] = some (plOf 9) := by decide +kernel
theorem pl_all {n : Nat} (h4 : 4 ≤ n) (h9 : n ≤ 9) : ∃ k, k ≤ 15000 ∧ simP n k [[]] = some (plOf n) := by
  have : n = 4 ∨ n = 5 ∨ n = 6 ∨ n = 7 ∨ n = 8 ∨ n = 9 := by omega
  rcases this with rfl | rfl | rfl | rfl | rfl | rfl
  · exact ⟨_, by decide, pl4⟩
  · exact ⟨_, by decide, pl5⟩
  · exact ⟨_, by decide, pl6⟩
  · exact ⟨_, by decide, pl7⟩
  · exact ⟨_, by decide, pl8⟩
  · exact ⟨_, by decide, pl9⟩
end K46
namespace K46
open PySem PySem.Spec L2 VL
def nrow (r : List Nat) : D := .tup (r.map fun c => D.int (c : Nat))
theorem nextR_len {n : Nat} {r : List Nat} : (nextR n r).length ≤ n := by
  unfold nextR
  rw [List.length_map]
  exact Nat.le_trans (List.length_filter_le _ _) (by simp)
theorem nextR_row {n : Nat} {r x : List Nat} (h : x ∈ nextR n r) : x.length = r.length + 1 := by
  unfold nextR at h
  obtain ⟨c, _, rfl⟩ := List.mem_map.mp h
  rfl
theorem enD_nats (xs : List Nat) : enD (xs.map fun c => D.int (c : Nat)) = (List.range xs.length).map fun (i : Nat) => .tup [.int (i : Nat), .int ((xs.getD i 0 : Nat) : Int)] := by
  unfold enD
  rw [List.length_map]
  refine List.map_congr_left fun i hi => ?_
  have := List.mem_range.mp hi
  simp [this]
theorem sh_nrow {n : Nat} {r : List Nat} : Sh (n + 1) (nrow r) := fun x hx => by
  obtain ⟨c, _, rfl⟩ := List.mem_map.mp hx
  exact sh_int
abbrev N_places_for : List Str := ["order", "waiting", "row", "downs", "at", "column"]
abbrev P_places_for : List Str := ["order"]
theorem sc_places_for : FnScope N_places_for P_places_for (defScope s_places_for) := ⟨rfl, rfl, rfl, by decide +kernel, rfl, by decide +kernel, by decide +kernel⟩
def p_places_for : VSp := pr1 fun a M Q => ∃ n : Nat, a = .int n ∧ 4 ≤ n ∧ n ≤ 9 ∧ Q (nrow (plOf n)) M
theorem ok_places_for {P : Program} {w : World} {K : PySem.W.Frag} {mg : Str → Option Value} {base : Heap} (hD : Df K mg "places_for" s_places_for) (hB : Fr mg bl) : Kn P w K mg base 1 "places_for" P_places_for p_places_for := by
  have S := sc_places_for
  refine kn_ofD hD sc_places_for (fun _ _ _ _ _ _ us hl => match us, hl with | [_], _ => rfl) pr1_len ?_
  intro f cdv A outer s H E hr
  refine ⟨_, (vss_cons (vs_set (i := 1) S.nd rfl (Or.inl rfl) (v_lstO (va_cons (v_tup va_nil) va_nil))) (vss_cons (vs_while PassesOwn.never (t_cmp (o_ne hr.r) (v_var (pv 1)) (v_lst va_nil) (nomark _)) (vss_cons (vs_set (i := 2) S.nd rfl (Or.inr rfl) (v_pop0 (v_var (pv 1)))) (vss_one (vs_if (t_cmp (o_eq hr.r) (v_callB c_len (hB _ (by decide +kernel)) (va_cons (v_var (pv 2)) va_nil)) (v_var (pv 0)) (nomark _)) (vss_cons (vs_set (i := 3) S.nd rfl (Or.inl rfl) (v_callB c_len (hB _ (by decide +kernel)) (va_cons (v_lc (own := [("at", 4), ("column", 5)]) rfl S.nd (vi_enumT (hB _ (by decide +kernel)) (va_cons (v_var (pv 2)) va_nil)) (blkOk_by (by first | rfl | kernel_rfl)) (lcg_tup (n := 2) rfl (lcgs_cons (lcg_name (fun _ _ _ _ _ => pg_name (i := 4) S.nd rfl (by first | exact Or.inl rfl | exact Or.inr rfl))) (lcgs_cons (lcg_name (fun _ _ _ _ _ => pg_name (i := 5) S.nd rfl (by first | exact Or.inl rfl | exact Or.inr rfl))) lcgs_nil))) (fun _ _ _ _ _ => (vts_one (t_cmp (o_eq hr.r) (v_var (pv 4)) (v_var (pv 5)) (nomark _)))) (fun _ _ _ _ _ => (v_var (pv 4)))) va_nil))) (vss_one (vs_if (t_pw (t_and (t_cmp (o_eq hr.r) (v_var (pv 3)) v_int (nomark _)) (t_and1 (t_cmp (o_eq hr.r) (v_callB c_len (hB _ (by decide +kernel)) (va_cons (v_lc (own := [("at", 4), ("column", 5)]) rfl S.nd (vi_enumT (hB _ (by decide +kernel)) (va_cons (v_var (pv 2)) va_nil)) (blkOk_by (by first | rfl | kernel_rfl)) (lcg_tup (n := 2) rfl (lcgs_cons (lcg_name (fun _ _ _ _ _ => pg_name (i := 4) S.nd rfl (by first | exact Or.inl rfl | exact Or.inr rfl))) (lcgs_cons (lcg_name (fun _ _ _ _ _ => pg_name (i := 5) S.nd rfl (by first | exact Or.inl rfl | exact Or.inr rfl))) lcgs_nil))) (fun _ _ _ _ _ => (vts_one (t_cmp (o_eq hr.r) (v_op o_add (v_var (pv 4)) (v_var (pv 5))) (v_op o_sub (v_var (pv 0)) v_int) (nomark _)))) (fun _ _ _ _ _ => (v_var (pv 4)))) va_nil)) v_int (nomark _))))) (vss_one (vs_ret (v_var (pv 2)))) vss_nil))) (vss_one (vs_expr (v_extend (v_var (pv 1)) (va_cons (v_lc (own := [("column", 5)]) rfl S.nd (vi_range1 (hB _ (by decide +kernel)) (va_cons (v_var (pv 0)) va_nil)) (blkOk_by (by first | rfl | kernel_rfl)) (lcg_name (fun _ _ _ _ _ => pg_name (i := 5) S.nd rfl (by first | exact Or.inl rfl | exact Or.inr rfl))) (fun _ _ _ _ _ => (vts_one (t_cmp (o_notIn hr.r) (v_var (pv 5)) (v_var (pv 2)) (by with_unfolding_all rfl)))) (fun _ _ _ _ _ => (v_tup (va_star (v_var (pv 2)) (va_cons (v_var (pv 5)) va_nil))))) va_nil)))))))) (vss_one (vs_ret v_non)))), ?_⟩
  clear hr S
  rintro _ M Q ⟨x0, rfl, h⟩
  rw [show vstart N_places_for.length [x0] = [some x0, none, none, none, none, none] from rfl]
  obtain ⟨n, rfl, n4, n9, h⟩ := h
  have sz := size1000
  have sz2 := PySem.sizeLine_eq
  obtain ⟨k0, hk0, hsim⟩ := pl_all n4 n9
  simp
  intro p hp
  refine ⟨fun k e M1 => ∃ stack : List (List Nat), simP n k stack = some (plOf n) ∧ stack.length + 9 * k ≤ 150000 ∧ (∀ r ∈ stack, r.length ≤ n) ∧ M1 = mupd M p (.lst (stack.map fun r => nrow r.reverse).reverse) ∧ ∃ y2 y3 y4 y5, e = [some (.int n), some (.obj p), y2, y3, y4, y5], ⟨k0, [[]], hsim, by simp; omega, by simp, rfl, _, _, _, _, rfl⟩, ?_⟩
  rintro k e M1 ⟨stack, hs, hb, hl, rfl, y2, y3, y4, y5, rfl⟩
  cases k with
  | zero => cases hs
  | succ k =>
  cases stack with
  | nil => cases hs
  | cons r t =>
  have hr := hl r List.mem_cons_self
  have hlt : ∀ r ∈ t, r.length ≤ n := fun r h => hl r (List.mem_cons_of_mem _ h)
  have hmem : ((r :: t).map fun r => nrow r.reverse).reverse = (t.map fun r => nrow r.reverse).reverse ++ [nrow r.reverse] := by simp
  rw [hmem]
  have hrl : r.reverse.length = r.length := List.length_reverse
  have hs2 : (bif Nat.beq r.length n then (bif goodR n r.reverse then some r.reverse else simP n k t) else simP n k ((nextR n r).reverse ++ t)) = some (plOf n) := hs
  simp only [List.length_cons] at hb
  have tl : (t.map fun r => nrow r.reverse).reverse.length = t.length := by simp
  have anyr : ∀ c : Nat, (r.any fun y => Nat.beq y c) = r.reverse.any fun y => Nat.beq y c := fun c => by rw [List.any_reverse]
  generalize hrow : r.reverse = row at *
  have hnext : nextR n r = ((List.range n).filter fun c => !row.any fun y => Nat.beq y c).map fun c => (row ++ [c]).reverse := by
    unfold nextR
    simp only [anyr]
    refine List.map_congr_left fun c _ => ?_
    rw [List.reverse_append, ← hrow, List.reverse_reverse] <;> rfl
  generalize hL : (t.map fun r => nrow r.reverse).reverse = L at *
  simp
  refine oNe_nil (asL_obj mupd_same) (fun x hx => ?_) ?_
  · rcases List.mem_append.mp hx with hx | hx
    · rw [← hL, List.mem_reverse] at hx
      obtain ⟨y, _, rfl⟩ := List.mem_map.mp hx
      exact sh_nrow
    · cases List.mem_singleton.mp hx
      exact sh_nrow
  have comp : ∀ (f : Nat → Nat → Bool) (tt : VTT) (M1 : Mem) (y3 : Option D) (Q : VL.VK), (∀ (i c : Nat) (A B : Mem → Prop), (f i c = true → A M1) → (f i c = false → B M1) → tt [some (.int n), some (.obj p), some (.tup (row.map fun c => D.int (c : Nat))), y3, some (.int i), some (.int c)] M1 fun b M2 => if b = true then A M2 else B M2) → Q (.lst (((List.range row.length).filter fun i => f i (row.getD i 0)).map fun i => D.int (i : Nat))) M1 → vLc (iEnT (vaCons (vVar 2) vaNil)) (gTp 2 (gMore (gN 4) (gMore (gN 5) gNone))) tt (vVar 4) [4, 5] [some (.int n), some (.obj p), some (.tup (row.map fun c => D.int (c : Nat))), y3, y4, y5] M1 Q := fun f tt M1 y3 Q htt q => by
    refine vLc_alF (List.range row.length) (fun i => .tup [.int (i : Nat), .int ((row.getD i 0 : Nat) : Int)]) (fun i => f i (row.getD i 0)) (fun i => .int (i : Nat)) (w := ⟨enD (row.map fun c => D.int (c : Nat)), fun _ => True⟩) (fun R r => ?_) (enD_nats _) trivial (by simp; omega) (fun i hi A B hA hB => ?_) q
    · simp
      exact r
    · simp only [gTp, vwipe]
      refine ⟨_, rfl, rfl, ?_⟩
      simp
      exact htt i (row[i]?.getD 0) (A (.int i)) B (fun z => hA (by simpa using z)) (fun z => hB (by simpa using z))
  simp [nrow]
  have elen : ((row.length : Int) = (n : Int)) ↔ row.length = n := by omega
  by_cases hz : row.length = n
  · have e0 : Nat.beq r.length n = true := by rw [← hrl, hz]; exact Nat.beq_refl n
    rw [e0, cond_true] at hs2
    have back : simP n k t = some (plOf n) → ∃ m', m' < k + 1 ∧ ∃ stack, simP n m' stack = some (plOf n) ∧ stack.length + 9 * m' ≤ 150000 ∧ (∀ r : List Nat, r ∈ stack → r.length ≤ n) ∧ mupd M p (MO.lst L) = mupd M p (MO.lst (List.map (fun r => D.tup (List.map (fun c => D.int (c : Nat)) r).reverse) stack).reverse) := fun e =>
      ⟨k, by omega, t, e, by omega, hlt, by rw [← hL]; simp [nrow]⟩
    simp [hz]
    refine comp (fun i c => Nat.beq i c) _ _ _ _ (fun i c A B hA hB => ?_) ?_
    · simp
      by_cases e : i = c
      · subst e
        exact .inr ⟨rfl, hA (Nat.beq_refl i)⟩
      · exact .inl ⟨by omega, hB (Bool.eq_false_iff.mpr fun z => e (Nat.eq_of_beq_eq_true z))⟩
    · have g1 : goodR n row = (Nat.beq ((List.range row.length).filter fun i => Nat.beq i (row.getD i 0)).length 1 && Nat.beq ((List.range row.length).filter fun i => Nat.beq (i + row.getD i 0 + 1) n).length 1) := by rw [hz] <;> rfl
      rw [g1] at hs2
      clear g1
      generalize hc1 : ((List.range row.length).filter fun i => Nat.beq i (row.getD i 0)) = c1 at *
      simp
      by_cases z1 : c1.length = 1
      · have z1' : Nat.beq c1.length 1 = true := by rw [z1] <;> rfl
        rw [z1', Bool.true_and] at hs2
        simp [z1]
        refine comp (fun i c => Nat.beq (i + c + 1) n) _ _ _ _ (fun i c A B hA hB => ?_) ?_
        · simp
          by_cases e : i + c + 1 = n
          · refine .inr ⟨by omega, hA (by rw [e]; exact Nat.beq_refl n)⟩
          · exact .inl ⟨by omega, hB (Bool.eq_false_iff.mpr fun z => e (Nat.eq_of_beq_eq_true z))⟩
        · generalize ((List.range row.length).filter fun i => Nat.beq (i + row.getD i 0 + 1) n) = c2 at *
          simp
          by_cases z2 : c2.length = 1
          · have z2' : Nat.beq c2.length 1 = true := by rw [z2] <;> rfl
            rw [z2', cond_true] at hs2
            have e : row = plOf n := Option.some.inj hs2
            refine .inr ⟨by omega, M, VL.Sub.new hp, ?_⟩
            rw [e]
            exact h
          · have z2' : Nat.beq c2.length 1 = false := Bool.eq_false_iff.mpr fun z => z2 (Nat.eq_of_beq_eq_true z)
            rw [z2', cond_false] at hs2
            exact .inl ⟨by omega, back hs2⟩
      · have z1' : Nat.beq c1.length 1 = false := Bool.eq_false_iff.mpr fun z => z1 (Nat.eq_of_beq_eq_true z)
        rw [z1', Bool.false_and, cond_false] at hs2
        exact .inl ⟨by omega, back hs2⟩
  · have e0 : Nat.beq r.length n = false := by
      rw [← hrl]; exact Bool.eq_false_iff.mpr fun e => hz (Nat.eq_of_beq_eq_true e)
    rw [e0, cond_false] at hs2
    simp [elen, hz]
    have b64 : -4611686018427387904 ≤ (n : Int) ∧ (n : Int) < 4611686018427387904 := by omega
    refine vLc_alF (List.range n) (fun i => .int (0 + ((i : Nat) : Int))) (fun c => !row.any fun y => Nat.beq y c) (fun c => .tup ((row ++ [c]).map fun c => D.int (c : Nat))) (w := ⟨_, fun _ => True⟩) (fun R r => ?_) rfl trivial (by simp; omega) (fun c hc A B hA hB => ?_) ?_
    · simpa [rgD, b64] using r
    · simp [vwipe]
      refine ⟨_, rfl, sh_int, fun z hz => by obtain ⟨y, _, rfl⟩ := List.mem_map.mp hz; exact sh_int, ?_⟩
      rw [inD_map (f := fun y : Nat => (y : Int))]
      have ea : (row.any fun y => decide ((y : Int) = (c : Int))) = row.any fun y => Nat.beq y c := by
        congr 1
        funext y
        rw [Bool.eq_iff_iff, decide_eq_true_eq]
        exact ⟨fun e => by rw [show y = c by omega]; exact Nat.beq_refl c, fun e => by rw [Nat.eq_of_beq_eq_true e]⟩
      rw [ea]
      cases hz : row.any fun y => Nat.beq y c with
      | true => simpa using hB (by rw [hz] <;> rfl)
      | false =>
        simp [asI]
        refine ⟨by omega, ?_⟩
        simpa using hA (by rw [hz] <;> rfl)
    · have nlen := nextR_len (n := n) (r := r)
      have fl := congrArg List.length hnext
      rw [List.length_map] at fl
      refine ⟨L, mupd_same, _, rfl, by rw [List.length_map, ← fl]; omega, k, by omega, (nextR n r).reverse ++ t, hs2, by simp; omega, fun x hx => ?_, ?_⟩
      · rcases List.mem_append.mp hx with hx | hx
        · have := nextR_row (List.mem_reverse.mp hx)
          omega
        · exact hlt x hx
      · rw [mupd_mupd, ← hL, hnext]
        simp [nrow, Function.comp_def]
end K46
namespace K46
open PySem PySem.Spec L2 VL
def lsqP (n : Nat) (ps : List Nat) : List (List Int) := ps.map fun (p : Nat) => (List.range n).map fun (c : Nat) => ind (decide ((c : Int) = (p : Int)))
def lsq (n : Nat) (k : Str) : List (List Int) :=
  if k = "round" then sqOf n fun i j => ind (decide (((i : Int) + 2 * (j : Int)) % (n : Int) < stepOf n k))
  else if k = "magic" then (if n ≤ 3 then List.replicate n (List.replicate n 1) else lsqP n (plOf n)) else lsqP n (List.range n)
abbrev N_least_square : List Str := ["order", "kind", "step", "found", "row", "places", "column", "place"]
abbrev P_least_square : List Str := ["order", "kind"]
theorem sc_least_square : FnScope N_least_square P_least_square (defScope s_least_square) := ⟨rfl, rfl, rfl, by decide +kernel, rfl, by decide +kernel, by decide +kernel⟩
def p_least_square : VSp := pr2 fun a b M Q => ∃ (n : Nat) (k : Str), a = .int n ∧ b = .str k ∧ Kd k ∧ 1 ≤ n ∧ n ≤ 9 ∧ Q (sqD (lsq n k)) M
theorem ok_least_square {P : Program} {w : World} {K : PySem.W.Frag} {mg : Str → Option Value} {base : Heap} (hD : Df K mg "least_square" s_least_square) (hB : Fr mg bl) {t_ROUND : Tok} (i_ROUND : mg "ROUND" = some (.str "round" t_ROUND)) {t_MAGIC : Tok} (i_MAGIC : mg "MAGIC" = some (.str "magic" t_MAGIC)) {t_THREE : Tok} (i_THREE : mg "THREE" = some (.int 3 t_THREE)) (k_step_of : Kn P w K mg base 1 "step_of" P_step_of p_step_of) (k_places_for : Kn P w K mg base 1 "places_for" P_places_for p_places_for) : Kn P w K mg base 2 "least_square" P_least_square p_least_square := by
  have S := sc_least_square
  refine kn_ofD hD sc_least_square (fun _ _ _ _ _ _ us hl => match us, hl with | [_, _], _ => rfl) pr2_len ?_
  intro f cdv A outer s H E hr
  refine ⟨_, (vss_cons (vs_if (t_cmp (o_eq hr.r) (v_var (pv 1)) (v_gstr i_ROUND ⟨_, rfl⟩) (nomark _)) (vss_cons (vs_set (i := 2) S.nd rfl (Or.inr rfl) (v_callK k_step_of hr (va_cons (v_var (pv 0)) (va_cons (v_var (pv 1)) va_nil)))) (vss_cons (vs_set (i := 3) S.nd rfl (Or.inl rfl) (v_lstO va_nil)) (vss_cons (vs_for PassesOwn.never rfl (vi_range1 (hB _ (by decide +kernel)) (va_cons (v_var (pv 0)) va_nil)) (vg_name (pg_name (i := 4) S.nd rfl (by first | exact Or.inl rfl | exact Or.inr rfl))) (vss_one (vs_expr (v_append (v_var (pv 3)) (va_cons (v_callTy c_tuple (hB _ (by decide +kernel)) (va_cons (v_lc (own := [("column", 6)]) rfl S.nd (vi_range1 (hB _ (by decide +kernel)) (va_cons (v_var (pv 0)) va_nil)) (blkOk_by (by first | rfl | kernel_rfl)) (lcg_name (fun _ _ _ _ _ => pg_name (i := 6) S.nd rfl (by first | exact Or.inl rfl | exact Or.inr rfl))) (fun _ _ _ _ _ => vts_nil) (fun _ _ _ _ _ => (v_callTy c_int (hB _ (by decide +kernel)) (va_cons (v_cmp o_lt (v_op o_mod (v_op o_add (v_var (pv 4)) (v_op o_mulI v_int (v_var (pv 6)))) (v_var (pv 0))) (v_var (pv 2)) (nomark _)) va_nil)))) va_nil)) va_nil))))) (vss_one (vs_ret (v_callTy c_tuple (hB _ (by decide +kernel)) (va_cons (v_var (pv 3)) va_nil))))))) vss_nil) (vss_cons (vs_if (t_pw (t_and (t_cmp (o_eq hr.r) (v_var (pv 1)) (v_gstr i_MAGIC ⟨_, rfl⟩) (nomark _)) (t_and1 (t_cmp o_le (v_var (pv 0)) (v_gint i_THREE ⟨_, rfl⟩) (nomark _))))) (vss_one (vs_ret (v_op o_repT (v_tup (va_cons (v_op o_repT (v_tup (va_cons v_int va_nil)) (v_var (pv 0))) va_nil)) (v_var (pv 0))))) vss_nil) (vss_cons (vs_set (i := 5) S.nd rfl (Or.inl rfl) (v_if (t_cmp (o_eq hr.r) (v_var (pv 1)) (v_gstr i_MAGIC ⟨_, rfl⟩) (nomark _)) (v_callK k_places_for hr (va_cons (v_var (pv 0)) va_nil)) (v_tupRg1 rfl (hB _ (by decide +kernel)) (hB _ (by decide +kernel)) (v_var (pv 0))))) (vss_one (vs_ret (v_callTy c_tuple (hB _ (by decide +kernel)) (va_cons (v_lc (own := [("place", 7)]) rfl S.nd (vi_seq (v_var (pv 5))) (blkOk_by (by first | rfl | kernel_rfl)) (lcg_name (fun _ _ _ _ _ => pg_name (i := 7) S.nd rfl (by first | exact Or.inl rfl | exact Or.inr rfl))) (fun _ _ _ _ _ => vts_nil) (fun _ _ _ _ _ => (v_callTy c_tuple (hB _ (by decide +kernel)) (va_cons (v_lc (own := [("column", 6)]) rfl S.nd (vi_range1 (hB _ (by decide +kernel)) (va_cons (v_var (pv 0)) va_nil)) (blkOk_by (by first | rfl | kernel_rfl)) (lcg_name (fun _ _ _ _ _ => pg_name (i := 6) S.nd rfl (by first | exact Or.inl rfl | exact Or.inr rfl))) (fun _ _ _ _ _ => vts_nil) (fun _ _ _ _ _ => (v_callTy c_int (hB _ (by decide +kernel)) (va_cons (v_cmp (o_eq hr.r) (v_var (pv 6)) (v_var (pv 7)) (nomark _)) va_nil)))) va_nil)))) va_nil))))))), ?_⟩
  clear hr S
  rintro _ M Q ⟨x0, x1, rfl, h⟩
  rw [show vstart N_least_square.length [x0, x1] = [some x0, some x1, none, none, none, none, none, none] from rfl]
  obtain ⟨n, k, rfl, rfl, hk, n1, n9, h⟩ := h
  have sz := size1000
  have b64 : -4611686018427387904 ≤ (n : Int) ∧ (n : Int) < 4611686018427387904 := by omega
  have fin : ∀ ps : List Nat, ps.length ≤ 9 → Q (sqD (lsqP n ps)) M → vLc (iSeq (vVar 5)) (gN 7) vYes (vCall rTuple (vaCons (vLc (iRg1 (vaCons (vVar 0) vaNil)) (gN 6) vYes (vCall rInt (vaCons (vOp oEq (vVar 6) (vVar 7)) vaNil)) [6]) vaNil)) [7] [some (D.int (n : Nat)), some (D.str k), none, none, none, some (D.tup (ps.map fun c => D.int (c : Nat))), none, none] M fun x M1 => rTuple [x] M1 fun d M' => ∃ M'', VL.Sub M'' M' ∧ Q d M'' := fun ps hl q => by
    refine vLc_al ps (fun c => D.int (c : Nat)) (fun p => .tup ((List.range n).map fun (c : Nat) => .int (ind (decide ((c : Int) = (p : Int)))))) (w := ⟨ps.map fun c => D.int (c : Nat), fun _ => True⟩) (fun R r => ?_) rfl trivial (by omega) (fun p hp A hA => ?_) ?_
    · simpa [asI] using r
    · simp [vwipe]
      refine vLc_al (List.range n) (fun i => .int (0 + ((i : Nat) : Int))) (fun (c : Nat) => .int (ind (decide ((c : Int) = (p : Int))))) (w := ⟨_, fun _ => True⟩) (fun R r => ?_) rfl trivial (by simp; omega) (fun c hc B hB => ?_) ?_
      · simpa [rgD, b64] using r
      · simp [vwipe]
        simpa [ind] using hB
      · simp [rTuple, asI]
        simpa using hA
    · simp [rTuple, asI]
      exact ⟨M, VL.Sub.refl, by simpa [sqD, lsqP, Function.comp_def] using q⟩
  unfold lsq at h
  simp
  by_cases kr : k = "round"
  · rw [if_pos kr] at h
    refine .inr ⟨kr, pr2_at.mpr ⟨n, k, rfl, rfl, hk, n1, n9, fun p hp => ?_⟩⟩
    rw [sqOf_D] at h
    refine sFor_al (List.range n) (fun i => .int (0 + ((i : Nat) : Int))) (fun i e M1 => M1 = mupd M p (.lst ((List.range i).map fun (i : Nat) => .tup ((List.range n).map fun (j : Nat) => .int (ind (decide (((i : Int) + 2 * (j : Int)) % (n : Int) < stepOf n k)))))) ∧ ∃ y4, e = [some (.int n), some (.str k), some (.int (stepOf n k)), some (.obj p), y4, none, none, none]) (w := ⟨_, fun _ => True⟩) (fun R r => ?_) rfl ⟨by simp, _, rfl⟩ (fun _ _ _ _ _ => trivial) (fun i x e M1 hd hlt hp => ?_) (fun e M1 hp => ?_)
    · simpa [rgD, b64] using r
    · obtain ⟨rfl, y4, rfl⟩ := hp
      simp at hlt
      rw [List.getElem?_range (by simpa using hlt)] at hd
      cases hd
      simp
      refine vLc_al (List.range n) (fun i => .int (0 + ((i : Nat) : Int))) (fun (j : Nat) => .int (ind (decide (((i : Int) + 2 * (j : Int)) % (n : Int) < stepOf n k)))) (w := ⟨_, fun _ => True⟩) (fun R r => ?_) rfl trivial (by simp; omega) (fun j hj B hB => ?_) ?_
      · simpa [rgD, b64] using r
      · simp [vwipe]
        refine ⟨.inl (by decide), by omega, ?_⟩
        simpa [ind] using hB
      · simp [rTuple, asI]
        exact ⟨by omega, by simp [List.range_succ]⟩
    · obtain ⟨rfl, y4, rfl⟩ := hp
      simp only [List.length_range]
      simp [rTuple, asI]
      exact ⟨M, VL.Sub.new hp, h⟩
  · rw [if_neg kr] at h
    refine .inl ⟨kr, ?_⟩
    by_cases km : k = "magic"
    · rw [if_pos km] at h
      refine .inr ⟨km, ?_⟩
      by_cases n3 : n ≤ 3
      · rw [if_pos n3] at h
        rw [if_pos (by omega)]
        refine ⟨[.int 1], n, rfl, rfl, by simp, by omega, by omega, by simp, ?_⟩
        refine ⟨[_], n, rfl, rfl, by simp, by omega, by omega, by simp, M, VL.Sub.refl, ?_⟩
        simpa [sqD] using h
      · rw [if_neg n3] at h
        rw [if_neg (by omega)]
        refine .inr ⟨km, pr1_at.mpr ⟨n, rfl, by omega, n9, fin (plOf n) ?_ h⟩⟩
        have : n = 4 ∨ n = 5 ∨ n = 6 ∨ n = 7 ∨ n = 8 ∨ n = 9 := by omega
        rcases this with rfl | rfl | rfl | rfl | rfl | rfl <;> decide
    · rw [if_neg km] at h
      refine .inl ⟨km, .inl ⟨km, by omega, ?_⟩⟩
      have := fin (List.range n) (by simpa using n9) h
      have e : rgD 0 n = (List.range n).map fun c => D.int (c : Nat) := by simp [rgD]
      rw [e]
      exact this
end K46
namespace K46
open PySem PySem.Spec L2 VL
def lsqC (n : Nat) (k : Str) : Bool := decide ((lsq n k).length = n) && ((lsq n k).all fun r => decide (r.length = n) && r.all fun x => decide (x = 0) || decide (x = 1)) && (sumsOf n (lsq n k) k).all fun s => decide (s = stepOf n k)
theorem lsq_all : ((List.range 9).all fun i => lsqC (i + 1) "rows" && lsqC (i + 1) "magic" && lsqC (i + 1) "round") = true := by decide +kernel
theorem lsq_c {n : Nat} {k : Str} (h1 : 1 ≤ n) (h9 : n ≤ 9) (hk : Kd k) : lsqC n k = true := by
  have := List.all_eq_true.mp lsq_all (n - 1) (List.mem_range.mpr (by omega))
  rw [show n - 1 + 1 = n by omega] at this
  simp only [Bool.and_eq_true] at this
  rcases hk with rfl | rfl | rfl
  · exact this.1.1
  · exact this.1.2
  · exact this.2
structure LsqOk (n : Nat) (k : Str) : Prop where
  len : (lsq n k).length = n
  row : ∀ r ∈ lsq n k, r.length = n
  ent : ∀ r ∈ lsq n k, ∀ x ∈ r, x = 0 ∨ x = 1
  sum : ∀ s ∈ sumsOf n (lsq n k) k, s = stepOf n k
theorem lsq_ok {n : Nat} {k : Str} (h1 : 1 ≤ n) (h9 : n ≤ 9) (hk : Kd k) : LsqOk n k := by
  have := lsq_c h1 h9 hk
  simp only [lsqC, Bool.and_eq_true, List.all_eq_true, decide_eq_true_eq, Bool.or_eq_true] at this
  obtain ⟨⟨a, b⟩, c⟩ := this
  exact ⟨a, fun r hr => (b r hr).1, fun r hr => (b r hr).2, c⟩
def told (n : Nat) (k : Str) (x : Int) : D := if x % stepOf n k = 0 then .tup [.str "square", sqD (timesBy (lsq n k) (x / stepOf n k))] else .tup [.str "divisor", .int (stepOf n k)]
abbrev N_sum_told : List Str := ["order", "kind", "number", "step"]
abbrev P_sum_told : List Str := ["order", "kind", "number"]
theorem sc_sum_told : FnScope N_sum_told P_sum_told (defScope s_sum_told) := ⟨rfl, rfl, rfl, by decide +kernel, rfl, by decide +kernel, by decide +kernel⟩
def p_sum_told : VSp := pr3 fun a b c M Q => ∃ (n : Nat) (k : Str) (x : Int), a = .int n ∧ b = .str k ∧ c = .int x ∧ Kd k ∧ 1 ≤ n ∧ n ≤ 9 ∧ -1000000 ≤ x ∧ x ≤ 1000000 ∧ Q (told n k x) M
theorem ok_sum_told {P : Program} {w : World} {K : PySem.W.Frag} {mg : Str → Option Value} {base : Heap} (hD : Df K mg "sum_told" s_sum_told) (hB : Fr mg bl) {t_DIVISOR : Tok} (i_DIVISOR : mg "DIVISOR" = some (.str "divisor" t_DIVISOR)) {t_SQUARE : Tok} (i_SQUARE : mg "SQUARE" = some (.str "square" t_SQUARE)) (k_check_sum : Kn P w K mg base 4 "check_sum" P_check_sum p_check_sum) (k_step_of : Kn P w K mg base 1 "step_of" P_step_of p_step_of) (k_times_by : Kn P w K mg base 1 "times_by" P_times_by p_times_by) (k_least_square : Kn P w K mg base 2 "least_square" P_least_square p_least_square) : Kn P w K mg base 5 "sum_told" P_sum_told p_sum_told := by
  have S := sc_sum_told
  refine kn_of hD sc_sum_told (fun _ _ _ _ _ _ us hl => match us, hl with | [_, _, _], _ => rfl) pr3_len ?_
  intro f cdv A outer s H E hr
  refine ⟨_, (vss_cons (vs_expr (v_callK k_check_sum hr (va_cons (v_var (pv 0)) (va_cons (v_var (pv 1)) (va_cons (v_var (pv 2)) va_nil))))) (vss_cons (vs_set (i := 3) S.nd rfl (Or.inl rfl) (v_callK k_step_of hr (va_cons (v_var (pv 0)) (va_cons (v_var (pv 1)) va_nil)))) (vss_cons (vs_if (t_cmp (o_ne hr.r) (v_op o_mod (v_var (pv 2)) (v_var (pv 3))) v_int (nomark _)) (vss_one (vs_ret (v_tup (va_cons (v_gstr i_DIVISOR ⟨_, rfl⟩) (va_cons (v_var (pv 3)) va_nil))))) vss_nil) (vss_one (vs_ret (v_tup (va_cons (v_gstr i_SQUARE ⟨_, rfl⟩) (va_cons (v_callK k_times_by hr (va_cons (v_callK k_least_square hr (va_cons (v_var (pv 0)) (va_cons (v_var (pv 1)) va_nil))) (va_cons (v_op o_fdiv (v_var (pv 2)) (v_var (pv 3))) va_nil))) va_nil)))))))), ?_⟩
  clear hr S
  rintro _ M Q ⟨x0, x1, x2, rfl, h⟩
  rw [show vstart N_sum_told.length [x0, x1, x2] = [some x0, some x1, some x2, none] from rfl]
  obtain ⟨n, k, x, rfl, rfl, rfl, hk, n1, n9, x1, x2, h⟩ := h
  have sz := size1000
  obtain ⟨s1, s2⟩ := stepOf_pos (k := k) n1
  have L := lsq_ok n1 n9 hk
  simp
  refine pr3_at.mpr ⟨n, k, x, rfl, rfl, rfl, hk, n1, n9, x1, x2, ?_⟩
  refine pr2_at.mpr ⟨n, k, rfl, rfl, hk, n1, n9, ?_⟩
  unfold told at h
  have hdiv : (x / stepOf n k).natAbs < 18446744073709551616 := by
    have a1 : (x / stepOf n k).natAbs ≤ x.natAbs := by
      have := Int.natAbs_ediv_le_natAbs x (stepOf n k)
      exact this
    omega
  generalize stepOf n k = st at *
  have lg : st.natAbs.log2 < 9000 := by
    have : st.natAbs.log2 < 3 := (Nat.log2_lt (by omega)).mpr (by omega)
    omega
  refine ⟨st, rfl, by omega, ?_⟩
  by_cases z : x % st = 0
  · rw [if_pos z] at h
    refine .inl ⟨z, pr2_at.mpr ⟨n, k, rfl, rfl, hk, n1, n9, st, rfl, ⟨by omega, lg⟩, ?_⟩⟩
    exact pr2_at.mpr ⟨lsq n k, x / st, rfl, rfl, hdiv, by rw [L.len]; exact n9, fun r hr => by rw [L.row r hr]; exact n9, h⟩
  · rw [if_neg z] at h
    exact .inr ⟨z, h⟩
def unD : D → List (List Int)
  | .tup rows => rows.map fun r => match r with
    | .tup xs => xs.map fun x => match x with
      | .int i => i
      | _ => 0
    | _ => []
  | _ => []
theorem unD_sq (m : List (List Int)) : unD (sqD m) = m := by
  show (m.map fun r => D.tup (r.map D.int)).map _ = m
  rw [List.map_map]
  refine (List.map_congr_left (g := id) fun r _ => ?_).trans (List.map_id _)
  show (r.map D.int).map _ = r
  rw [List.map_map]
  exact (List.map_congr_left (g := id) fun _ _ => rfl).trans (List.map_id _)
def shown2 (n : Nat) (k : Str) (x : Int) (w : Str) (b : D) : Bool :=
  if w = "divisor" then (match b with
    | .int j => decide (2 ≤ j) && decide (stepOf n k % j = 0) && !decide (x % j = 0)
    | _ => false)
  else if w = "square" then isSqB (-1000000000) 1000000000 b && decide (lenT b = n) && alike (sumsOf n (unD b) k) && decide (sumOf n (unD b) ("row", 0) = x)
  else false
def shown (n : Nat) (k : Str) (x : Int) : D → Bool
  | .tup [.str w, b] => shown2 n k x w b
  | _ => false
abbrev N_shows_sum : List Str := ["order", "kind", "number", "value"]
abbrev P_shows_sum : List Str := ["order", "kind", "number", "value"]
theorem sc_shows_sum : FnScope N_shows_sum P_shows_sum (defScope s_shows_sum) := ⟨rfl, rfl, rfl, by decide +kernel, rfl, by decide +kernel, by decide +kernel⟩
def p_shows_sum : VSp := pr4 fun a b c d M Q => ∃ (n : Nat) (k : Str) (x : Int), a = .int n ∧ b = .str k ∧ c = .int x ∧ Kd k ∧ 1 ≤ n ∧ n ≤ 9 ∧ -1000000 ≤ x ∧ x ≤ 1000000 ∧ Okv M d ∧ Q (.bl (shown n k x d)) M
theorem ok_shows_sum {P : Program} {w : World} {K : PySem.W.Frag} {mg : Str → Option Value} {base : Heap} (hD : Df K mg "shows_sum" s_shows_sum) (hB : Fr mg bl) {t_DIVISOR : Tok} (i_DIVISOR : mg "DIVISOR" = some (.str "divisor" t_DIVISOR)) {t_SQUARE : Tok} (i_SQUARE : mg "SQUARE" = some (.str "square" t_SQUARE)) (k_check_sum : Kn P w K mg base 4 "check_sum" P_check_sum p_check_sum) (k_is_integer : Kn P w K mg base 1 "is_integer" P_is_integer p_is_integer) (k_step_of : Kn P w K mg base 1 "step_of" P_step_of p_step_of) (k_is_square : Kn P w K mg base 4 "is_square" P_is_square p_is_square) (k_is_of_kind : Kn P w K mg base 4 "is_of_kind" P_is_of_kind p_is_of_kind) (k_sums_by : Kn P w K mg base 3 "sums_by" P_sums_by p_sums_by) : Kn P w K mg base 5 "shows_sum" P_shows_sum p_shows_sum := by
  have S := sc_shows_sum
  refine kn_of hD sc_shows_sum (fun _ _ _ _ _ _ us hl => match us, hl with | [_, _, _, _], _ => rfl) pr4_len ?_
  intro f cdv A outer s H E hr
  refine ⟨_, (vss_cons (vs_expr (v_callK k_check_sum hr (va_cons (v_var (pv 0)) (va_cons (v_var (pv 1)) (va_cons (v_var (pv 2)) va_nil))))) (vss_cons (vs_if (t_pw (t_or (t_not (t_val (v_isi (T := "tuple") (hB _ (by decide +kernel)) (hB _ (by decide +kernel)) (v_var (pv 3))))) (t_or (t_cmp (o_ne hr.r) (v_callB c_len (hB _ (by decide +kernel)) (va_cons (v_var (pv 3)) va_nil)) v_int (nomark _)) (t_or1 (t_not (t_val (v_isi (T := "str") (hB _ (by decide +kernel)) (hB _ (by decide +kernel)) (v_ix (v_var (pv 3)) v_int)))))))) (vss_one (vs_ret v_bl)) vss_nil) (vss_cons (vs_if (t_cmp (o_eq hr.r) (v_ix (v_var (pv 3)) v_int) (v_gstr i_DIVISOR ⟨_, rfl⟩) (nomark _)) (vss_cons (vs_if (t_pw (t_or (t_not (t_val (v_callK k_is_integer hr (va_cons (v_ix (v_var (pv 3)) v_int) va_nil)))) (t_or1 (t_cmp o_lt (v_ix (v_var (pv 3)) v_int) v_int (nomark _))))) (vss_one (vs_ret v_bl)) vss_nil) (vss_one (vs_ret (v_and (v_cmp (o_eq hr.r) (v_op o_mod (v_callK k_step_of hr (va_cons (v_var (pv 0)) (va_cons (v_var (pv 1)) va_nil))) (v_ix (v_var (pv 3)) v_int)) v_int (nomark _)) (v_one (v_cmp (o_ne hr.r) (v_op o_mod (v_var (pv 2)) (v_ix (v_var (pv 3)) v_int)) v_int (nomark _))))))) vss_nil) (vss_cons (vs_if (t_pw (t_or (t_cmp (o_ne hr.r) (v_ix (v_var (pv 3)) v_int) (v_gstr i_SQUARE ⟨_, rfl⟩) (nomark _)) (t_or (t_not (t_val (v_callK k_is_square hr (va_cons (v_ix (v_var (pv 3)) v_int) va_nil)))) (t_or1 (t_cmp (o_ne hr.r) (v_callB c_len (hB _ (by decide +kernel)) (va_cons (v_ix (v_var (pv 3)) v_int) va_nil)) (v_var (pv 0)) (nomark _)))))) (vss_one (vs_ret v_bl)) vss_nil) (vss_one (vs_ret (v_and (v_callK k_is_of_kind hr (va_cons (v_ix (v_var (pv 3)) v_int) (va_cons (v_var (pv 1)) va_nil))) (v_one (v_cmp (o_eq hr.r) (v_ix (v_callK k_sums_by hr (va_cons (v_ix (v_var (pv 3)) v_int) (va_cons (v_var (pv 1)) va_nil))) v_int) (v_var (pv 2)) (nomark _)))))))))), ?_⟩
  clear hr S
  rintro _ M Q ⟨x0, x1, x2, x3, rfl, h⟩
  rw [show vstart N_shows_sum.length [x0, x1, x2, x3] = [some x0, some x1, some x2, some x3] from rfl]
  obtain ⟨n, k, x, rfl, rfl, rfl, hk, n1, n9, x1, x2, ok, h⟩ := h
  have sz := size1000
  simp only [sSeq, sDrop, vFn, vaCons, vaNil, vVar, sIf, vOrT, vNotT, vTest]
  refine ⟨_, rfl, _, rfl, _, rfl, pr3_at.mpr ⟨n, k, x, rfl, rfl, rfl, hk, n1, n9, x1, x2, ?_⟩⟩
  refine isi_tuple x3 (fun R r => ⟨x3, rfl, r⟩) ok ⟨_, rfl, ?_⟩
  have no : isTuple x3 = false → Q (.bl false) M := fun e => by
    have : shown n k x x3 = false := by
      cases x3 with
      | tup xs => cases e
      | _ => rfl
    rw [← this]
    exact h
  by_cases ht : isTuple x3 = true
  · obtain ⟨xs, rfl⟩ : ∃ xs, x3 = .tup xs := by
      cases x3 with
      | tup xs => exact ⟨xs, rfl⟩
      | _ => cases ht
    clear no
    rw [ht]
    unfold Okv at ok
    by_cases hl : xs.length = 2
    · obtain ⟨a, b, rfl⟩ : ∃ a b, xs = [a, b] := by
        match xs, hl with
        | [a, b], _ => exact ⟨a, b, rfl⟩
      have oka : Okv M a := okvs_mem ok.2 a List.mem_cons_self
      have okb : Okv M b := okvs_mem ok.2 b (List.mem_cons_of_mem _ List.mem_cons_self)
      simp [-vIsi]
      refine isi_str a (fun R r => ⟨_, rfl, a, rfl, r⟩) oka ?_
      have nostr : isStr a = false → Q (.bl false) M := fun e => by
        have : shown n k x (.tup [a, b]) = false := by
          cases a with
          | str w => cases e
          | _ => rfl
        rw [← this]
        exact h
      by_cases hs : isStr a = true
      · obtain ⟨w, rfl⟩ : ∃ w, a = .str w := by
          cases a with
          | str w => exact ⟨w, rfl⟩
          | _ => cases hs
        clear nostr
        refine .inr ⟨by rw [hs], ?_⟩
        have h' : Q (.bl (shown2 n k x w b)) M := h
        unfold shown2 at h'
        simp
        by_cases hw : w = "divisor"
        · rw [if_pos hw] at h'
          refine .inr ⟨hw, pr1_at.mpr ⟨okb, ?_⟩⟩
          have noint : isI b = false → Q (.bl false) M := fun e => by
            cases b with
            | int j => cases e
            | _ => exact h'
          by_cases hi : isI b = true
          · obtain ⟨j, rfl⟩ : ∃ j, b = .int j := by
              cases b with
              | int j => exact ⟨j, rfl⟩
              | _ => cases hi
            refine .inr ⟨by rw [hi], j, rfl, ?_⟩
            by_cases j2 : j < 2
            · rw [if_pos j2]
              have e : decide (2 ≤ j) = false := decide_eq_false (by omega)
              simp only [e, Bool.false_and] at h'
              exact h'
            · rw [if_neg j2]
              have e : decide (2 ≤ j) = true := decide_eq_true (by omega)
              simp only [e, Bool.true_and] at h'
              refine pr2_at.mpr ⟨n, k, rfl, rfl, hk, n1, n9, _, rfl, j, rfl, by omega, ?_⟩
              by_cases z : stepOf n k % j = 0
              · refine .inr ⟨z, j, rfl, by omega, ?_⟩
                simpa [z] using h'
              · refine .inl ⟨z, ?_⟩
                simpa [z] using h'
          · have hi' : isI b = false := Bool.eq_false_iff.mpr hi
            exact .inl ⟨by rw [hi'], noint hi'⟩
        · rw [if_neg hw] at h'
          refine .inl ⟨hw, ?_⟩
          by_cases hw2 : w = "square"
          · rw [if_pos hw2] at h'
            refine .inl ⟨hw2, pr1_at.mpr ⟨okb, ?_⟩⟩
            by_cases hq : isSqB (-1000000000) 1000000000 b = true
            · obtain ⟨m, rfl, hm⟩ := is_sq hq
              refine .inr ⟨by rw [hq], ?_⟩
              have hq' : isSqB (-1000000000) 1000000000 (sqD m) = true := hq
              rw [hq', unD_sq, Bool.true_and, show lenT (sqD m) = m.length by simp [sqD, lenT]] at h'
              have e1 : ((m.length : Int) = (n : Int)) ↔ m.length = n := by omega
              have st : stepOf n k = stepOf n k := rfl
              refine (show ∃ n', some (m.map fun r => D.tup (r.map D.int)).length = some n' ∧ _ from ⟨_, rfl, ?_⟩)
              rw [List.length_map]
              by_cases hn : m.length = n
              · have e2 : decide (m.length = n) = true := decide_eq_true hn
                rw [e2, Bool.true_and] at h'
                subst hn
                simp
                refine pr2_at.mpr ⟨m, k, rfl, rfl, hk, hm, ?_⟩
                cases ha : alike (sumsOf m.length m k) with
                | false =>
                  rw [ha, Bool.false_and] at h'
                  exact .inl ⟨rfl, h'⟩
                | true =>
                  rw [ha, Bool.true_and] at h'
                  refine .inr ⟨rfl, pr2_at.mpr ⟨m, k, rfl, rfl, hk, hm, ?_⟩⟩
                  obtain ⟨ls, hls⟩ := lines_cons k n1
                  have hs : sumsOf m.length m k = sumOf m.length m ("row", 0) :: ls.map (sumOf m.length m) := by unfold sumsOf; rw [hls] <;> rfl
                  rw [hs]
                  simp [atI_0]
                  exact h'
              · have e2 : decide (m.length = n) = false := decide_eq_false hn
                simp only [e2, Bool.false_and] at h'
                simp [e1, hn]
                exact h'
            · have hq' : isSqB (-1000000000) 1000000000 b = false := Bool.eq_false_iff.mpr hq
              simp only [hq', Bool.false_and] at h'
              exact .inl ⟨by rw [hq'], h'⟩
          · rw [if_neg hw2] at h'
            exact .inr ⟨hw2, h'⟩
      · have hs' : isStr a = false := Bool.eq_false_iff.mpr hs
        exact .inl ⟨by rw [hs'], nostr hs'⟩
    · have hl' : ¬ ((xs.length : Int) = 2) := by omega
      have : shown n k x (.tup xs) = false := by
        unfold shown
        split
        · rename_i heq; cases heq; simp at hl
        · rfl
      rw [this] at h
      simp [-vIsi, hl', h]
  · have ht' : isTuple x3 = false := Bool.eq_false_iff.mpr ht
    rw [ht']
    simpa using no ht'
end K46
namespace K46
open PySem PySem.Spec L2 VL
theorem pow1012 : PowOk 10 12 := by unfold PowOk; decide +kernel
theorem pow109 : PowOk 10 9 := by unfold PowOk; decide +kernel
theorem pow106 : PowOk 10 6 := by unfold PowOk; decide +kernel
abbrev N__law_step : List Str := ["order", "kind"]
abbrev P__law_step : List Str := ["order", "kind"]
theorem sc__law_step : FnScope N__law_step P__law_step (defScope s__law_step) := ⟨rfl, rfl, rfl, by decide +kernel, rfl, by decide +kernel, by decide +kernel⟩
def p__law_step : VSp := pr2 fun a b M Q => ∃ (n : Nat) (k : Str), a = .int n ∧ b = .str k ∧ Kd k ∧ 1 ≤ n ∧ n ≤ 9 ∧ Q (.int (stepOf n k)) M
theorem ok__law_step {P : Program} {w : World} {K : PySem.W.Frag} {mg : Str → Option Value} {base : Heap} (hD : Df K mg "_law_step" s__law_step) (hB : Fr mg bl) : Kn P w K mg base 1 "_law_step" P__law_step p__law_step := by
  have S := sc__law_step
  refine kn_of hD sc__law_step (fun _ _ _ _ _ _ us hl => match us, hl with | [_, _], _ => rfl) pr2_len ?_
  intro f cdv A outer s H E hr
  refine ⟨_, (vss_cons (vs_if (t_cmp (o_eq hr.r) (v_var (pv 1)) v_str (nomark _)) (vss_one (vs_ret (v_dget3 hr.r (by decide) (by decide) (by decide) (v_var (pv 0)) v_int ⟨by rfl, by rfl, by rfl, by rfl⟩))) vss_nil) (vss_cons (vs_if (t_cmp (o_eq hr.r) (v_var (pv 1)) v_str (nomark _)) (vss_one (vs_ret (v_op o_mulI (v_if (t_cmp (o_eq hr.r) (v_op o_mod (v_var (pv 0)) v_int) v_int (nomark _)) v_int v_int) (v_if (t_cmp (o_eq hr.r) (v_op o_mod (v_var (pv 0)) v_int) v_int (nomark _)) v_int v_int)))) vss_nil) (vss_one (vs_ret v_int)))), ?_⟩
  clear hr S
  rintro _ M Q ⟨x0, x1, rfl, h⟩
  rw [show vstart N__law_step.length [x0, x1] = [some x0, some x1] from rfl]
  obtain ⟨n, k, rfl, rfl, hk, n1, n9, h⟩ := h
  have e2 : ((n : Int) % 2 = 0) ↔ n % 2 = 0 := by omega
  have e3 : ((n : Int) % 3 = 0) ↔ n % 3 = 0 := by omega
  simp [e2, e3]
  have mk : ∀ a b : Int, a.natAbs < 100 → VL.MulOk a b := fun a b h => .inl (by omega)
  unfold stepOf at h
  by_cases k1 : k = "magic"
  · refine .inr ⟨k1, ?_⟩
    rw [if_pos k1] at h
    have : n = 1 ∨ n = 2 ∨ n = 3 ∨ (¬ n ≤ 3 ∧ ¬ (n : Int) = 1 ∧ ¬ (n : Int) = 2 ∧ ¬ (n : Int) = 3) := by omega
    rcases this with rfl | rfl | rfl | ⟨z, z1, z2, z3⟩
    · simpa using h
    · simpa using h
    · simpa using h
    · simpa [z, z1, z2, z3] using h
  · refine .inl ⟨k1, ?_⟩
    rw [if_neg k1] at h
    by_cases k2 : k = "round"
    · refine .inr ⟨k2, ?_⟩
      rw [if_pos k2] at h
      by_cases z2 : n % 2 = 0 <;> by_cases z3 : n % 3 = 0 <;> simp [z2, z3] at h ⊢ <;> first | exact ⟨mk _ _ (by decide), h⟩ | exact ⟨by omega, mk _ _ (by decide), h⟩
    · refine .inl ⟨k2, ?_⟩
      rwa [if_neg k2] at h
abbrev N__law_is_shown : List Str := ["order", "kind", "number", "value"]
abbrev P__law_is_shown : List Str := ["order", "kind", "number", "value"]
theorem sc__law_is_shown : FnScope N__law_is_shown P__law_is_shown (defScope s__law_is_shown) := ⟨rfl, rfl, rfl, by decide +kernel, rfl, by decide +kernel, by decide +kernel⟩
def p__law_is_shown : VSp := pr4 fun a b c d M Q => ∃ (n : Nat) (k : Str) (x : Int), a = .int n ∧ b = .str k ∧ c = .int x ∧ Kd k ∧ 1 ≤ n ∧ n ≤ 9 ∧ -1000000 ≤ x ∧ x ≤ 1000000 ∧ Okv M d ∧ Q (.bl (shown n k x d)) M
theorem ok__law_is_shown {P : Program} {w : World} {K : PySem.W.Frag} {mg : Str → Option Value} {base : Heap} (hD : Df K mg "_law_is_shown" s__law_is_shown) (hB : Fr mg bl) (k__law_is_int : Kn P w K mg base 1 "_law_is_int" P__law_is_int p__law_is_int) (k__law_step : Kn P w K mg base 1 "_law_step" P__law_step p__law_step) (k__law_is_square : Kn P w K mg base 2 "_law_is_square" P__law_is_square p__law_is_square) (k__law_is_of : Kn P w K mg base 3 "_law_is_of" P__law_is_of p__law_is_of) (k__law_sum : Kn P w K mg base 2 "_law_sum" P__law_sum p__law_sum) : Kn P w K mg base 4 "_law_is_shown" P__law_is_shown p__law_is_shown := by
  have S := sc__law_is_shown
  refine kn_of hD sc__law_is_shown (fun _ _ _ _ _ _ us hl => match us, hl with | [_, _, _, _], _ => rfl) pr4_len ?_
  intro f cdv A outer s H E hr
  refine ⟨_, (vss_cons (vs_if (t_pw (t_or (t_not (t_val (v_isi (T := "tuple") (hB _ (by decide +kernel)) (hB _ (by decide +kernel)) (v_var (pv 3))))) (t_or (t_cmp (o_ne hr.r) (v_callB c_len (hB _ (by decide +kernel)) (va_cons (v_var (pv 3)) va_nil)) v_int (nomark _)) (t_or1 (t_not (t_val (v_isi (T := "str") (hB _ (by decide +kernel)) (hB _ (by decide +kernel)) (v_ix (v_var (pv 3)) v_int)))))))) (vss_one (vs_ret v_bl)) vss_nil) (vss_cons (vs_if (t_cmp (o_eq hr.r) (v_ix (v_var (pv 3)) v_int) v_str (nomark _)) (vss_one (vs_ret (v_and (v_callK k__law_is_int hr (va_cons (v_ix (v_var (pv 3)) v_int) (va_cons v_int (va_cons (v_op o_pow v_int v_int) va_nil)))) (v_and (v_cmp (o_eq hr.r) (v_op o_mod (v_callK k__law_step hr (va_cons (v_var (pv 0)) (va_cons (v_var (pv 1)) va_nil))) (v_ix (v_var (pv 3)) v_int)) v_int (nomark _)) (v_one (v_cmp (o_ne hr.r) (v_op o_mod (v_var (pv 2)) (v_ix (v_var (pv 3)) v_int)) v_int (nomark _))))))) vss_nil) (vss_cons (vs_if (t_pw (t_or (t_cmp (o_ne hr.r) (v_ix (v_var (pv 3)) v_int) v_str (nomark _)) (t_or (t_not (t_val (v_callK k__law_is_square hr (va_cons (v_ix (v_var (pv 3)) v_int) (va_cons (v_un o_neg (v_op o_pow v_int v_int)) (va_cons (v_op o_pow v_int v_int) va_nil)))))) (t_or1 (t_cmp (o_ne hr.r) (v_callB c_len (hB _ (by decide +kernel)) (va_cons (v_ix (v_var (pv 3)) v_int) va_nil)) (v_var (pv 0)) (nomark _)))))) (vss_one (vs_ret v_bl)) vss_nil) (vss_one (vs_ret (v_and (v_callK k__law_is_of hr (va_cons (v_ix (v_var (pv 3)) v_int) (va_cons (v_var (pv 1)) va_nil))) (v_one (v_cmp (o_eq hr.r) (v_callK k__law_sum hr (va_cons (v_ix (v_var (pv 3)) v_int) (va_cons (v_tup (va_cons v_str (va_cons v_int va_nil))) va_nil))) (v_var (pv 2)) (nomark _))))))))), ?_⟩
  clear hr S
  rintro _ M Q ⟨x0, x1, x2, x3, rfl, h⟩
  rw [show vstart N__law_is_shown.length [x0, x1, x2, x3] = [some x0, some x1, some x2, some x3] from rfl]
  obtain ⟨n, k, x, rfl, rfl, rfl, hk, n1, n9, x1, x2, ok, h⟩ := h
  have sz := size1000
  obtain ⟨s1, s2⟩ := stepOf_pos (k := k) n1
  simp only [sSeq, sIf, vOrT, vNotT, vTest]
  refine isi_tuple x3 (fun R r => ⟨x3, rfl, r⟩) ok ⟨_, rfl, ?_⟩
  have no : isTuple x3 = false → Q (.bl false) M := fun e => by
    have : shown n k x x3 = false := by
      cases x3 with
      | tup xs => cases e
      | _ => rfl
    rw [← this]
    exact h
  by_cases ht : isTuple x3 = true
  · obtain ⟨xs, rfl⟩ : ∃ xs, x3 = .tup xs := by
      cases x3 with
      | tup xs => exact ⟨xs, rfl⟩
      | _ => cases ht
    clear no
    rw [ht]
    unfold Okv at ok
    by_cases hl : xs.length = 2
    · obtain ⟨a, b, rfl⟩ : ∃ a b, xs = [a, b] := by
        match xs, hl with
        | [a, b], _ => exact ⟨a, b, rfl⟩
      have oka : Okv M a := okvs_mem ok.2 a List.mem_cons_self
      have okb : Okv M b := okvs_mem ok.2 b (List.mem_cons_of_mem _ List.mem_cons_self)
      simp [-vIsi]
      refine isi_str a (fun R r => ⟨_, rfl, a, rfl, r⟩) oka ?_
      have nostr : isStr a = false → Q (.bl false) M := fun e => by
        have : shown n k x (.tup [a, b]) = false := by
          cases a with
          | str w => cases e
          | _ => rfl
        rw [← this]
        exact h
      by_cases hs : isStr a = true
      · obtain ⟨w, rfl⟩ : ∃ w, a = .str w := by
          cases a with
          | str w => exact ⟨w, rfl⟩
          | _ => cases hs
        clear nostr
        refine .inr ⟨by rw [hs], ?_⟩
        have h' : Q (.bl (shown2 n k x w b)) M := h
        unfold shown2 at h'
        simp
        by_cases hw : w = "divisor"
        · rw [if_pos hw] at h'
          refine .inr ⟨hw, pow1012, pr3_at.mpr ⟨_, _, okb, rfl, rfl, ?_⟩⟩
          have noint : isI b = false → Q (.bl false) M := fun e => by
            cases b with
            | int j => cases e
            | _ => exact h'
          by_cases hi : isI b = true
          · obtain ⟨j, rfl⟩ : ∃ j, b = .int j := by
              cases b with
              | int j => exact ⟨j, rfl⟩
              | _ => cases hi
            by_cases hb : btw 2 1000000000000 (.int j) = true
            · refine .inr ⟨by rw [hb], ?_⟩
              simp only [btw, Bool.and_eq_true, decide_eq_true_eq] at hb
              have e : decide (2 ≤ j) = true := decide_eq_true hb.1
              simp only [e, Bool.true_and] at h'
              refine pr2_at.mpr ⟨n, k, rfl, rfl, hk, n1, n9, _, rfl, j, rfl, by omega, ?_⟩
              by_cases z : stepOf n k % j = 0
              · refine .inr ⟨z, j, rfl, by omega, ?_⟩
                simpa [z] using h'
              · refine .inl ⟨z, ?_⟩
                simpa [z] using h'
            · have hb' := Bool.eq_false_iff.mpr hb
              refine .inl ⟨by rw [hb'], ?_⟩
              simp only [btw, Bool.and_eq_true, decide_eq_true_eq] at hb
              by_cases j2 : 2 ≤ j
              · have e : stepOf n k % j = stepOf n k := Int.emod_eq_of_lt (by omega) (by omega)
                have e2 : decide (stepOf n k = 0) = false := decide_eq_false (by omega)
                simp only [e, e2, Bool.and_false, Bool.false_and] at h'
                exact h'
              · have e : decide (2 ≤ j) = false := decide_eq_false j2
                simp only [e, Bool.false_and] at h'
                exact h'
          · have hi' : isI b = false := Bool.eq_false_iff.mpr hi
            have hb' : btw 2 1000000000000 b = false := by
              cases b with
              | int j => cases hi'
              | _ => rfl
            exact .inl ⟨by rw [hb'], noint hi'⟩
        · rw [if_neg hw] at h'
          refine .inl ⟨hw, ?_⟩
          by_cases hw2 : w = "square"
          · rw [if_pos hw2] at h'
            refine .inl ⟨hw2, pow109, pr3_at.mpr ⟨_, _, okb, rfl, rfl, ?_⟩⟩
            by_cases hq : isSqB (-1000000000) 1000000000 b = true
            · obtain ⟨m, rfl, hm⟩ := is_sq hq
              refine .inr ⟨by rw [hq], ?_⟩
              have hq' : isSqB (-1000000000) 1000000000 (sqD m) = true := hq
              rw [hq', unD_sq, Bool.true_and, show lenT (sqD m) = m.length by simp [sqD, lenT]] at h'
              have e1 : ((m.length : Int) = (n : Int)) ↔ m.length = n := by omega
              refine (show ∃ n', some (m.map fun r => D.tup (r.map D.int)).length = some n' ∧ _ from ⟨_, rfl, ?_⟩)
              rw [List.length_map]
              by_cases hn : m.length = n
              · have e2 : decide (m.length = n) = true := decide_eq_true hn
                rw [e2, Bool.true_and] at h'
                subst hn
                simp
                refine pr2_at.mpr ⟨m, k, rfl, rfl, hk, hm, ?_⟩
                cases ha : alike (sumsOf m.length m k) with
                | false =>
                  rw [ha, Bool.false_and] at h'
                  exact .inl ⟨rfl, h'⟩
                | true =>
                  rw [ha, Bool.true_and] at h'
                  refine .inr ⟨rfl, pr2_at.mpr ⟨m, ("row", 0), rfl, rfl, hm, Int.le_refl 0, by show (0 : Int) < _; omega, ?_⟩⟩
                  simp
                  exact h'
              · have e2 : decide (m.length = n) = false := decide_eq_false hn
                simp only [e2, Bool.false_and] at h'
                simp [e1, hn]
                exact h'
            · have hq' : isSqB (-1000000000) 1000000000 b = false := Bool.eq_false_iff.mpr hq
              simp only [hq', Bool.false_and] at h'
              exact .inl ⟨by rw [hq'], h'⟩
          · rw [if_neg hw2] at h'
            exact .inr ⟨hw2, h'⟩
      · have hs' : isStr a = false := Bool.eq_false_iff.mpr hs
        exact .inl ⟨by rw [hs'], nostr hs'⟩
    · have hl' : ¬ ((xs.length : Int) = 2) := by omega
      have : shown n k x (.tup xs) = false := by
        unfold shown
        split
        · rename_i heq; cases heq; simp at hl
        · rfl
      rw [this] at h
      simp [-vIsi, hl', h]
  · have ht' : isTuple x3 = false := Bool.eq_false_iff.mpr ht
    rw [ht']
    simpa using no ht'
end K46
namespace K46
open PySem PySem.Spec L2 VL
def goodB (n : Nat) (k : Str) (m : List (List Int)) : Bool := decide (m.length = n) && (m.all fun r => decide (r.length = n) && r.all fun x => decide (x.natAbs ≤ 10)) && (sumsOf n m k).all fun s => decide (s = sumOf n m ("row", 0)) && decide (s % stepOf n k = 0)
def baseC (n : Nat) (k : Str) : Bool := spaceC n k && !(baseOf n k).isEmpty && (baseOf n k).all (goodB n k)
theorem base_all : ((List.range 5).all fun i => baseC (i + 1) "rows" && baseC (i + 1) "magic" && baseC (i + 1) "round") = true := by decide +kernel
end K46
namespace K46
open PySem PySem.Spec L2 VL
theorem base_c {n : Nat} {k : Str} (h1 : 1 ≤ n) (h5 : n ≤ 5) (hk : Kd k) : baseC n k = true := by
  have := List.all_eq_true.mp base_all (n - 1) (List.mem_range.mpr (by omega))
  rw [show n - 1 + 1 = n by omega] at this
  simp only [Bool.and_eq_true] at this
  rcases hk with rfl | rfl | rfl
  · exact this.1.1
  · exact this.1.2
  · exact this.2
/-- what stays of squares of a kind -/
structure Lin (n : Nat) (k : Str) (B : Nat) (m : List (List Int)) : Prop where
  len : m.length = n
  row : ∀ r ∈ m, r.length = n
  bd : ∀ r ∈ m, ∀ x ∈ r, x.natAbs ≤ B
  sum : ∃ s, s % stepOf n k = 0 ∧ ∀ l ∈ linesOf n k, sumOf n m l = s
theorem Lin.sq {n : Nat} {k : Str} {B : Nat} {m : List (List Int)} (h : Lin n k B m) (n1 : 1 ≤ n) (n9 : n ≤ 9) (hB : B ≤ 1000000000) : Sq n m :=
  ⟨n1, n9, h.len, h.row, fun r hr x hx => by have := h.bd r hr x hx; omega⟩
theorem base_lin {n : Nat} {k : Str} (n1 : 1 ≤ n) (n9 : n ≤ 9) {m : List (List Int)} (h : goodB n k m = true) : Lin n k 10 m := by
  simp only [goodB, Bool.and_eq_true, List.all_eq_true, decide_eq_true_eq] at h
  obtain ⟨⟨a, b⟩, c⟩ := h
  obtain ⟨ls, hls⟩ := lines_cons k n1
  have mem : ∀ l ∈ linesOf n k, sumOf n m l ∈ sumsOf n m k := fun l hl => by unfold sumsOf; exact List.mem_map_of_mem hl
  have h0 := c _ (mem ("row", 0) (by rw [hls]; exact List.mem_cons_self))
  exact ⟨a, fun r hr => (b r hr).1, fun r hr => (b r hr).2, _, h0.2, fun l hl => (c _ (mem l hl)).1⟩
theorem entry_times (m : List (List Int)) (t : Int) (c : Int × Int) : entry (timesBy m t) c = entry m c * t := by
  unfold entry timesBy
  rw [List.getD_eq_getElem?_getD, List.getD_eq_getElem?_getD, List.getElem?_map, List.getD_eq_getElem?_getD, List.getD_eq_getElem?_getD]
  cases m[c.1.toNat]? with
  | none => simp
  | some r =>
    simp only [Option.map_some, Option.getD_some]
    rw [List.getElem?_map]
    cases r[c.2.toNat]? with
    | none => simp
    | some x => simp
theorem entry_add {n : Nat} {a b : List (List Int)} (ha : a.length = n) (hb : b.length = n) (ra : ∀ r ∈ a, r.length = n) (rb : ∀ r ∈ b, r.length = n) {c : Int × Int} (h1 : 0 ≤ c.1) (h2 : c.1 < n) (h3 : 0 ≤ c.2) (h4 : c.2 < n) : entry (addM a b) c = entry a c + entry b c := by
  have i1 : c.1.toNat < a.length := by omega
  have i2 : c.1.toNat < b.length := by omega
  have j1 : c.2.toNat < (a[c.1.toNat]).length := by rw [ra _ (List.getElem_mem i1)]; omega
  have j2 : c.2.toNat < (b[c.1.toNat]).length := by rw [rb _ (List.getElem_mem i2)]; omega
  unfold entry addM
  simp [List.getElem?_eq_getElem i1, List.getElem?_eq_getElem i2, List.getElem?_eq_getElem j1, List.getElem?_eq_getElem j2, List.getElem?_zip_eq_some, List.getElem?_map]
  have e : (a.zip b)[c.1.toNat]? = some (a[c.1.toNat], b[c.1.toNat]) := by
    rw [List.getElem?_zip_eq_some]
    exact ⟨List.getElem?_eq_getElem i1, List.getElem?_eq_getElem i2⟩
  rw [e]
  simp
  have e2 : ((a[c.1.toNat]).zip (b[c.1.toNat]))[c.2.toNat]? = some ((a[c.1.toNat])[c.2.toNat], (b[c.1.toNat])[c.2.toNat]) := by
    rw [List.getElem?_zip_eq_some]
    exact ⟨List.getElem?_eq_getElem j1, List.getElem?_eq_getElem j2⟩
  rw [e2]
  simp
theorem sum_mul {α : Type} (f g : α → Int) (t : Int) : ∀ xs : List α, (∀ x ∈ xs, g x = f x * t) → (xs.map g).sum = (xs.map f).sum * t
  | [], _ => by simp
  | x :: xs, h => by
    rw [List.map_cons, List.map_cons, List.sum_cons, List.sum_cons, sum_mul f g t xs (fun y hy => h y (List.mem_cons_of_mem _ hy)), h x List.mem_cons_self, Int.add_mul]
theorem sum_add {α : Type} (f g u : α → Int) : ∀ xs : List α, (∀ x ∈ xs, u x = f x + g x) → (xs.map u).sum = (xs.map f).sum + (xs.map g).sum
  | [], _ => by simp
  | x :: xs, h => by
    rw [List.map_cons, List.map_cons, List.map_cons, List.sum_cons, List.sum_cons, List.sum_cons, sum_add f g u xs (fun y hy => h y (List.mem_cons_of_mem _ hy)), h x List.mem_cons_self]
    omega
theorem Lin.times {n : Nat} {k : Str} {B : Nat} {m : List (List Int)} (h : Lin n k B m) {t : Int} (ht : t.natAbs ≤ 3) : Lin n k (3 * B) (timesBy m t) := by
  obtain ⟨s, s1, s2⟩ := h.sum
  refine ⟨by simp [timesBy, h.len], fun r hr => ?_, fun r hr x hx => ?_, s * t, ?_, fun l hl => ?_⟩
  · obtain ⟨q, hq, rfl⟩ := List.mem_map.mp hr
    rw [List.length_map]; exact h.row q hq
  · obtain ⟨q, hq, rfl⟩ := List.mem_map.mp hr
    obtain ⟨y, hy, rfl⟩ := List.mem_map.mp hx
    rw [Int.natAbs_mul, Nat.mul_comm]
    exact Nat.mul_le_mul ht (h.bd q hq y hy)
  · exact Int.emod_eq_zero_of_dvd (Int.dvd_mul_of_dvd_left (Int.dvd_of_emod_eq_zero s1))
  · rw [← s2 l hl]
    exact sum_mul _ _ t _ fun c _ => entry_times m t c
theorem Lin.add {n : Nat} {k : Str} {B C : Nat} {a b : List (List Int)} (ha : Lin n k B a) (hb : Lin n k C b) (n1 : 1 ≤ n) : Lin n k (B + C) (addM a b) := by
  obtain ⟨s, s1, s2⟩ := ha.sum
  obtain ⟨t, t1, t2⟩ := hb.sum
  refine ⟨by simp [addM, ha.len, hb.len], fun r hr => ?_, fun r hr x hx => ?_, s + t, ?_, fun l hl => ?_⟩
  · obtain ⟨p, hp, rfl⟩ := List.mem_map.mp hr
    have hm := List.of_mem_zip (show (p.1, p.2) ∈ a.zip b from hp)
    simp [ha.row _ hm.1, hb.row _ hm.2]
  · obtain ⟨p, hp, rfl⟩ := List.mem_map.mp hr
    obtain ⟨q, hq, rfl⟩ := List.mem_map.mp hx
    have hm := List.of_mem_zip (show (p.1, p.2) ∈ a.zip b from hp)
    have hm2 := List.of_mem_zip (show (q.1, q.2) ∈ p.1.zip p.2 from hq)
    have := ha.bd _ hm.1 _ hm2.1
    have := hb.bd _ hm.2 _ hm2.2
    omega
  · exact Int.emod_eq_zero_of_dvd (Int.dvd_add (Int.dvd_of_emod_eq_zero s1) (Int.dvd_of_emod_eq_zero t1))
  · rw [← s2 l hl, ← t2 l hl]
    obtain ⟨l0, l1⟩ := lines_in n1 l hl
    exact sum_add _ _ _ _ fun c hc => by
      obtain ⟨c1, c2, c3, c4⟩ := cells_in l0 l1 c hc
      exact entry_add ha.len hb.len ha.row hb.row c1 c2 c3 c4
theorem Lin.fin {n : Nat} {k : Str} {B : Nat} {m : List (List Int)} (h : Lin n k B m) (n1 : 1 ≤ n) : alike (sumsOf n m k) = true ∧ sumOf n m ("row", 0) % stepOf n k = 0 := by
  obtain ⟨s, s1, s2⟩ := h.sum
  obtain ⟨ls, hls⟩ := lines_cons k n1
  have h0 := s2 ("row", 0) (by rw [hls]; exact List.mem_cons_self)
  refine ⟨?_, by rw [h0]; exact s1⟩
  have hs : sumsOf n m k = s :: ls.map (sumOf n m) := by
    unfold sumsOf
    rw [hls, List.map_cons, h0]
  unfold alike
  rw [hs, List.all_eq_true]
  intro x hx
  rw [decide_eq_true_eq, List.headD_cons]
  rw [← hs] at hx
  obtain ⟨l, hl, rfl⟩ := List.mem_map.mp hx
  exact s2 l hl
abbrev N__law_is_drawn_right : List Str := ["pot", "kind", "order", "square", "one", "row", "number"]
abbrev P__law_is_drawn_right : List Str := ["pot", "kind"]
theorem sc__law_is_drawn_right : FnScope N__law_is_drawn_right P__law_is_drawn_right (defScope s__law_is_drawn_right) := ⟨rfl, rfl, rfl, by decide +kernel, rfl, by decide +kernel, by decide +kernel⟩
def p__law_is_drawn_right : VSp := pr2 fun a b M Q => ∃ (p : Addr) (l : List D) (B : Nat) (k : Str), a = .obj p ∧ b = .str k ∧ M p = some (.lst l) ∧ Pot B l ∧ B < 900000 ∧ Kd k ∧ ∀ l', Pot (B + 30) l' → Q (.bl true) (mupd M p (.lst l'))
theorem ok__law_is_drawn_right {P : Program} {w : World} {K : PySem.W.Frag} {mg : Str → Option Value} {base : Heap} (hD : Df K mg "_law_is_drawn_right" s__law_is_drawn_right) (hB : Fr mg bl) (k__law_take : Kn P w K mg base 1 "_law_take" P__law_take p__law_take) (k_times : Kn P w K mg base 6 "times" P_times p_times) (k_space_base : Kn P w K mg base 6 "space_base" P_space_base p_space_base) (k_added : Kn P w K mg base 7 "added" P_added p_added) (k__law_is_of : Kn P w K mg base 3 "_law_is_of" P__law_is_of p__law_is_of) (k__law_sum : Kn P w K mg base 2 "_law_sum" P__law_sum p__law_sum) (k_sum_step : Kn P w K mg base 4 "sum_step" P_sum_step p_sum_step) : Kn P w K mg base 8 "_law_is_drawn_right" P__law_is_drawn_right p__law_is_drawn_right := by
  have S := sc__law_is_drawn_right
  refine kn_of hD sc__law_is_drawn_right (fun _ _ _ _ _ _ us hl => match us, hl with | [_, _], _ => rfl) pr2_len ?_
  intro f cdv A outer s H E hr
  refine ⟨_, (vss_cons (vs_set (i := 2) S.nd rfl (Or.inl rfl) (v_op o_add v_int (v_callK k__law_take hr (va_cons (v_var (pv 0)) (va_cons v_int va_nil))))) (vss_cons (vs_set (i := 3) S.nd rfl (Or.inl rfl) (v_callK k_times hr (va_cons (v_ix (v_callK k_space_base hr (va_cons (v_var (pv 2)) (va_cons (v_var (pv 1)) va_nil))) v_int) (va_cons v_int va_nil)))) (vss_cons (vs_for PassesOwn.never rfl (vi_seq (v_callK k_space_base hr (va_cons (v_var (pv 2)) (va_cons (v_var (pv 1)) va_nil)))) (vg_name (pg_name (i := 4) S.nd rfl (by first | exact Or.inl rfl | exact Or.inr rfl))) (vss_one (vs_if (t_cmp o_lt (v_callB (c_maxL rfl) (hB _ (by decide +kernel)) (va_cons (v_lc (own := [("row", 5)]) rfl S.nd (vi_seq (v_var (pv 4))) (blkOk_by (by first | rfl | kernel_rfl)) (lcg_name (fun _ _ _ _ _ => pg_name (i := 5) S.nd rfl (by first | exact Or.inl rfl | exact Or.inr rfl))) (fun _ _ _ _ _ => vts_nil) (fun _ _ _ _ _ => (v_callB (c_maxL rfl) (hB _ (by decide +kernel)) (va_cons (v_lc (own := [("number", 6)]) rfl S.nd (vi_seq (v_var (pv 5))) (blkOk_by (by first | rfl | kernel_rfl)) (lcg_name (fun _ _ _ _ _ => pg_name (i := 6) S.nd rfl (by first | exact Or.inl rfl | exact Or.inr rfl))) (fun _ _ _ _ _ => vts_nil) (fun _ _ _ _ _ => (v_callB c_abs (hB _ (by decide +kernel)) (va_cons (v_var (pv 6)) va_nil)))) va_nil)))) va_nil)) (v_op o_pow v_int v_int) (nomark _)) (vss_one (vs_set (i := 3) S.nd rfl (Or.inl rfl) (v_callK k_added hr (va_cons (v_var (pv 3)) (va_cons (v_callK k_times hr (va_cons (v_var (pv 4)) (va_cons (v_op o_sub (v_callK k__law_take hr (va_cons (v_var (pv 0)) (va_cons v_int va_nil))) v_int) va_nil))) va_nil))))) vss_nil))) (vss_one (vs_ret (v_and (v_callK k__law_is_of hr (va_cons (v_var (pv 3)) (va_cons (v_var (pv 1)) va_nil))) (v_one (v_cmp (o_eq hr.r) (v_op o_mod (v_callK k__law_sum hr (va_cons (v_var (pv 3)) (va_cons (v_tup (va_cons v_str (va_cons v_int va_nil))) va_nil))) (v_callK k_sum_step hr (va_cons (v_var (pv 2)) (va_cons (v_var (pv 1)) va_nil)))) v_int (nomark _))))))))), ?_⟩
  clear hr S
  rintro _ M Q ⟨x0, x1, rfl, h⟩
  rw [show vstart N__law_is_drawn_right.length [x0, x1] = [some x0, some x1, none, none, none, none, none] from rfl]
  obtain ⟨p, l, B, k, rfl, rfl, hM, hl, hB', hk, h⟩ := h
  have sz := size1000
  simp
  refine pr2_at.mpr ⟨p, l, B, 5, rfl, rfl, hM, hl, by omega, by decide, by decide, fun d l1 hd hl1 => ?_⟩
  simp only [oAdd]
  obtain ⟨n, hn, n1, n5⟩ : ∃ n : Nat, (1 : Int) + (d : Int) = n ∧ 1 ≤ n ∧ n ≤ 5 := ⟨1 + d, by simp, by omega, by omega⟩
  rw [hn]
  have bc := base_c n1 n5 hk
  simp only [baseC, Bool.and_eq_true, Bool.not_eq_true', List.all_eq_true] at bc
  obtain ⟨⟨bc1, bc2⟩, bc3⟩ := bc
  have hbl : (baseOf n k).length ≤ 25 := by
    unfold baseOf
    rw [List.length_map]
    have := (spaceOf_len (n := n) (k := k)).1
    have : n * n ≤ 5 * 5 := Nat.mul_le_mul n5 n5
    omega
  refine pr2_at.mpr ⟨n, k, rfl, rfl, hk, n1, by omega, bc1, ?_⟩
  generalize hbase : baseOf n k = base at *
  cases hb0 : base with
  | nil => rw [hb0] at bc2; cases bc2
  | cons b0 bs =>
  have L0 := base_lin n1 (by omega) (bc3 b0 (by rw [hb0]; exact List.mem_cons_self))
  have L0t := L0.times (t := 0) (by decide)
  have S0 : Sq b0.length b0 := by rw [L0.len]; exact L0.sq n1 (by omega) (by omega)
  rw [← hb0]
  show ∃ d, atI (base.map sqD) 0 = some d ∧ _
  refine ⟨sqD b0, by rw [hb0, List.map_cons, atI_0] <;> rfl, ?_⟩
  refine pr2_at.mpr ⟨b0, 0, rfl, rfl, S0, by decide, by decide, by rw [L0.len]; exact L0t.sq n1 (by omega) (by omega), ?_⟩
  have LB : ∀ b ∈ base, Lin n k 10 b := fun b hb => base_lin n1 (by omega) (bc3 b hb)
  refine sFor_al base sqD (fun i e M' => ∃ sq l', Lin n k (30 + 30 * i) sq ∧ Pot (B + 1 + i) l' ∧ M' = mupd M p (.lst l') ∧ ∃ y4 y5 y6, e = [some (.obj p), some (.str k), some (.int n), some (sqD sq), y4, y5, y6]) (w := ⟨base.map sqD, fun M' => asI M' (.tup (base.map sqD)) = some (base.map sqD)⟩) (fun R r => ?_) rfl ⟨_, l1, L0t, hl1, rfl, _, _, _, rfl⟩ (fun _ _ _ _ _ => rfl) (fun i b e M' hxi hi hp => ?_) (fun e M' hp => ?_)
  · simp
    exact pr2_at.mpr ⟨n, k, rfl, rfl, hk, n1, by omega, bc1, by rw [hbase]; exact ⟨_, rfl, r⟩⟩
  · obtain ⟨sq, l', Ls, hl', rfl, y4, y5, y6, rfl⟩ := hp
    have Lb := LB b (List.mem_of_getElem? hxi)
    have bl : b.length = n := Lb.len
    have b1 : 0 < b.length := by omega
    simp
    refine vLc_of (show iSeq (vVar 4) _ _ _ from ⟨_, rfl, _, rfl, ?_⟩)
    refine ⟨fun i acc M1 => M1 = mupd M p (.lst l') ∧ ∃ zs : List Int, acc = zs.map D.int ∧ zs.length = i ∧ ∀ z ∈ zs, z ≤ 10, ⟨rfl, [], rfl, rfl, by simp⟩, fun _ _ _ _ _ => rfl, fun j dd acc M1 hd hp => ?_, fun acc M1 hp => ?_⟩
    · obtain ⟨rfl, zs, rfl, hzl, hz⟩ := hp
      have hd' : (b.map fun r : List Int => D.tup (r.map D.int))[j]? = some dd := hd
      have hjl : j < b.length := by
        have := (List.getElem?_eq_some_iff.mp hd').1
        simpa using this
      rw [List.getElem?_map, List.getElem?_eq_getElem hjl] at hd'
      cases hd'
      have hr := List.getElem_mem hjl
      generalize b[j] = r at *
      have rl := Lb.row r hr
      simp [vwipe]
      refine vLc_al r D.int (fun x => .int (if x < 0 then -x else x)) (w := ⟨r.map D.int, fun M' => asI M' (.tup (r.map D.int)) = some (r.map D.int)⟩) (fun R r => ?_) rfl rfl (by omega) (fun x hx A hA => ?_) ?_
      · simpa [asI] using r
      · simp [vwipe]
        exact hA
      · refine ⟨r.map fun x => if x < 0 then -x else x, by simp [Function.comp_def], by simp; omega, fun m hm _ => ?_⟩
        obtain ⟨x, hx, rfl⟩ := List.mem_map.mp hm
        have := Lb.bd r hr x hx
        refine ⟨by omega, rfl, zs ++ [if x < 0 then -x else x], by simp, by simp [hzl], fun z hz' => ?_⟩
        rcases List.mem_append.mp hz' with hz' | hz'
        · exact hz z hz'
        · cases List.mem_singleton.mp hz'
          rw [abs_nat]; omega
    · obtain ⟨rfl, zs, rfl, hzl, hz⟩ := hp
      have hzl' : zs.length = b.length := by
        rw [hzl]
        show (b.map fun r : List Int => D.tup (r.map D.int)).length = b.length
        rw [List.length_map]
      refine ⟨zs, rfl, by omega, fun m hm _ => ⟨pow106, m, rfl, ?_⟩⟩
      rw [if_pos (by have := hz m hm; omega)]
      refine pr2_at.mpr ⟨p, l', B + 1 + i, 7, rfl, rfl, mupd_same, hl', by omega, by decide, by decide, fun c l2 hc hl2 => ?_⟩
      refine ⟨c, rfl, ?_⟩
      rw [mupd_mupd]
      have hc3 : ((c : Int) - 3).natAbs ≤ 3 := by omega
      have Lt := Lb.times hc3
      have La := Ls.add Lt n1
      refine pr2_at.mpr ⟨b, (c : Int) - 3, rfl, rfl, by rw [bl]; exact Lb.sq n1 (by omega) (by omega), by omega, by omega, by rw [bl]; exact Lt.sq n1 (by omega) (by omega), ?_⟩
      refine pr2_at.mpr ⟨sq, timesBy b ((c : Int) - 3), rfl, rfl, by rw [Ls.len]; exact Ls.sq n1 (by omega) (by omega), by rw [Ls.len]; exact Lt.sq n1 (by omega) (by omega), fun r hr x hx => by have := La.bd r hr x hx; omega, ?_⟩
      exact ⟨_, by rw [show 30 + 30 * (i + 1) = 30 + 30 * i + 3 * 10 by omega]; exact La, l2, hl2, rfl, rfl⟩
  · obtain ⟨sq, l', Ls, hl', rfl, y4, y5, y6, rfl⟩ := hp
    have Sq1 : Sq sq.length sq := by rw [Ls.len]; exact Ls.sq n1 (by omega) (by omega)
    obtain ⟨f1, f2⟩ := Ls.fin n1
    obtain ⟨s1, s2⟩ := stepOf_pos (k := k) n1
    simp
    refine pr2_at.mpr ⟨sq, k, rfl, rfl, hk, Sq1, ?_⟩
    rw [Ls.len, f1]
    refine .inr ⟨rfl, pr2_at.mpr ⟨sq, ("row", 0), rfl, rfl, Sq1, Int.le_refl 0, by rw [Ls.len]; show (0 : Int) < _; omega, ?_⟩⟩
    rw [Ls.len]
    refine pr2_at.mpr ⟨n, k, rfl, rfl, hk, n1, by omega, ?_⟩
    refine ⟨_, rfl, _, rfl, by omega, ?_⟩
    rw [decide_eq_true f2]
    exact h l' (potUp hl' (by omega))
end K46
namespace K46
open PySem PySem.Spec L2 VL
theorem oNe_bl {a b : Bool} {M : Mem} {Q : VL.VK} (q : Q (.bl (!(a == b))) M) : oNe (.bl a) (.bl b) M Q := by
  refine .inr ⟨?_, ?_, ?_⟩
  · exact sh_bl
  · exact sh_bl
  · have : eqD (fz M (.bl a)) (fz M (.bl b)) = (a == b) := eqD_bl
    rw [this]
    exact q
theorem sum_times {n : Nat} {m : List (List Int)} {t : Int} {l : Str × Int} : sumOf n (timesBy m t) l = sumOf n m l * t := sum_mul _ _ t _ fun c _ => entry_times m t c
theorem bt_sq {n : Nat} {m : List (List Int)} (h : Sq n m) (d : Nat) : Bt (d + 2) (sqD m) := by
  obtain ⟨q1, q2, q3, q4, q5⟩ := h
  refine ⟨by rw [List.length_map]; omega, fun y hy => ?_⟩
  obtain ⟨r, hr, rfl⟩ := List.mem_map.mp hy
  refine ⟨by rw [List.length_map, q4 r hr]; omega, fun z hz => ?_⟩
  obtain ⟨i, _, rfl⟩ := List.mem_map.mp hz
  cases d <;> trivial
theorem told_shape {n : Nat} {k : Str} {x : Int} (hk : Kd k) (n1 : 1 ≤ n) (n9 : n ≤ 9) (x1 : -1000000 ≤ x) (x2 : x ≤ 1000000) : ∃ w b, told n k x = .tup [.str w, b] ∧ shown n k x (.tup [.str w, b]) = true ∧ Bt 4 (.tup [.str w, b]) ∧
    ((x % stepOf n k = 0 ∧ w = "square" ∧ ∃ m, b = sqD m ∧ Sq n m) ∨ (¬ x % stepOf n k = 0 ∧ w = "divisor" ∧ b = .int (stepOf n k))) := by
  have L := lsq_ok n1 n9 hk
  obtain ⟨s1, s2⟩ := stepOf_pos (k := k) n1
  unfold told
  by_cases z : x % stepOf n k = 0
  · rw [if_pos z]
    have q1 : (x / stepOf n k).natAbs ≤ x.natAbs := Int.natAbs_ediv_le_natAbs x (stepOf n k)
    have q2 : stepOf n k * (x / stepOf n k) = x := Int.mul_ediv_cancel_of_emod_eq_zero z
    generalize x / stepOf n k = q at *
    have S : Sq n (timesBy (lsq n k) q) := by
      refine ⟨n1, n9, by simp [timesBy, L.len], fun r hr => ?_, fun r hr y hy => ?_⟩
      · obtain ⟨r', hr', rfl⟩ := List.mem_map.mp hr
        rw [List.length_map]; exact L.row r' hr'
      · obtain ⟨r', hr', rfl⟩ := List.mem_map.mp hr
        obtain ⟨y', hy', rfl⟩ := List.mem_map.mp hy
        rcases L.ent r' hr' y' hy' with rfl | rfl
        · simp
        · simp; omega
    have S' : Sq (timesBy (lsq n k) q).length (timesBy (lsq n k) q) := by rw [S.2.2.1]; exact S
    have hl : lenT (sqD (timesBy (lsq n k) q)) = n := by simp [sqD, lenT, S.2.2.1]
    have hsum : ∀ l ∈ linesOf n k, sumOf n (timesBy (lsq n k) q) l = x := fun l hl => by
      rw [sum_times, L.sum (sumOf n (lsq n k) l) (by unfold sumsOf; exact List.mem_map_of_mem hl), q2]
    obtain ⟨ls, hls⟩ := lines_cons k n1
    have h0 := hsum ("row", 0) (by rw [hls]; exact List.mem_cons_self)
    have hal : alike (sumsOf n (timesBy (lsq n k) q) k) = true := by
      unfold alike
      rw [List.all_eq_true]
      intro y hy
      have hs : sumsOf n (timesBy (lsq n k) q) k = x :: ls.map (sumOf n (timesBy (lsq n k) q)) := by
        unfold sumsOf
        rw [hls, List.map_cons, h0]
      rw [decide_eq_true_eq, hs, List.headD_cons]
      unfold sumsOf at hy
      obtain ⟨l, hl, rfl⟩ := List.mem_map.mp hy
      exact hsum l hl
    refine ⟨"square", _, rfl, ?_, ⟨by simp, fun y hy => ?_⟩, .inl ⟨z, rfl, _, rfl, S⟩⟩
    · have d1 : ¬ ("square" : Str) = "divisor" := by decide
      show shown2 n k x "square" (sqD (timesBy (lsq n k) q)) = true
      unfold shown2
      rw [if_neg d1, if_pos rfl, sq_is S', hl, unD_sq, hal, h0, decide_eq_true rfl, decide_eq_true rfl]
      rfl
    · simp only [List.mem_cons, List.not_mem_nil, or_false] at hy
      rcases hy with rfl | rfl
      · show PyData.strOk _ = true
        decide +kernel
      · exact bt_sq S 1
  · rw [if_neg z]
    refine ⟨"divisor", _, rfl, ?_, ⟨by simp, fun y hy => ?_⟩, .inr ⟨z, rfl, rfl⟩⟩
    · show shown2 n k x "divisor" (.int (stepOf n k)) = true
      unfold shown2
      have s3 : 2 ≤ stepOf n k := by
        rcases Int.lt_or_le (stepOf n k) 2 with h | h
        · have : stepOf n k = 1 := by omega
          rw [this] at z
          omega
        · exact h
      rw [if_pos rfl]
      simp [s3, z]
    · simp only [List.mem_cons, List.not_mem_nil, or_false] at hy
      rcases hy with rfl | rfl
      · show PyData.strOk _ = true
        decide +kernel
      · trivial
theorem okl {M : Mem} {xs : List D} (h : ∀ x ∈ xs, Okv M x) (hl : xs.length ≤ 1000) : Okv M (.tup xs) := by
  unfold Okv
  exact ⟨hl, okvs_of h⟩
theorem okL {M : Mem} {xs : List D} : Okv M (.lst xs) := by
  unfold Okv
  trivial
theorem ok1 {M : Mem} {x : D} (h : Okv M x) : Okv M (.tup [x]) := okl (fun y hy => by cases List.mem_singleton.mp hy; exact h) (by simp)
theorem ok2 {M : Mem} {x y : D} (h : Okv M x) (h' : Okv M y) : Okv M (.tup [x, y]) := okl (fun z hz => by
  rcases List.mem_cons.mp hz with rfl | hz
  · exact h
  · cases List.mem_singleton.mp hz; exact h') (by simp)
theorem ok3 {M : Mem} {x y u : D} (h : Okv M x) (h' : Okv M y) (h2 : Okv M u) : Okv M (.tup [x, y, u]) := okl (fun z hz => by
  rcases List.mem_cons.mp hz with rfl | hz
  · exact h
  · rcases List.mem_cons.mp hz with rfl | hz
    · exact h'
    · cases List.mem_singleton.mp hz; exact h2) (by simp)
/-- values that are plain in any memory -/
def Pl (vals : List D) : Prop := ∀ d ∈ vals, ∀ M : Mem, Okv M d
theorem s_hide {t R : VTS} {K : VEnds} {e : VEnv} {M : Mem} (h : ∀ R' : VTS, R' = R → sSeq t R' K e M) : sSeq t R K e M := h R rfl
abbrev N__law_right : List Str := ["pot", "order", "kind", "number", "told", "other", "values", "value", "divisor_v", "row", "lap"]
abbrev P__law_right : List Str := ["pot"]
theorem sc__law_right : FnScope N__law_right P__law_right (defScope s__law_right) := ⟨rfl, rfl, rfl, by decide +kernel, rfl, by decide +kernel, by decide +kernel⟩
def p__law_right : VSp := pr1 fun a M Q => ∃ (p : Addr) (l : List D) (B : Nat), a = .obj p ∧ M p = some (.lst l) ∧ Pot B l ∧ B < 800000 ∧ ∀ l', Pot (B + 100) l' → Q (.bl true) (mupd M p (.lst l'))
theorem ok__law_right {P : Program} {w : World} {K : PySem.W.Frag} {mg : Str → Option Value} {base : Heap} (hD : Df K mg "_law_right" s__law_right) (hB : Fr mg bl) (k__law_take : Kn P w K mg base 1 "_law_take" P__law_take p__law_take) (k__law_kind : Kn P w K mg base 3 "_law_kind" P__law_kind p__law_kind) (k__law_of : Kn P w K mg base 2 "_law_of" P__law_of p__law_of) (k_sum_told : Kn P w K mg base 5 "sum_told" P_sum_told p_sum_told) (k__law_step : Kn P w K mg base 1 "_law_step" P__law_step p__law_step) (k__law_is_shown : Kn P w K mg base 4 "_law_is_shown" P__law_is_shown p__law_is_shown) (k_turned : Kn P w K mg base 6 "turned" P_turned p_turned) (k_moved : Kn P w K mg base 6 "moved" P_moved p_moved) (k__law_bent : Kn P w K mg base 8 "_law_bent" P__law_bent p__law_bent) (k__law_odd : Kn P w K mg base 3 "_law_odd" P__law_odd p__law_odd) (k_shows_sum : Kn P w K mg base 5 "shows_sum" P_shows_sum p_shows_sum) (k__law_is_drawn_right : Kn P w K mg base 8 "_law_is_drawn_right" P__law_is_drawn_right p__law_is_drawn_right) : Kn P w K mg base 9 "_law_right" P__law_right p__law_right := by
  have S := sc__law_right
  refine kn_ofD hD sc__law_right (fun _ _ _ _ _ _ us hl => match us, hl with | [_], _ => rfl) pr1_len ?_
  intro f cdv A outer s H E hr
  refine ⟨_, (vss_cons (vs_par (i := 1) (j := 2) rfl S.nd rfl rfl (by decide) rfl rfl (va_cons (v_op o_add v_int (v_callK k__law_take hr (va_cons (v_var (pv 0)) (va_cons v_int va_nil)))) (va_cons (v_callK k__law_kind hr (va_cons (v_var (pv 0)) va_nil)) va_nil)) (by rfl)) (vss_cons (vs_set (i := 3) S.nd rfl (Or.inl rfl) (v_callK k__law_of hr (va_cons (v_var (pv 0)) (va_cons (v_lst (va_cons (v_op o_sub (v_callK k__law_take hr (va_cons (v_var (pv 0)) (va_cons v_int va_nil))) v_int) (va_cons (v_op o_sub (v_callK k__law_take hr (va_cons (v_var (pv 0)) (va_cons (v_op o_add (v_op o_mulI v_int (v_op o_pow v_int v_int)) v_int) va_nil))) (v_op o_pow v_int v_int)) va_nil))) va_nil)))) (vss_cons (vs_set (i := 4) S.nd rfl (Or.inr rfl) (v_callK k_sum_told hr (va_cons (v_var (pv 1)) (va_cons (v_var (pv 2)) (va_cons (v_var (pv 3)) va_nil))))) (vss_cons (vs_if (t_pw (t_or (t_cmp (o_ne hr.r) (v_cmp (o_eq hr.r) (v_ix (v_var (pv 4)) v_int) v_str (nomark _)) (v_cmp (o_eq hr.r) (v_op o_mod (v_var (pv 3)) (v_callK k__law_step hr (va_cons (v_var (pv 1)) (va_cons (v_var (pv 2)) va_nil)))) v_int (nomark _)) (nomark _)) (t_or1 (t_not (t_val (v_callK k__law_is_shown hr (va_cons (v_var (pv 1)) (va_cons (v_var (pv 2)) (va_cons (v_var (pv 3)) (va_cons (v_var (pv 4)) va_nil)))))))))) (vss_one (vs_ret v_bl)) vss_nil) (vss_cons (vs_set (i := 5) S.nd rfl (Or.inl rfl) (v_callK k_sum_told hr (va_cons (v_var (pv 1)) (va_cons (v_var (pv 2)) (va_cons (v_op o_mulI v_int (v_op o_sub (v_callK k__law_take hr (va_cons (v_var (pv 0)) (va_cons v_int va_nil))) v_int)) va_nil))))) (vss_cons (vs_set (i := 6) S.nd rfl (Or.inl rfl) (v_lstO (va_cons (v_var (pv 4)) (va_cons (v_callTy c_list (hB _ (by decide +kernel)) (va_cons (v_var (pv 4)) va_nil)) (va_cons (v_sl (v_var (pv 4)) vo_none (vo_some v_int)) (va_cons (v_op o_add (v_var (pv 4)) (v_tup (va_cons v_int va_nil))) (va_cons (v_revT (v_var (pv 4))) (va_cons (v_var (pv 5)) (va_cons (v_tup (va_cons v_str (va_cons v_bl va_nil))) (va_cons (v_tup (va_cons v_str (va_cons (v_ix (v_var (pv 4)) v_int) va_nil))) (va_cons v_non (va_cons (v_tup va_nil) va_nil)))))))))))) (vss_cons (vs_expr (v_extend (v_var (pv 6)) (va_cons (v_lc (own := [("divisor_v", 8)]) rfl S.nd (vi_seq (v_tup (va_cons v_int (va_cons v_int (va_cons v_int (va_cons v_int va_nil)))))) (blkOk_by (by first | rfl | kernel_rfl)) (lcg_name (fun _ _ _ _ _ => pg_name (i := 8) S.nd rfl (by first | exact Or.inl rfl | exact Or.inr rfl))) (fun _ _ _ _ _ => vts_nil) (fun _ _ _ _ _ => (v_tup (va_cons v_str (va_cons (v_var (pv 8)) va_nil))))) va_nil))) (vss_cons (vs_if (t_cmp (o_eq hr.r) (v_ix (v_var (pv 4)) v_int) v_str (nomark _)) (vss_one (vs_expr (v_extend (v_var (pv 6)) (va_cons (v_lst (va_cons (v_tup (va_cons v_str (va_cons (v_callK k_turned hr (va_cons (v_ix (v_var (pv 4)) v_int) (va_cons v_int va_nil))) va_nil))) (va_cons (v_tup (va_cons v_str (va_cons (v_callK k_moved hr (va_cons (v_ix (v_var (pv 4)) v_int) (va_cons v_int (va_cons v_int va_nil)))) va_nil))) (va_cons (v_tup (va_cons v_str (va_cons (v_callTy c_tuple (hB _ (by decide +kernel)) (va_cons (v_lc (own := [("row", 9)]) rfl S.nd (vi_seq (v_ix (v_var (pv 4)) v_int)) (blkOk_by (by first | rfl | kernel_rfl)) (lcg_name (fun _ _ _ _ _ => pg_name (i := 9) S.nd rfl (by first | exact Or.inl rfl | exact Or.inr rfl))) (fun _ _ _ _ _ => vts_nil) (fun _ _ _ _ _ => (v_revT (v_var (pv 9))))) va_nil)) va_nil))) (va_cons (v_tup (va_cons v_str (va_cons (v_sl (v_ix (v_var (pv 4)) v_int) (vo_some v_int) vo_none) va_nil))) va_nil))))) va_nil)))) vss_nil) (vss_cons (vs_for PassesOwn.never rfl (vi_seq (v_op o_add (v_op o_add (v_var (pv 6)) (v_lc (own := [("lap", 10)]) rfl S.nd (vi_range1 (hB _ (by decide +kernel)) (va_cons v_int va_nil)) (blkOk_by (by first | rfl | kernel_rfl)) (lcg_name (fun _ _ _ _ _ => pg_name (i := 10) S.nd rfl (by first | exact Or.inl rfl | exact Or.inr rfl))) (fun _ _ _ _ _ => vts_nil) (fun _ _ _ _ _ => (v_callK k__law_bent hr (va_cons (v_var (pv 0)) (va_cons (v_var (pv 4)) va_nil)))))) (v_lst (va_cons (v_callK k__law_odd hr (va_cons (v_var (pv 0)) va_nil)) va_nil)))) (vg_name (pg_name (i := 7) S.nd rfl (by first | exact Or.inl rfl | exact Or.inr rfl))) (vss_one (vs_if (t_cmp (o_ne hr.r) (v_callB c_reprB (hB _ (by decide +kernel)) (va_cons (v_callK k_shows_sum hr (va_cons (v_var (pv 1)) (va_cons (v_var (pv 2)) (va_cons (v_var (pv 3)) (va_cons (v_var (pv 7)) va_nil))))) va_nil)) (v_callB c_reprB (hB _ (by decide +kernel)) (va_cons (v_callK k__law_is_shown hr (va_cons (v_var (pv 1)) (va_cons (v_var (pv 2)) (va_cons (v_var (pv 3)) (va_cons (v_var (pv 7)) va_nil))))) va_nil)) (nomark _)) (vss_one (vs_ret v_bl)) vss_nil))) (vss_one (vs_ret (v_callK k__law_is_drawn_right hr (va_cons (v_var (pv 0)) (va_cons (v_var (pv 2)) va_nil)))))))))))))), ?_⟩
  clear hr S
  rintro _ M Q ⟨x0, rfl, h⟩
  rw [show vstart N__law_right.length [x0] = [some x0, none, none, none, none, none, none, none, none, none, none] from rfl]
  obtain ⟨p, l, B, rfl, hM, hl, hB', h⟩ := h
  have sz := size1000
  refine s_hide fun R1 hR1 => ?_
  simp
  refine pr2_at.mpr ⟨p, l, B, 9, rfl, rfl, hM, hl, by omega, by decide, by decide, fun d1 l1 hd1 hl1 => ?_⟩
  simp only [oAdd]
  obtain ⟨n, hn, n1, n9⟩ : ∃ n : Nat, (1 : Int) + (d1 : Int) = n ∧ 1 ≤ n ∧ n ≤ 9 := ⟨1 + d1, by simp, by omega, by omega⟩
  rw [hn]
  clear hn
  refine pr1_at.mpr ⟨p, l1, B + 1, rfl, mupd_same, hl1, by omega, fun k l2 hk hl2 => ?_⟩
  rw [mupd_mupd]
  refine ⟨_, _, ⟨rfl, rfl⟩, ?_⟩
  subst hR1
  refine s_hide fun R1 hR1 => ?_
  simp
  refine pr2_at.mpr ⟨p, l2, B + 1 + 1, 40, rfl, rfl, mupd_same, hl2, by omega, by decide, by decide, fun d2 l3 hd2 hl3 => ?_⟩
  rw [mupd_mupd]
  refine ⟨_, rfl, pow106, .inl (by decide), pr2_at.mpr ⟨p, l3, B + 3, 2000001, rfl, rfl, mupd_same, hl3, by omega, by decide, by decide, fun d3 l4 hd3 hl4 => ⟨pow106, _, rfl, ?_⟩⟩⟩
  rw [mupd_mupd]
  refine pr2_at.mpr ⟨p, l4, _, B + 4, rfl, mupd_same, fun _ => ⟨rfl, fun _ => rfl⟩, hl4, by omega, by simp, by simp, fun dx l5 hdx hl5 => ?_⟩
  rw [mupd_mupd]
  obtain ⟨x, rfl, x1, x2⟩ : ∃ x : Int, dx = .int x ∧ -1000000 ≤ x ∧ x ≤ 1000000 := by
    simp only [List.mem_cons, List.not_mem_nil, or_false] at hdx
    rcases hdx with rfl | rfl
    · exact ⟨_, rfl, by omega, by omega⟩
    · exact ⟨_, rfl, by omega, by omega⟩
  clear hdx
  subst hR1
  refine s_hide fun R1 hR1 => ?_
  simp
  refine pr3_at.mpr ⟨n, k, x, rfl, rfl, rfl, hk, n1, n9, x1, x2, ?_⟩
  subst hR1
  have hM5 : mupd M p (.lst l5) p = some (.lst l5) := mupd_same
  refine s_hide fun R1 hR1 => ?_
  have L := lsq_ok n1 n9 hk
  obtain ⟨s1, s2⟩ := stepOf_pos (k := k) n1
  obtain ⟨w, b, ht, hsh, hbt, hw⟩ := told_shape (k := k) hk n1 n9 x1 x2
  rw [ht]
  simp
  refine pr2_at.mpr ⟨n, k, rfl, rfl, hk, n1, n9, _, rfl, by omega, ?_⟩
  refine oNe_bl ?_
  have hweq : (decide (w = "square") == decide (x % stepOf n k = 0)) = true := by
    rcases hw with ⟨z, rfl, _⟩ | ⟨z, rfl, _⟩
    · rw [decide_eq_true z] <;> rfl
    · rw [decide_eq_false z]
      decide
  rw [hweq]
  refine .inl ⟨rfl, pr4_at.mpr ⟨n, k, x, rfl, rfl, rfl, hk, n1, n9, x1, x2, hbt.ok, ?_⟩⟩
  rw [hsh]
  refine .inr ⟨rfl, ?_⟩
  subst hR1
  refine s_hide fun R1 hR1 => ?_
  simp
  refine pr2_at.mpr ⟨p, l5, B + 5, 9, rfl, rfl, hM5, hl5, by omega, by decide, by decide, fun d6 l6 hd6 hl6 => ?_⟩
  rw [mupd_mupd]
  refine ⟨_, rfl, .inl (by decide), pr3_at.mpr ⟨n, k, _, rfl, rfl, rfl, hk, n1, n9, by omega, by omega, ?_⟩⟩
  obtain ⟨w2, b2, ht2, _, hbt2, _⟩ := told_shape (k := k) (x := 6 * ((d6 : Int) - 4)) hk n1 n9 (by omega) (by omega)
  rw [ht2]
  generalize hO : D.tup [D.str w2, b2] = other at *
  subst hR1
  have hM6 : mupd M p (.lst l6) p = some (.lst l6) := mupd_same
  have hbb : Bt 3 b := hbt.2 b (List.mem_cons_of_mem _ List.mem_cons_self)
  generalize hT : D.tup [D.str w, b] = T at *
  refine s_hide fun R1 hR1 => ?_
  rw [← hT]
  simp
  refine (show ∃ xs, asI _ (D.tup [D.str w, b]) = some xs ∧ _ from ⟨_, rfl, ?_⟩)
  refine ⟨by omega, fun v hv => ?_⟩
  have okb : ∀ M' : Mem, Okv M' b := fun M' => hbb.ok
  have okw : ∀ M' : Mem, Okv M' (.str w) := fun M' => by unfold Okv; trivial
  have okT : ∀ M' : Mem, Okv M' T := fun M' => hbt.ok
  have okO : ∀ M' : Mem, Okv M' other := fun M' => hbt2.ok
  have oki : ∀ (M' : Mem) (i : Int), Okv M' (.int i) := fun M' i => by unfold Okv; trivial
  have okB : ∀ (M' : Mem) (i : Bool), Okv M' (.bl i) := fun M' i => by unfold Okv; trivial
  have okS : ∀ (M' : Mem) (i : Str), Okv M' (.str i) := fun M' i => by unfold Okv; trivial
  have okN : ∀ (M' : Mem), Okv M' .non := fun M' => by unfold Okv; trivial
  have pl1 : Pl [D.tup [D.str w, b], .lst [D.str w, b], D.tup (cutD [D.str w, b] none (some 1)), D.tup [D.str w, b, D.int 0], D.tup [b, D.str w], other, D.tup [D.str "divisor", D.bl true], D.tup [D.str "Square", b], D.non, D.tup []] := fun d hd M' => by
    simp only [List.mem_cons, List.not_mem_nil, or_false] at hd
    rcases hd with rfl | rfl | rfl | rfl | rfl | rfl | rfl | rfl | rfl | rfl
    · exact ok2 (okw _) (okb _)
    · exact okL
    · refine okl (fun y hy => ?_) (Nat.le_trans (cut_len _ _ _) (by simp))
      have hy' := cut_mem hy
      simp only [List.mem_cons, List.not_mem_nil, or_false] at hy'
      rcases hy' with rfl | rfl
      · exact okw _
      · exact okb _
    · exact ok3 (okw _) (okb _) (oki _ _)
    · exact ok2 (okb _) (okw _)
    · exact okO M'
    · exact ok2 (okS _ _) (okB _ _)
    · exact ok2 (okS _ _) (okb _)
    · exact okN M'
    · exact okl (fun y hy => nomatch hy) (by simp)
  generalize hV : [D.tup [D.str w, b], .lst [D.str w, b], D.tup (cutD [D.str w, b] none (some 1)), D.tup [D.str w, b, D.int 0], D.tup [b, D.str w], other, D.tup [D.str "divisor", D.bl true], D.tup [D.str "Square", b], D.non, D.tup []] = vals at *
  have vl : vals.length = 10 := by rw [← hV] <;> rfl
  clear hV
  have hvp : v ≠ p := fun e => by subst e; rw [hM6] at hv; cases hv
  have hMv : M v = none := by rw [mupd_ne hvp] at hv; exact hv
  subst hR1
  rw [hT]
  refine s_hide fun R1 hR1 => ?_
  simp
  refine vLc_al [1, 2, 3, 6] D.int (fun i => .tup [.str "divisor", .int i]) (w := ⟨[D.int 1, D.int 2, D.int 3, D.int 6], fun M' => asI M' (.tup [D.int 1, D.int 2, D.int 3, D.int 6]) = some [D.int 1, D.int 2, D.int 3, D.int 6]⟩) (fun R r => ?_) rfl rfl (by simp; omega) (fun i _ A hA => ?_) ?_
  · simpa [asI] using r
  · simp [vwipe]
    exact hA
  refine ⟨vals, mupd_same, _, rfl, by simp; omega, ?_⟩
  rw [mupd_mupd]
  have pl2 : Pl (vals ++ [1, 2, 3, 6].map fun i => D.tup [.str "divisor", .int i]) := fun d hd M' => by
    rcases List.mem_append.mp hd with hd | hd
    · exact pl1 d hd M'
    · obtain ⟨i, _, rfl⟩ := List.mem_map.mp hd
      exact ok2 (okS _ _) (oki _ _)
  have vl2 : (vals ++ [1, 2, 3, 6].map fun i => D.tup [.str "divisor", .int i]).length = 14 := by simp [vl]
  generalize (vals ++ [1, 2, 3, 6].map fun i => D.tup [.str "divisor", .int i]) = vals2 at *
  clear pl1 vl
  subst hR1
  refine s_split (fun M1 => ∃ vals, M1 = mupd (mupd M p (.lst l6)) v (.lst vals) ∧ Pl vals ∧ vals.length ≤ 30) ?_ ?_
  rotate_left
  · intro R' hR'
    subst hT
    simp
    rcases hw with ⟨z, rfl, m, rfl, S⟩ | ⟨z, rfl, rfl⟩
    · refine .inr ⟨rfl, ?_⟩
      have Sm : Sq m.length m := by rw [S.2.2.1]; exact S
      have m9 : m.length ≤ 9 := by rw [S.2.2.1]; exact n9
      refine pr2_at.mpr ⟨m, 1, rfl, rfl, Sm, by decide, ?_⟩
      refine pr3_at.mpr ⟨m, 1, 0, rfl, rfl, rfl, Sm, by decide, by decide, by decide, by decide, ?_⟩
      refine vLc_al m (fun r => .tup (r.map D.int)) (fun r => .tup (r.map D.int).reverse) (w := ⟨m.map fun r => .tup (r.map D.int), fun M' => asI M' (sqD m) = some (m.map fun r => .tup (r.map D.int))⟩) (fun R r => ?_) rfl rfl (by omega) (fun r hr A hA => ?_) ?_
      · exact ⟨_, rfl, sqD m, rfl, _, rfl, r⟩
      · simp [vwipe]
        simpa using hA
      refine (show ∃ xs, asI _ (D.lst (m.map fun r => D.tup (r.map D.int).reverse)) = some xs ∧ _ from ⟨_, rfl, ?_⟩)
      refine (show oSl (D.tup (m.map fun r : List Int => D.tup (r.map D.int))) (some 1) none _ _ from ?_)
      rw [oSl_tup]
      refine ⟨vals2, mupd_same, by omega, ?_⟩
      rw [mupd_mupd]
      refine hR' _ ⟨_, rfl, fun d hd M' => ?_, by simp; omega⟩
      have okm : Okv M' (sqD m) := sq_ok Sm
      have okR : ∀ y ∈ m.map fun r : List Int => D.tup (r.map D.int), Okv M' y := fun y hy => by
        unfold sqD Okv at okm
        exact okvs_mem okm.2 y hy
      rcases List.mem_append.mp hd with hd | hd
      · exact pl2 d hd M'
      · simp only [List.mem_cons, List.not_mem_nil, or_false] at hd
        rcases hd with rfl | rfl | rfl | rfl
        · exact ok2 (okS _ _) (sq_ok (turnBy_sq Sm 1 (1 % 4)))
        · exact ok2 (okS _ _) (sq_ok (mov_sq Sm 1 0))
        · refine ok2 (okS _ _) (okl (fun y hy => ?_) (by rw [List.length_map]; omega))
          obtain ⟨r, hr, rfl⟩ := List.mem_map.mp hy
          refine okl (fun z hz => ?_) (by simp [Sm.2.2.2.1 r hr]; omega)
          obtain ⟨i, _, rfl⟩ := List.mem_map.mp (List.mem_reverse.mp hz)
          exact oki _ _
        · refine ok2 (okS _ _) (okl (fun y hy => okR y (cut_mem hy)) ?_)
          refine Nat.le_trans (cut_len _ _ _) ?_
          rw [List.length_map]; omega
    · exact .inl ⟨by decide, hR' _ ⟨vals2, rfl, pl2, by omega⟩⟩
  rintro _ ⟨vals3, rfl, pl3, vl3⟩
  refine s_hide fun R1 hR1 => ?_
  have hMp3 : mupd (mupd M p (.lst l6)) v (.lst vals3) p = some (.lst l6) := by rw [mupd_ne (Ne.symm hvp)]; exact mupd_same
  have hMv3 : mupd (mupd M p (.lst l6)) v (.lst vals3) v = some (.lst vals3) := mupd_same
  have sub3 : VL.Sub (mupd M p (.lst l6)) (mupd (mupd M p (.lst l6)) v (.lst vals3)) := VL.Sub.new hv
  generalize mupd (mupd M p (.lst l6)) v (.lst vals3) = M3 at *
  simp only [sSeq, sFor, iSeq, vOp, vVar]
  refine ⟨_, rfl, vLc_of ?_⟩
  simp only [iRg1, vaCons, vaNil, vC]
  refine ⟨5, rfl, by decide, by decide, ?_⟩
  refine ⟨fun i acc M' => ∃ l', Pot (B + 6 + 11 * i) l' ∧ M' p = some (.lst l') ∧ M' v = some (.lst vals3) ∧ VL.Sub (mupd M p (.lst l')) M' ∧ acc.length = i ∧ ∀ d ∈ acc, Okv M' d, ⟨l6, by simpa using hl6, hMp3, hMv3, sub3, rfl, fun d hd => nomatch hd⟩, fun _ _ _ _ _ => trivial, fun i d acc M' hd hp => ?_, fun acc M' hp => ?_⟩
  · obtain ⟨l', q1, q2, q3, q4, q5, q6⟩ := hp
    have i5 : i < 5 := by
      have := (List.getElem?_eq_some_iff.mp hd).1
      rw [show (VIt.mk (rgD 0 (5 : Int).toNat) fun _ => True).ds.length = 5 from rfl] at this
      exact this
    simp [vwipe]
    refine pr2_at.mpr ⟨p, l', B + 6 + 11 * i, rfl, q2, q1, by omega, hbt, by decide, fun dd M'' l'' a1 a2 a3 a4 => ?_⟩
    refine ⟨by omega, l'', potUp a4 (by omega), a2, a3 v _ (by rw [mupd_ne hvp]; exact q3), ?_, by simp [q5], fun z hz => ?_⟩
    · have e := VL.Sub.both (p := p) (o := .lst l'') q4
      rw [mupd_mupd] at e
      exact e.trans a3
    · rcases hz with hz | rfl
      · exact Okv.sub a3 z (okvUpd q2 z (q6 z hz))
      · exact a1
  · obtain ⟨l', q1, q2, q3, q4, q5, q6⟩ := hp
    rw [show (VIt.mk (rgD 0 (5 : Int).toNat) fun _ => True).ds.length = 5 from rfl] at q1 q5
    refine ⟨vals3, acc, asP_obj q3, rfl, by omega, ?_⟩
    simp only [vLst, vFn, vaCons, vaNil, vVar]
    refine ⟨_, rfl, pr1_at.mpr ⟨p, l', B + 6 + 11 * 5, rfl, q2, q1, by omega, fun dd M'' l'' a1 a2 a3 a4 => ?_⟩⟩
    refine ⟨by simp, (show ∃ xs ys, asP _ (D.lst (vals3 ++ acc)) = some xs ∧ asP _ (D.lst [dd]) = some ys ∧ _ from ⟨_, _, rfl, rfl, by simp; omega, ?_⟩)⟩
    refine ⟨_, rfl, ?_⟩
    have okA : ∀ z ∈ vals3 ++ acc ++ [dd], Okv M'' z := fun z hz => by
      rcases List.mem_append.mp hz with hz | hz
      · rcases List.mem_append.mp hz with hz | hz
        · exact pl3 z hz M''
        · exact Okv.sub a3 z (okvUpd q2 z (q6 z hz))
      · cases List.mem_singleton.mp hz
        exact a1
    refine ⟨fun i e M1 => M1 = M'' ∧ ∃ y7, e = [some (.obj p), some (.int n), some (.str k), some (.int x), some T, some other, some (.obj v), y7, none, none, none], ⟨rfl, _, rfl⟩, fun _ _ _ _ _ => rfl, fun i z e M1 hz hp => ?_, fun e M1 hp => ?_⟩
    · obtain ⟨rfl, y7, rfl⟩ := hp
      have okz := okA z (List.mem_of_getElem? hz)
      simp
      refine pr4_at.mpr ⟨n, k, x, rfl, rfl, rfl, hk, n1, n9, x1, x2, okz, ?_⟩
      show p__law_is_shown [D.int n, D.str k, D.int x, z] M1 _
      refine pr4_at.mpr ⟨n, k, x, rfl, rfl, rfl, hk, n1, n9, x1, x2, okz, ?_⟩
      refine (show oNe (.str (if shown n k x z = true then "True" else "False")) (.str (if shown n k x z = true then "True" else "False")) M1 _ from .inl ⟨_, _, rfl, rfl, ?_⟩)
      exact .inl ⟨by simp, rfl⟩
    · obtain ⟨rfl, y7, rfl⟩ := hp
      subst hR1
      simp
      refine pr2_at.mpr ⟨p, l'', B + 62, k, rfl, rfl, a2, potUp a4 (by omega), by omega, hk, fun l9 hl9 => ?_⟩
      refine ⟨mupd M p (.lst l9), ?_, h l9 (potUp hl9 (by omega))⟩
      have e := VL.Sub.both (p := p) (o := .lst l'') q4
      rw [mupd_mupd] at e
      have e2 := VL.Sub.both (p := p) (o := .lst l9) (e.trans a3)
      rw [mupd_mupd] at e2
      exact e2
end K46
namespace K46
open PySem PySem.Spec L2 VL
abbrev N_law : List Str := ["script", "order", "kind", "place", "pot", "lap"]
abbrev P_law : List Str := ["script"]
theorem sc_law : FnScope N_law P_law (defScope s_law) := ⟨rfl, rfl, rfl, by decide +kernel, rfl, by decide +kernel, by decide +kernel⟩
def p_law : VSp := pr1 fun a M Q => ∃ ns : List Int, a = .rd (ns.map D.int) ∧ ns.length ≤ 100000 ∧ Q (.bl true) M
theorem ok_law {P : Program} {w : World} {K : PySem.W.Frag} {mg : Str → Option Value} {base : Heap} (hD : Df K mg "law" s_law) (hB : Fr mg bl) (k_sum_step : Kn P w K mg base 4 "sum_step" P_sum_step p_sum_step) (k__law_step : Kn P w K mg base 1 "_law_step" P__law_step p__law_step) (k__law_cells : Kn P w K mg base 1 "_law_cells" P__law_cells p__law_cells) (k__law_pot : Kn P w K mg base 1 "_law_pot" P__law_pot p__law_pot) (k__law_right : Kn P w K mg base 9 "_law_right" P__law_right p__law_right) : Kn P w K mg base 10 "law" P_law p_law := by
  have S := sc_law
  refine kn_ofD hD sc_law (fun _ _ _ _ _ _ us hl => match us, hl with | [_], _ => rfl) pr1_len ?_
  intro f cdv A outer s H E hr
  refine ⟨_, (vss_cons (vs_for PassesOwn.never rfl (vi_range2 (hB _ (by decide +kernel)) (va_cons v_int (va_cons v_int va_nil))) (vg_name (pg_name (i := 1) S.nd rfl (by first | exact Or.inl rfl | exact Or.inr rfl))) (vss_one (vs_for PassesOwn.never rfl (vi_seq (v_tup (va_cons v_str (va_cons v_str (va_cons v_str va_nil))))) (vg_name (pg_name (i := 2) S.nd rfl (by first | exact Or.inl rfl | exact Or.inr rfl))) (vss_one (vs_if (t_cmp (o_ne hr.r) (v_callB c_reprI (hB _ (by decide +kernel)) (va_cons (v_callK k_sum_step hr (va_cons (v_var (pv 1)) (va_cons (v_var (pv 2)) va_nil))) va_nil)) (v_callB c_reprI (hB _ (by decide +kernel)) (va_cons (v_callK k__law_step hr (va_cons (v_var (pv 1)) (va_cons (v_var (pv 2)) va_nil))) va_nil)) (nomark _)) (vss_one (vs_ret v_bl)) vss_nil))))) (vss_cons (vs_for PassesOwn.never rfl (vi_seq (v_callK k__law_cells hr (va_cons (v_var (pv 0)) (va_cons v_int va_nil)))) (vg_name (pg_name (i := 3) S.nd rfl (by first | exact Or.inl rfl | exact Or.inr rfl))) (vss_cons (vs_set (i := 4) S.nd rfl (Or.inr rfl) (v_callK k__law_pot hr (va_cons (v_var (pv 0)) (va_cons (v_var (pv 3)) va_nil)))) (vss_one (vs_if (t_not (t_val (v_callB (c_all rfl) (hB _ (by decide +kernel)) (va_cons (v_lc (own := [("lap", 5)]) rfl S.nd (vi_range1 (hB _ (by decide +kernel)) (va_cons v_int va_nil)) (blkOk_by (by first | rfl | kernel_rfl)) (lcg_name (fun _ _ _ _ _ => pg_name (i := 5) S.nd rfl (by first | exact Or.inl rfl | exact Or.inr rfl))) (fun _ _ _ _ _ => vts_nil) (fun _ _ _ _ _ => (v_callK k__law_right hr (va_cons (v_var (pv 4)) va_nil)))) va_nil)))) (vss_one (vs_ret v_bl)) vss_nil)))) (vss_one (vs_ret v_bl)))), ?_⟩
  clear hr S
  rintro _ M Q ⟨x0, rfl, h⟩
  rw [show vstart N_law.length [x0] = [some x0, none, none, none, none, none] from rfl]
  obtain ⟨ns, rfl, hn, h⟩ := h
  have sz := size1000
  refine s_hide fun R1 hR1 => ?_
  simp
  refine sFor_al (List.range 9) (fun i => .int (1 + ((i : Nat) : Int))) (fun i e M1 => M1 = M ∧ ∃ d1 d2, e = [some (D.rd (List.map D.int ns)), d1, d2, none, none, none]) (w := ⟨rgD 1 9, fun _ => True⟩) (fun R r => by simpa [and_assoc] using r) rfl ⟨rfl, _, _, rfl⟩ (fun _ _ _ _ _ => trivial) (fun i x e M1 hd hi ⟨hM1, d1, d2, he⟩ => ?_) (fun e M1 ⟨hM1, d1, d2, he⟩ => ?_)
  · subst hM1 he
    rw [List.length_range] at hi
    rw [List.getElem?_range hi] at hd
    cases hd
    obtain ⟨n, hn1, n1, n9⟩ : ∃ n : Nat, (1 : Int) + (i : Int) = n ∧ 1 ≤ n ∧ n ≤ 9 := ⟨1 + i, by simp, by omega, by omega⟩
    rw [hn1]
    simp
    refine sFor_al (["rows", "magic", "round"] : List Str) D.str (fun j e M2 => M2 = M1 ∧ ∃ d2, e = [some (D.rd (List.map D.int ns)), some (.int n), d2, none, none, none]) (w := ⟨[D.str "rows", D.str "magic", D.str "round"], fun _ => asI M1 (.tup [D.str "rows", D.str "magic", D.str "round"]) = some [D.str "rows", D.str "magic", D.str "round"]⟩) (fun R r => by simpa [asI] using r) rfl ⟨rfl, _, rfl⟩ (fun _ _ _ _ _ => rfl) (fun j k e M2 hk hj ⟨hM2, d2, he⟩ => ?_) (fun e M2 ⟨hM2, d2, he⟩ => ?_)
    · subst hM2 he
      have hkd : Kd k := by
        have := List.mem_of_getElem? hk
        simp only [List.mem_cons, List.not_mem_nil, or_false] at this
        exact this
      obtain ⟨s1, s2⟩ := stepOf_pos (k := k) n1
      simp
      refine pr2_at.mpr ⟨n, k, rfl, rfl, hkd, n1, n9, ?_⟩
      have lg : (stepOf n k).natAbs.log2 < 1920 := by
        have : (stepOf n k).natAbs.log2 < 3 := (Nat.log2_lt (by omega)).mpr (by omega)
        omega
      refine (show _ ∧ _ from ⟨lg, ?_⟩)
      refine pr2_at.mpr ⟨n, k, rfl, rfl, hkd, n1, n9, ?_⟩
      refine (show _ ∧ _ from ⟨lg, ?_⟩)
      refine .inl ⟨_, _, rfl, rfl, ?_⟩
      simp
    · subst hM2 he
      exact ⟨rfl, _, _, rfl⟩
  · subst hM1 he
    subst hR1
    simp
    unfold sFor
    simp
    refine pr2_at.mpr ⟨ns, 3, rfl, rfl, by decide, fun n hn1 hn2 => ?_⟩
    simp
    refine ⟨fun i e M2 => VL.Sub M1 M2 ∧ ∃ d3 d4 d5, e = [some (D.rd (List.map D.int ns)), d1, d2, d3, d4, d5], ⟨VL.Sub.refl, _, _, _, rfl⟩, ?_, ?_⟩
    · intro i d e M2 hd hp
      obtain ⟨hs, d3, d4, d5, rfl⟩ := hp
      have hi : i < n := by
        rcases Nat.lt_or_ge i n with q | q
        · exact q
        · rw [List.getElem?_eq_none (by rw [rgD_len]; exact q)] at hd; cases hd
      rw [rgD_get hi] at hd
      cases hd
      simp
      refine pr2_at.mpr ⟨ns, i, rfl, rfl, by omega, hn, fun p l hp hl => ?_⟩
      unfold vLc
      simp
      refine ⟨fun k acc M3 => ∃ l, M3 = mupd M2 p (.lst l) ∧ Pot (100 * k) l ∧ k ≤ 5 ∧ acc = List.replicate k (.bl true), ⟨l, rfl, hl, by decide, rfl⟩, ?_, ?_⟩
      · intro k d acc M3 hd3 hp3
        obtain ⟨l3, rfl, q1, q2, rfl⟩ := hp3
        have hk : k < 5 := by
          rcases Nat.lt_or_ge k 5 with q | q
          · exact q
          · rw [List.getElem?_eq_none (by rw [rgD_len]; exact q)] at hd3; cases hd3
        simp [vwipe]
        refine pr1_at.mpr ⟨p, l3, 100 * k, rfl, mupd_same, q1, by omega, fun l4 hl4 => ?_⟩
        simp
        exact ⟨by omega, l4, rfl, by rw [show 100 * (k + 1) = 100 * k + 100 by omega]; exact hl4, by omega, by first | rfl | rw [List.replicate_succ']⟩
      · intro acc M3 hp3
        obtain ⟨l3, rfl, q1, q2, rfl⟩ := hp3
        rw [rgD_len]
        refine ⟨List.replicate 5 true, by simp, ?_⟩
        simp
        exact hs.trans (VL.Sub.new hp)
    · intro e M2 hp
      obtain ⟨hs, _⟩ := hp
      exact ⟨M1, hs, h⟩
end K46
namespace K46
open PySem PySem.Spec L2 VL
theorem phi_ok (ns : List Int) (h : ns.length ≤ 63) (M : Mem) : p_law [.rd (ns.map D.int)] M fun d _ => d = .bl true := pr1_at.mpr ⟨ns, rfl, by omega, rfl⟩
theorem fr_ok {K : PySem.W.Frag} {h : Heap} {mg : Str → Option Value} (X : K.In h) (G : h.Ns mainGlobals mg) (c : He.SaysD fa fn K) : Fr mg bl := fun x hx => by
  have m : He.Fa.free x ∈ fa := by
    have e : fa = (fa.take 59) ++ (bl.map He.Fa.free ++ fa.drop 77) := rfl
    rw [e]
    exact List.mem_append_right _ (List.mem_append_left _ (List.mem_map_of_mem hx))
  obtain ⟨i, hi, e⟩ := List.getElem_of_mem m
  exact He.free_ok X G (c.fact i (f := .free x) (by rw [List.getElem?_eq_getElem hi, e]))
theorem law_ok {P : Program} {w : World} {K : PySem.W.Frag} {h : Heap} {mg : Str → Option Value} {base : Heap} (X : K.In h) (G : h.Ns mainGlobals mg) (c : He.SaysD fa fn K) : Kn P w K mg base 10 "law" P_law p_law := by
  have hB := fr_ok X G c
  obtain ⟨fd_is_integer, F_is_integer⟩ := c.def_ 0 (d := d_is_integer) rfl
  have k_is_integer := ok_is_integer (P := P) (w := w) (base := base) ⟨_, fd_is_integer, He.glo_ok X G (c.fact 0 (f := .glo "is_integer") rfl), F_is_integer⟩ hB
  obtain ⟨fd_is_between, F_is_between⟩ := c.def_ 1 (d := d_is_between) rfl
  have k_is_between := ok_is_between (P := P) (w := w) (base := base) ⟨_, fd_is_between, He.glo_ok X G (c.fact 1 (f := .glo "is_between") rfl), F_is_between⟩ hB k_is_integer
  obtain ⟨t_MOST_ORDER, i_MOST_ORDER⟩ := He.int_ok X G (c.fact 77 (f := .int "MOST_ORDER" 9) rfl)
  obtain ⟨fd_check_order, F_check_order⟩ := c.def_ 3 (d := d_check_order) rfl
  have k_check_order := ok_check_order (P := P) (w := w) (base := base) ⟨_, fd_check_order, He.glo_ok X G (c.fact 3 (f := .glo "check_order") rfl), F_check_order⟩ hB i_MOST_ORDER k_is_between
  obtain ⟨t_ROWS, i_ROWS⟩ := He.str_ok X G (c.fact 83 (f := .str "ROWS" "rows") rfl)
  obtain ⟨t_MAGIC, i_MAGIC⟩ := He.str_ok X G (c.fact 84 (f := .str "MAGIC" "magic") rfl)
  obtain ⟨t_ROUND, i_ROUND⟩ := He.str_ok X G (c.fact 85 (f := .str "ROUND" "round") rfl)
  obtain ⟨fd_check_kind, F_check_kind⟩ := c.def_ 6 (d := d_check_kind) rfl
  have k_check_kind := ok_check_kind (P := P) (w := w) (base := base) ⟨_, fd_check_kind, He.glo_ok X G (c.fact 6 (f := .glo "check_kind") rfl), F_check_kind⟩ hB i_ROWS i_MAGIC i_ROUND
  obtain ⟨t_THREE, i_THREE⟩ := He.int_ok X G (c.fact 90 (f := .int "THREE" 3) rfl)
  obtain ⟨fd_step_of, F_step_of⟩ := c.def_ 27 (d := d_step_of) rfl
  have k_step_of := ok_step_of (P := P) (w := w) (base := base) ⟨_, fd_step_of, He.glo_ok X G (c.fact 27 (f := .glo "step_of") rfl), F_step_of⟩ hB i_MAGIC i_THREE i_ROUND
  obtain ⟨fd_sum_step, F_sum_step⟩ := c.def_ 28 (d := d_sum_step) rfl
  have k_sum_step := ok_sum_step (P := P) (w := w) (base := base) ⟨_, fd_sum_step, He.glo_ok X G (c.fact 28 (f := .glo "sum_step") rfl), F_sum_step⟩ hB k_check_order k_check_kind k_step_of
  obtain ⟨fd__law_step, F__law_step⟩ := c.def_ 54 (d := d__law_step) rfl
  have k__law_step := ok__law_step (P := P) (w := w) (base := base) ⟨_, fd__law_step, He.glo_ok X G (c.fact 54 (f := .glo "_law_step") rfl), F__law_step⟩ hB
  obtain ⟨fd__law_cells, F__law_cells⟩ := c.def_ 44 (d := d__law_cells) rfl
  have k__law_cells := ok__law_cells (P := P) (w := w) (base := base) ⟨_, fd__law_cells, He.glo_ok X G (c.fact 44 (f := .glo "_law_cells") rfl), F__law_cells⟩ hB
  obtain ⟨fd__law_pot, F__law_pot⟩ := c.def_ 41 (d := d__law_pot) rfl
  have k__law_pot := ok__law_pot (P := P) (w := w) (base := base) ⟨_, fd__law_pot, He.glo_ok X G (c.fact 41 (f := .glo "_law_pot") rfl), F__law_pot⟩ hB
  obtain ⟨fd__law_take, F__law_take⟩ := c.def_ 42 (d := d__law_take) rfl
  have k__law_take := ok__law_take (P := P) (w := w) (base := base) ⟨_, fd__law_take, He.glo_ok X G (c.fact 42 (f := .glo "_law_take") rfl), F__law_take⟩ hB
  obtain ⟨fd__law_of, F__law_of⟩ := c.def_ 43 (d := d__law_of) rfl
  have k__law_of := ok__law_of (P := P) (w := w) (base := base) ⟨_, fd__law_of, He.glo_ok X G (c.fact 43 (f := .glo "_law_of") rfl), F__law_of⟩ hB k__law_take
  obtain ⟨fd__law_kind, F__law_kind⟩ := c.def_ 53 (d := d__law_kind) rfl
  have k__law_kind := ok__law_kind (P := P) (w := w) (base := base) ⟨_, fd__law_kind, He.glo_ok X G (c.fact 53 (f := .glo "_law_kind") rfl), F__law_kind⟩ hB k__law_of
  obtain ⟨t_MOST_NUMBER, i_MOST_NUMBER⟩ := He.int_ok X G (c.fact 88 (f := .int "MOST_NUMBER" 1000000) rfl)
  obtain ⟨fd_check_number, F_check_number⟩ := c.def_ 14 (d := d_check_number) rfl
  have k_check_number := ok_check_number (P := P) (w := w) (base := base) ⟨_, fd_check_number, He.glo_ok X G (c.fact 14 (f := .glo "check_number") rfl), F_check_number⟩ hB i_MOST_NUMBER k_is_between
  obtain ⟨fd_check_sum, F_check_sum⟩ := c.def_ 31 (d := d_check_sum) rfl
  have k_check_sum := ok_check_sum (P := P) (w := w) (base := base) ⟨_, fd_check_sum, He.glo_ok X G (c.fact 31 (f := .glo "check_sum") rfl), F_check_sum⟩ hB k_check_order k_check_kind k_check_number
  obtain ⟨fd_times_by, F_times_by⟩ := c.def_ 25 (d := d_times_by) rfl
  have k_times_by := ok_times_by (P := P) (w := w) (base := base) ⟨_, fd_times_by, He.glo_ok X G (c.fact 25 (f := .glo "times_by") rfl), F_times_by⟩ hB
  obtain ⟨fd_places_for, F_places_for⟩ := c.def_ 29 (d := d_places_for) rfl
  have k_places_for := ok_places_for (P := P) (w := w) (base := base) ⟨_, fd_places_for, He.glo_ok X G (c.fact 29 (f := .glo "places_for") rfl), F_places_for⟩ hB
  obtain ⟨fd_least_square, F_least_square⟩ := c.def_ 30 (d := d_least_square) rfl
  have k_least_square := ok_least_square (P := P) (w := w) (base := base) ⟨_, fd_least_square, He.glo_ok X G (c.fact 30 (f := .glo "least_square") rfl), F_least_square⟩ hB i_ROUND i_MAGIC i_THREE k_step_of k_places_for
  obtain ⟨t_DIVISOR, i_DIVISOR⟩ := He.str_ok X G (c.fact 91 (f := .str "DIVISOR" "divisor") rfl)
  obtain ⟨t_SQUARE, i_SQUARE⟩ := He.str_ok X G (c.fact 86 (f := .str "SQUARE" "square") rfl)
  obtain ⟨fd_sum_told, F_sum_told⟩ := c.def_ 32 (d := d_sum_told) rfl
  have k_sum_told := ok_sum_told (P := P) (w := w) (base := base) ⟨_, fd_sum_told, He.glo_ok X G (c.fact 32 (f := .glo "sum_told") rfl), F_sum_told⟩ hB i_DIVISOR i_SQUARE k_check_sum k_step_of k_times_by k_least_square
  obtain ⟨fd__law_is_int, F__law_is_int⟩ := c.def_ 45 (d := d__law_is_int) rfl
  have k__law_is_int := ok__law_is_int (P := P) (w := w) (base := base) ⟨_, fd__law_is_int, He.glo_ok X G (c.fact 45 (f := .glo "_law_is_int") rfl), F__law_is_int⟩ hB
  obtain ⟨fd__law_is_square, F__law_is_square⟩ := c.def_ 52 (d := d__law_is_square) rfl
  have k__law_is_square := ok__law_is_square (P := P) (w := w) (base := base) ⟨_, fd__law_is_square, He.glo_ok X G (c.fact 52 (f := .glo "_law_is_square") rfl), F__law_is_square⟩ hB k__law_is_int
  obtain ⟨fd__law_lines, F__law_lines⟩ := c.def_ 49 (d := d__law_lines) rfl
  have k__law_lines := ok__law_lines (P := P) (w := w) (base := base) ⟨_, fd__law_lines, He.glo_ok X G (c.fact 49 (f := .glo "_law_lines") rfl), F__law_lines⟩ hB
  obtain ⟨fd__law_line, F__law_line⟩ := c.def_ 48 (d := d__law_line) rfl
  have k__law_line := ok__law_line (P := P) (w := w) (base := base) ⟨_, fd__law_line, He.glo_ok X G (c.fact 48 (f := .glo "_law_line") rfl), F__law_line⟩ hB
  obtain ⟨fd__law_sum, F__law_sum⟩ := c.def_ 50 (d := d__law_sum) rfl
  have k__law_sum := ok__law_sum (P := P) (w := w) (base := base) ⟨_, fd__law_sum, He.glo_ok X G (c.fact 50 (f := .glo "_law_sum") rfl), F__law_sum⟩ hB k__law_line
  obtain ⟨fd__law_is_of, F__law_is_of⟩ := c.def_ 51 (d := d__law_is_of) rfl
  have k__law_is_of := ok__law_is_of (P := P) (w := w) (base := base) ⟨_, fd__law_is_of, He.glo_ok X G (c.fact 51 (f := .glo "_law_is_of") rfl), F__law_is_of⟩ hB k__law_lines k__law_sum
  obtain ⟨fd__law_is_shown, F__law_is_shown⟩ := c.def_ 55 (d := d__law_is_shown) rfl
  have k__law_is_shown := ok__law_is_shown (P := P) (w := w) (base := base) ⟨_, fd__law_is_shown, He.glo_ok X G (c.fact 55 (f := .glo "_law_is_shown") rfl), F__law_is_shown⟩ hB k__law_is_int k__law_step k__law_is_square k__law_is_of k__law_sum
  obtain ⟨fd_are_between, F_are_between⟩ := c.def_ 2 (d := d_are_between) rfl
  have k_are_between := ok_are_between (P := P) (w := w) (base := base) ⟨_, fd_are_between, He.glo_ok X G (c.fact 2 (f := .glo "are_between") rfl), F_are_between⟩ hB k_is_between
  obtain ⟨t_MOST_ENTRY, i_MOST_ENTRY⟩ := He.int_ok X G (c.fact 78 (f := .int "MOST_ENTRY" 1000000000) rfl)
  obtain ⟨fd_is_square, F_is_square⟩ := c.def_ 4 (d := d_is_square) rfl
  have k_is_square := ok_is_square (P := P) (w := w) (base := base) ⟨_, fd_is_square, He.glo_ok X G (c.fact 4 (f := .glo "is_square") rfl), F_is_square⟩ hB i_MOST_ORDER i_MOST_ENTRY k_are_between
  obtain ⟨fd_check_square, F_check_square⟩ := c.def_ 5 (d := d_check_square) rfl
  have k_check_square := ok_check_square (P := P) (w := w) (base := base) ⟨_, fd_check_square, He.glo_ok X G (c.fact 5 (f := .glo "check_square") rfl), F_check_square⟩ hB k_is_square
  obtain ⟨fd_changed, F_changed⟩ := c.def_ 17 (d := d_changed) rfl
  have k_changed := ok_changed (P := P) (w := w) (base := base) ⟨_, fd_changed, He.glo_ok X G (c.fact 17 (f := .glo "changed") rfl), F_changed⟩ hB
  obtain ⟨fd_turned_once, F_turned_once⟩ := c.def_ 16 (d := d_turned_once) rfl
  have k_turned_once := ok_turned_once (P := P) (w := w) (base := base) ⟨_, fd_turned_once, He.glo_ok X G (c.fact 16 (f := .glo "turned_once") rfl), F_turned_once⟩ hB
  obtain ⟨t_FOUR, i_FOUR⟩ := He.int_ok X G (c.fact 89 (f := .int "FOUR" 4) rfl)
  obtain ⟨fd_turn_by, F_turn_by⟩ := c.def_ 18 (d := d_turn_by) rfl
  have k_turn_by := ok_turn_by (P := P) (w := w) (base := base) ⟨_, fd_turn_by, He.glo_ok X G (c.fact 18 (f := .glo "turn_by") rfl), F_turn_by⟩ hB i_FOUR k_changed k_turned_once
  obtain ⟨t_MOST_TURN, i_MOST_TURN⟩ := He.int_ok X G (c.fact 87 (f := .int "MOST_TURN" 7) rfl)
  obtain ⟨fd_turned, F_turned⟩ := c.def_ 19 (d := d_turned) rfl
  have k_turned := ok_turned (P := P) (w := w) (base := base) ⟨_, fd_turned, He.glo_ok X G (c.fact 19 (f := .glo "turned") rfl), F_turned⟩ hB i_MOST_TURN k_check_square k_is_between k_turn_by
  obtain ⟨fd_moved_by, F_moved_by⟩ := c.def_ 20 (d := d_moved_by) rfl
  have k_moved_by := ok_moved_by (P := P) (w := w) (base := base) ⟨_, fd_moved_by, He.glo_ok X G (c.fact 20 (f := .glo "moved_by") rfl), F_moved_by⟩ hB
  obtain ⟨fd_moved, F_moved⟩ := c.def_ 21 (d := d_moved) rfl
  have k_moved := ok_moved (P := P) (w := w) (base := base) ⟨_, fd_moved, He.glo_ok X G (c.fact 21 (f := .glo "moved") rfl), F_moved⟩ hB k_check_square k_check_number k_moved_by
  obtain ⟨fd__law_odd, F__law_odd⟩ := c.def_ 46 (d := d__law_odd) rfl
  have k__law_odd := ok__law_odd (P := P) (w := w) (base := base) ⟨_, fd__law_odd, He.glo_ok X G (c.fact 46 (f := .glo "_law_odd") rfl), F__law_odd⟩ hB k__law_of
  obtain ⟨fd__law_bent, F__law_bent⟩ := c.def_ 47 (d := d__law_bent) rfl
  have k__law_bent := ok__law_bent (P := P) (w := w) (base := base) ⟨_, fd__law_bent, He.glo_ok X G (c.fact 47 (f := .glo "_law_bent") rfl), F__law_bent⟩ hB k__law_take k__law_of k__law_odd k__law_is_int
  obtain ⟨t_ROW, i_ROW⟩ := He.str_ok X G (c.fact 79 (f := .str "ROW" "row") rfl)
  obtain ⟨t_COLUMN, i_COLUMN⟩ := He.str_ok X G (c.fact 80 (f := .str "COLUMN" "column") rfl)
  obtain ⟨t_DOWN, i_DOWN⟩ := He.str_ok X G (c.fact 81 (f := .str "DOWN" "down") rfl)
  obtain ⟨t_UP, i_UP⟩ := He.str_ok X G (c.fact 82 (f := .str "UP" "up") rfl)
  obtain ⟨fd_lines_by, F_lines_by⟩ := c.def_ 9 (d := d_lines_by) rfl
  have k_lines_by := ok_lines_by (P := P) (w := w) (base := base) ⟨_, fd_lines_by, He.glo_ok X G (c.fact 9 (f := .glo "lines_by") rfl), F_lines_by⟩ hB i_ROW i_COLUMN i_MAGIC i_DOWN i_UP i_ROUND
  obtain ⟨fd_cells_by, F_cells_by⟩ := c.def_ 7 (d := d_cells_by) rfl
  have k_cells_by := ok_cells_by (P := P) (w := w) (base := base) ⟨_, fd_cells_by, He.glo_ok X G (c.fact 7 (f := .glo "cells_by") rfl), F_cells_by⟩ hB i_ROW i_COLUMN i_DOWN
  obtain ⟨fd_sum_by, F_sum_by⟩ := c.def_ 8 (d := d_sum_by) rfl
  have k_sum_by := ok_sum_by (P := P) (w := w) (base := base) ⟨_, fd_sum_by, He.glo_ok X G (c.fact 8 (f := .glo "sum_by") rfl), F_sum_by⟩ hB k_cells_by
  obtain ⟨fd_sums_by, F_sums_by⟩ := c.def_ 10 (d := d_sums_by) rfl
  have k_sums_by := ok_sums_by (P := P) (w := w) (base := base) ⟨_, fd_sums_by, He.glo_ok X G (c.fact 10 (f := .glo "sums_by") rfl), F_sums_by⟩ hB k_lines_by k_sum_by
  obtain ⟨fd_is_of_kind, F_is_of_kind⟩ := c.def_ 13 (d := d_is_of_kind) rfl
  have k_is_of_kind := ok_is_of_kind (P := P) (w := w) (base := base) ⟨_, fd_is_of_kind, He.glo_ok X G (c.fact 13 (f := .glo "is_of_kind") rfl), F_is_of_kind⟩ hB k_sums_by
  obtain ⟨fd_shows_sum, F_shows_sum⟩ := c.def_ 33 (d := d_shows_sum) rfl
  have k_shows_sum := ok_shows_sum (P := P) (w := w) (base := base) ⟨_, fd_shows_sum, He.glo_ok X G (c.fact 33 (f := .glo "shows_sum") rfl), F_shows_sum⟩ hB i_DIVISOR i_SQUARE k_check_sum k_is_integer k_step_of k_is_square k_is_of_kind k_sums_by
  obtain ⟨fd_let, F_let⟩ := c.def_ 23 (d := d_let) rfl
  have k_let := ok_let (P := P) (w := w) (base := base) ⟨_, fd_let, He.glo_ok X G (c.fact 23 (f := .glo "let") rfl), F_let⟩ hB k_is_square
  obtain ⟨fd_times, F_times⟩ := c.def_ 26 (d := d_times) rfl
  have k_times := ok_times (P := P) (w := w) (base := base) ⟨_, fd_times, He.glo_ok X G (c.fact 26 (f := .glo "times") rfl), F_times⟩ hB k_check_square k_check_number k_let k_times_by
  obtain ⟨fd_divisor, F_divisor⟩ := c.def_ 34 (d := d_divisor) rfl
  have k_divisor := ok_divisor (P := P) (w := w) (base := base) ⟨_, fd_divisor, He.glo_ok X G (c.fact 34 (f := .glo "divisor") rfl), F_divisor⟩ hB
  obtain ⟨fd_lessened, F_lessened⟩ := c.def_ 35 (d := d_lessened) rfl
  have k_lessened := ok_lessened (P := P) (w := w) (base := base) ⟨_, fd_lessened, He.glo_ok X G (c.fact 35 (f := .glo "lessened") rfl), F_lessened⟩ hB k_divisor
  obtain ⟨fd_without, F_without⟩ := c.def_ 36 (d := d_without) rfl
  have k_without := ok_without (P := P) (w := w) (base := base) ⟨_, fd_without, He.glo_ok X G (c.fact 36 (f := .glo "without") rfl), F_without⟩ hB k_lessened
  obtain ⟨fd_combed, F_combed⟩ := c.def_ 37 (d := d_combed) rfl
  have k_combed := ok_combed (P := P) (w := w) (base := base) ⟨_, fd_combed, He.glo_ok X G (c.fact 37 (f := .glo "combed") rfl), F_combed⟩ hB k_lessened k_without
  obtain ⟨fd_cells_of, F_cells_of⟩ := c.def_ 11 (d := d_cells_of) rfl
  have k_cells_of := ok_cells_of (P := P) (w := w) (base := base) ⟨_, fd_cells_of, He.glo_ok X G (c.fact 11 (f := .glo "cells_of") rfl), F_cells_of⟩ hB
  obtain ⟨fd_asked, F_asked⟩ := c.def_ 38 (d := d_asked) rfl
  have k_asked := ok_asked (P := P) (w := w) (base := base) ⟨_, fd_asked, He.glo_ok X G (c.fact 38 (f := .glo "asked") rfl), F_asked⟩ hB k_lines_by k_cells_by k_cells_of
  obtain ⟨fd_space_of, F_space_of⟩ := c.def_ 39 (d := d_space_of) rfl
  have k_space_of := ok_space_of (P := P) (w := w) (base := base) ⟨_, fd_space_of, He.glo_ok X G (c.fact 39 (f := .glo "space_of") rfl), F_space_of⟩ hB k_combed k_asked k_divisor k_lessened
  obtain ⟨fd_square_by, F_square_by⟩ := c.def_ 12 (d := d_square_by) rfl
  have k_square_by := ok_square_by (P := P) (w := w) (base := base) ⟨_, fd_square_by, He.glo_ok X G (c.fact 12 (f := .glo "square_by") rfl), F_square_by⟩ hB
  obtain ⟨fd_space_base, F_space_base⟩ := c.def_ 40 (d := d_space_base) rfl
  have k_space_base := ok_space_base (P := P) (w := w) (base := base) ⟨_, fd_space_base, He.glo_ok X G (c.fact 40 (f := .glo "space_base") rfl), F_space_base⟩ hB k_check_order k_check_kind k_space_of k_square_by
  obtain ⟨fd_check_two, F_check_two⟩ := c.def_ 15 (d := d_check_two) rfl
  have k_check_two := ok_check_two (P := P) (w := w) (base := base) ⟨_, fd_check_two, He.glo_ok X G (c.fact 15 (f := .glo "check_two") rfl), F_check_two⟩ hB k_check_square
  obtain ⟨fd_sum_of, F_sum_of⟩ := c.def_ 22 (d := d_sum_of) rfl
  have k_sum_of := ok_sum_of (P := P) (w := w) (base := base) ⟨_, fd_sum_of, He.glo_ok X G (c.fact 22 (f := .glo "sum_of") rfl), F_sum_of⟩ hB
  obtain ⟨fd_added, F_added⟩ := c.def_ 24 (d := d_added) rfl
  have k_added := ok_added (P := P) (w := w) (base := base) ⟨_, fd_added, He.glo_ok X G (c.fact 24 (f := .glo "added") rfl), F_added⟩ hB k_check_two k_let k_sum_of
  obtain ⟨fd__law_is_drawn_right, F__law_is_drawn_right⟩ := c.def_ 57 (d := d__law_is_drawn_right) rfl
  have k__law_is_drawn_right := ok__law_is_drawn_right (P := P) (w := w) (base := base) ⟨_, fd__law_is_drawn_right, He.glo_ok X G (c.fact 57 (f := .glo "_law_is_drawn_right") rfl), F__law_is_drawn_right⟩ hB k__law_take k_times k_space_base k_added k__law_is_of k__law_sum k_sum_step
  obtain ⟨fd__law_right, F__law_right⟩ := c.def_ 56 (d := d__law_right) rfl
  have k__law_right := ok__law_right (P := P) (w := w) (base := base) ⟨_, fd__law_right, He.glo_ok X G (c.fact 56 (f := .glo "_law_right") rfl), F__law_right⟩ hB k__law_take k__law_kind k__law_of k_sum_told k__law_step k__law_is_shown k_turned k_moved k__law_bent k__law_odd k_shows_sum k__law_is_drawn_right
  obtain ⟨fd_law, F_law⟩ := c.def_ 58 (d := d_law) rfl
  have k_law := ok_law (P := P) (w := w) (base := base) ⟨_, fd_law, He.glo_ok X G (c.fact 58 (f := .glo "law") rfl), F_law⟩ hB k_sum_step k__law_step k__law_cells k__law_pot k__law_right
  exact k_law
end K46
open PySem PySem.W PySem.Calls PyProof.Rows
theorem PySem.Challenge.cw_everyrowalike_k46_whole_sums_that_square_holds : PySem.Challenge.rw_everyrowalike_k46_whole_sums_that_square.Holds := by
  w_on; o_law
  refine HandSHeadRun.head_any (r := OpenLaw.row PySem.Challenge.rw_everyrowalike_k46_whole_sums_that_square) (q := view (OpenLaw.row PySem.Challenge.rw_everyrowalike_k46_whole_sums_that_square).prog [89]) (H := K46.hk) (ob := K46.ob) (M := 5000) (loose := K46.nm) (d := HandSHeadRun.topDef (OpenLaw.row PySem.Challenge.rw_everyrowalike_k46_whole_sums_that_square).prog 89) (kwd := []) K46.ob_eq
    (by kernel_rfl) (fun s => by kernel_rfl) K46.run (by kernel_rfl) (by kernel_rfl) (by kernel_rfl) (by rfl) (by first | assumption | decide +kernel) (by decide +kernel) ⟨rfl, rfl, rfl, rfl, rfl, by decide +kernel⟩ ?hw ?hc
  case hw => w_witness2
  case hc =>
    refine VL.walk_K (l := PySem.Challenge.rw_everyrowalike_k46_whole_sums_that_square) (n := 63) (k := 10) (x := "script") (φ := K46.p_law) rfl (by decide) (by kernel_rfl) ⟨rfl, by decide, by decide⟩ K46.phi_ok ?F
    intro w mg h Y G
    obtain ⟨K, KX, c⟩ := Y
    refine ⟨K, KX, fun base _ _ => ?_⟩
    have e : (HandSHeadRun.topDef (OpenLaw.row PySem.Challenge.rw_everyrowalike_k46_whole_sums_that_square).prog 89).name = ("law" : PySem.Str) := by kernel_rfl
    rw [e]
    exact K46.law_ok KX G c
