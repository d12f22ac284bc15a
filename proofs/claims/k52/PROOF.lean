import PyProof.Rows.All
import Wide.All
import OpenK.AllK
import Wide.FinOn
import KE.KStateDown
import HandS.ForMost
import HandS.Walk
import HandS.Defaults
import HandS.Flow
import HandS.IsInst
import HandS.TupAny
import HandS.Deep
import HandS.SortInts
import HandS.Wide
import HandS.Conv
import HandS.TupLen
import HandS.DictComp
import HandS.Zip
import KE.SortData
import KE.DatumIndex
import KE.DataCmp
import HandS.RaiseMore
import HandS.Words
import HandS.HeadHook1
import HandS.HeadHook2
import Lean
import HandS.Head0
import HandS.Head1
import HandS.Head2
import HandS.WordsExc
import HandS.HeadEnd
import PySem.Challenge.RW_everyrowalike_k52_whole_spaces_of_number
set_option Elab.async false
set_option linter.all false
set_option maxRecDepth 100000
set_option maxHeartbeats 0
namespace VL
open PySem PySem.Spec L2

/-- a value as data; obj: an object that may change, by its address -/
inductive D where
  | non | bl (b : Bool) | int (i : Int) | str (x : Str) | lst (xs : List D) | tup (xs : List D) | obj (a : Addr)
  /-- a list that is only read: the script -/
  | rd (xs : List D)

mutual
/-- v is the data d, what it leans on stands in F -/
inductive DR (K : PySem.W.Frag) (F : Hp) : V → D → Prop
  | non : DR K F .non .non
  | bl (b : Bool) : DR K F (.bl b) (.bl b)
  | int (i : Int) : DR K F (.int i) (.int i)
  | str (x : Str) : DR K F (.str x) (.str x)
  | lst {a : Addr} {vs : List V} {ds : List D} : F a = some (.lst vs) → DRs K F vs ds → DR K F (.ref a) (.lst ds)
  | tup {a : Addr} {vs : List V} {ds : List D} : SqT K F a vs → DRs K F vs ds → DR K F (.ref a) (.tup ds)
  | obj (a : Addr) : DR K F (.ref a) (.obj a)
  | rd {a : Addr} {vs : List V} {ds : List D} : SqL K F a vs → DRs K F vs ds → DR K F (.ref a) (.rd ds)
inductive DRs (K : PySem.W.Frag) (F : Hp) : List V → List D → Prop
  | nil : DRs K F [] []
  | cons {v : V} {vs : List V} {d : D} {ds : List D} : DR K F v d → DRs K F vs ds → DRs K F (v :: vs) (d :: ds)
end

theorem same_tup {K : PySem.W.Frag} {H H' : Hp} {a : Addr} {xs : List V} (e : Same H H') (h : SqT K H a xs) : SqT K H' a xs := by
  rcases h with (h | ⟨o, h⟩) | h
  · exact .inl (.inl (e _ _ h))
  · exact .inl (.inr ⟨o, e _ _ h⟩)
  · exact .inr h
section
variable {K : PySem.W.Frag} {F F' : Hp}
mutual
theorem DR.mono (s : Same F F') : ∀ (d : D) (v : V), DR K F v d → DR K F' v d
  | .non, _, h => by cases h; exact .non
  | .bl b, _, h => by cases h; exact .bl b
  | .int i, _, h => by cases h; exact .int i
  | .str x, _, h => by cases h; exact .str x
  | .obj a, _, h => by cases h; exact .obj a
  | .lst ds, _, h => by
    cases h with
    | lst q r => exact .lst (s _ _ q) (DRs.mono s ds _ r)
  | .tup ds, _, h => by
    cases h with
    | tup q r => exact .tup (same_tup s q) (DRs.mono s ds _ r)
  | .rd ds, _, h => by
    cases h with
    | rd q r => exact .rd (s.seq q) (DRs.mono s ds _ r)
theorem DRs.mono (s : Same F F') : ∀ (ds : List D) (vs : List V), DRs K F vs ds → DRs K F' vs ds
  | [], _, h => by cases h; exact .nil
  | d :: ds, _, h => by
    cases h with
    | cons q r => exact .cons (DR.mono s d _ q) (DRs.mono s ds _ r)
end
theorem DR.up {v : V} {d : D} (h : DR K F v d) (s : Same F F') : DR K F' v d := DR.mono s d v h
theorem DRs.up {vs : List V} {ds : List D} (h : DRs K F vs ds) (s : Same F F') : DRs K F' vs ds := DRs.mono s ds vs h
theorem DRs.len : ∀ {vs : List V} {ds : List D}, DRs K F vs ds → vs.length = ds.length
  | _, [], h => by cases h; rfl
  | _, d :: ds, h => by
    cases h with
    | cons _ r => rw [List.length_cons, List.length_cons, DRs.len r]
theorem DRs.app : ∀ {vs ws : List V} {ds es : List D}, DRs K F vs ds → DRs K F ws es → DRs K F (vs ++ ws) (ds ++ es)
  | _, _, [], _, h, q => by cases h; exact q
  | _, _, d :: ds, _, h, q => by
    cases h with
    | cons a r => exact .cons a (DRs.app r q)
theorem DRs.get : ∀ {vs : List V} {ds : List D} {i : Nat} {v : V}, DRs K F vs ds → vs[i]? = some v → ∃ d, ds[i]? = some d ∧ DR K F v d
  | _, [], i, v, h, e => by cases h; simp at e
  | _, d :: ds, 0, v, h, e => by
    cases h with
    | cons a r =>
      simp only [List.getElem?_cons_zero, Option.some.injEq] at e
      subst e
      exact ⟨d, rfl, a⟩
  | _, d :: ds, i + 1, v, h, e => by
    cases h with
    | cons a r =>
      simp only [List.getElem?_cons_succ] at e ⊢
      exact DRs.get r e
theorem DRs.geti : ∀ {vs : List V} {ds : List D} {i : Nat} {d : D}, DRs K F vs ds → ds[i]? = some d → ∃ v, vs[i]? = some v ∧ DR K F v d
  | _, [], i, v, h, e => by simp at e
  | _, d :: ds, 0, v, h, e => by
    cases h with
    | cons a r =>
      simp only [List.getElem?_cons_zero, Option.some.injEq] at e
      subst e
      exact ⟨_, rfl, a⟩
  | _, d :: ds, i + 1, v, h, e => by
    cases h with
    | cons a r =>
      simp only [List.getElem?_cons_succ] at e ⊢
      exact DRs.geti r e
theorem DRs.set : ∀ {vs : List V} {ds : List D} {v : V} {d : D} (i : Nat), DRs K F vs ds → DR K F v d → DRs K F (vs.set i v) (ds.set i d)
  | _, [], _, _, i, h, _ => by cases h; exact .nil
  | _, d :: ds, _, _, 0, h, q => by
    cases h with
    | cons a r => exact .cons q r
  | _, d :: ds, _, _, i + 1, h, q => by
    cases h with
    | cons a r => exact .cons a (DRs.set i r q)
theorem DRs.take : ∀ {vs : List V} {ds : List D} (n : Nat), DRs K F vs ds → DRs K F (vs.take n) (ds.take n)
  | _, _, 0, _ => .nil
  | _, [], n + 1, h => by cases h; exact .nil
  | _, d :: ds, n + 1, h => by
    cases h with
    | cons a r => exact .cons a (DRs.take n r)
theorem DRs.drop : ∀ {vs : List V} {ds : List D} (n : Nat), DRs K F vs ds → DRs K F (vs.drop n) (ds.drop n)
  | _, _, 0, h => h
  | _, [], n + 1, h => by cases h; exact .nil
  | _, d :: ds, n + 1, h => by
    cases h with
    | cons a r => exact DRs.drop n r
theorem DRs.rev {vs : List V} {ds : List D} (h : DRs K F vs ds) : DRs K F vs.reverse ds.reverse := by
  induction ds generalizing vs with
  | nil => cases h; exact .nil
  | cons d ds ih =>
    cases h with
    | cons a r =>
      rw [List.reverse_cons, List.reverse_cons]
      exact (ih r).app (.cons a .nil)
theorem DRs.ints : ∀ (ns : List Int), DRs K F (ns.map V.int) (ns.map D.int)
  | [] => .nil
  | n :: ns => .cons (.int n) (DRs.ints ns)
end

inductive MO where
  | lst (xs : List D)
  | dk (kvs : List (Key × D))
  | dt (kvs : List (List Key × D))
abbrev Mem := Addr → Option MO
def mupd (M : Mem) (a : Addr) (o : MO) : Mem := fun b => if b = a then some o else M b
theorem mupd_same {M : Mem} {a : Addr} {o : MO} : mupd M a o a = some o := by unfold mupd; rw [if_pos rfl]
theorem mupd_ne {M : Mem} {a b : Addr} {o : MO} (h : b ≠ a) : mupd M a o b = M b := by unfold mupd; rw [if_neg h]
theorem mupd_mupd {M : Mem} {a : Addr} {o u : MO} : mupd (mupd M a o) a u = mupd M a u := by funext b; unfold mupd; split <;> rfl
theorem mupd_self {M : Mem} {a : Addr} {o : MO} (h : M a = some o) : mupd M a o = M := by
  funext b; unfold mupd; split
  · rename_i e; rw [e, h]
  · rfl
theorem mupd_comm {M : Mem} {a b : Addr} {o u : MO} (h : a ≠ b) : mupd (mupd M a o) b u = mupd (mupd M b u) a o := by
  funext c; unfold mupd
  by_cases h1 : c = a <;> by_cases h2 : c = b
  · exact absurd (h1.symm.trans h2) h
  · simp [h1, h2, h]
  · subst h2; simp [h1]
  · simp [h1, h2]
def MR (K : PySem.W.Frag) (F : Hp) : MO → HO → Prop
  | .lst ds, o => ∃ vs, o = .lst vs ∧ DRs K F vs ds
  | .dk kvs, o => ∃ kws : List (Key × V), o = .dK kws ∧ kws.map (·.1) = kvs.map (·.1) ∧ DRs K F (kws.map (·.2)) (kvs.map (·.2))
  | .dt kvs, o => ∃ kws : List (List Key × V), o = .dT kws ∧ kws.map (·.1) = kvs.map (·.1) ∧ DRs K F (kws.map (·.2)) (kvs.map (·.2))
theorem MR.up {K : PySem.W.Frag} {F F' : Hp} {m : MO} {o : HO} (h : MR K F m o) (s : Same F F') : MR K F' m o := by
  cases m with
  | lst ds => obtain ⟨vs, e, r⟩ := h; exact ⟨vs, e, r.up s⟩
  | dk kvs => obtain ⟨kws, e, a, r⟩ := h; exact ⟨kws, e, a, r.up s⟩
  | dt kvs => obtain ⟨kws, e, a, r⟩ := h; exact ⟨kws, e, a, r.up s⟩

/-- F: what stands for good; M: what may change; G: what is kept by others; H: the heap of the hand layer -/
structure Rel (K : PySem.W.Frag) (F : Hp) (M : Mem) (G H : Hp) : Prop where
  sub : Same F H
  hid : Same G H
  ob : ∀ a o, M a = some o → F a = none ∧ G a = none ∧ ∃ ho, H a = some ho ∧ MR K F o ho
  dis : ∀ a o, G a = some o → F a = none
theorem upd_frz {F : Hp} {p : Addr} {o : HO} (h : F p = none) : Same F (upd F p o) := fun b x e => by
  rw [upd_ne (ne_of_none e h)]; exact e
section
variable {K : PySem.W.Frag} {F G H : Hp} {M : Mem} {p : Addr} {o : HO} {m : MO}
theorem Rel.f0 (r : Rel K F M G H) (h : H p = none) : F p = none := r.sub.free h
theorem Rel.g0 (r : Rel K F M G H) (h : H p = none) : G p = none := r.hid.free h
theorem Rel.m0 (r : Rel K F M G H) (h : H p = none) : M p = none := by
  cases e : M p with
  | none => rfl
  | some q =>
    obtain ⟨_, _, ho, e2, _⟩ := r.ob p q e
    rw [h] at e2; cases e2
theorem Rel.newF (r : Rel K F M G H) (h : H p = none) : Rel K (upd F p o) M G (upd H p o) where
  sub := fun b x e => by
    by_cases hb : b = p
    · subst hb; rw [upd_same] at e ⊢; exact e
    · rw [upd_ne hb] at e ⊢; exact r.sub b x e
  hid := fun b x e => by
    rw [upd_ne (ne_of_none e (r.g0 h))]; exact r.hid b x e
  ob := fun a x e => by
    obtain ⟨f, g, ho, e2, q⟩ := r.ob a x e
    have ne : a ≠ p := ne_of_none e2 h
    refine ⟨by rw [upd_ne ne]; exact f, g, ho, by rw [upd_ne ne]; exact e2, q.up (upd_frz (r.f0 h))⟩
  dis := fun a x e => by
    rw [upd_ne (ne_of_none e (r.g0 h))]; exact r.dis a x e
theorem Rel.sF (r : Rel K F M G H) (h : H p = none) : Same F (upd F p o) := upd_frz (r.f0 h)
theorem Rel.newM (r : Rel K F M G H) (h : H p = none) (q : MR K F m o) : Rel K F (mupd M p m) G (upd H p o) where
  sub := fun b x e => by
    rw [upd_ne (ne_of_none e (r.f0 h))]; exact r.sub b x e
  hid := fun b x e => by
    rw [upd_ne (ne_of_none e (r.g0 h))]; exact r.hid b x e
  ob := fun a x e => by
    by_cases ha : a = p
    · subst ha
      rw [mupd_same] at e; cases e
      exact ⟨r.f0 h, r.g0 h, o, upd_same, q⟩
    · rw [mupd_ne ha] at e
      obtain ⟨f, g, ho, e2, q⟩ := r.ob a x e
      exact ⟨f, g, ho, by rw [upd_ne ha]; exact e2, q⟩
  dis := r.dis
theorem Rel.wr {m0 : MO} (r : Rel K F M G H) (h : M p = some m0) (q : MR K F m o) : Rel K F (mupd M p m) G (upd H p o) where
  sub := fun b x e => by
    have z := (r.ob p m0 h).1
    rw [upd_ne (ne_of_none e z)]; exact r.sub b x e
  hid := fun b x e => by
    have z := (r.ob p m0 h).2.1
    rw [upd_ne (ne_of_none e z)]; exact r.hid b x e
  ob := fun a x e => by
    by_cases ha : a = p
    · subst ha
      rw [mupd_same] at e; cases e
      obtain ⟨f, g, _⟩ := r.ob a m0 h
      exact ⟨f, g, o, upd_same, q⟩
    · rw [mupd_ne ha] at e
      obtain ⟨f, g, ho, e2, q⟩ := r.ob a x e
      exact ⟨f, g, ho, by rw [upd_ne ha]; exact e2, q⟩
  dis := r.dis
theorem Rel.drop {M' : Mem} (r : Rel K F M G H) (h : ∀ a o, M' a = some o → M a = some o) : Rel K F M' G H :=
  ⟨r.sub, r.hid, fun a o e => r.ob a o (h a o e), r.dis⟩
/-- an object of ours is shut: it changes no more -/
def mdel (M : Mem) (a : Addr) : Mem := fun b => if b = a then none else M b
theorem mdel_same {a : Addr} : mdel M a a = none := by unfold mdel; rw [if_pos rfl]
theorem mdel_ne {a b : Addr} (h : b ≠ a) : mdel M a b = M b := by unfold mdel; rw [if_neg h]
theorem mdel_mupd {a : Addr} (h : M a = none) : mdel (mupd M a m) a = M := by
  funext b; unfold mdel mupd
  by_cases e : b = a
  · rw [if_pos e, e, h]
  · rw [if_neg e, if_neg e]
theorem Rel.shut {a : Addr} {ds : List D} (r : Rel K F M G H) (h : M a = some (.lst ds)) : ∃ vs, H a = some (.lst vs) ∧ DRs K F vs ds ∧ Same F (upd F a (.lst vs)) ∧ Rel K (upd F a (.lst vs)) (mdel M a) G H := by
  obtain ⟨f, g, ho, e, vs, rfl, q⟩ := r.ob a _ h
  have s : Same F (upd F a (.lst vs)) := upd_frz f
  refine ⟨vs, e, q, s, fun b x z => ?_, r.hid, fun b x z => ?_, fun b x z => ?_⟩
  · by_cases hb : b = a
    · subst hb; rw [upd_same] at z; rw [← z]; exact e
    · rw [upd_ne hb] at z; exact r.sub b x z
  · by_cases hb : b = a
    · subst hb; rw [mdel_same] at z; cases z
    · rw [mdel_ne hb] at z
      obtain ⟨f', g', ho', e', q'⟩ := r.ob b x z
      exact ⟨by rw [upd_ne hb]; exact f', g', ho', e', q'.up s⟩
  · rw [upd_ne (ne_of_none z g)]; exact r.dis b x z
/-- what we keep for ourselves -/
theorem Rel.hide (r : Rel K F M G H) (h : H p = none) : Rel K F M (upd G p o) (upd H p o) where
  sub := fun b x e => by rw [upd_ne (ne_of_none e (r.f0 h))]; exact r.sub b x e
  hid := fun b x e => by
    by_cases hb : b = p
    · subst hb; rw [upd_same] at e ⊢; exact e
    · rw [upd_ne hb] at e ⊢; exact r.hid b x e
  ob := fun a x e => by
    obtain ⟨f, g, ho, e2, q⟩ := r.ob a x e
    have ne : a ≠ p := ne_of_none e2 h
    exact ⟨f, by rw [upd_ne ne]; exact g, ho, by rw [upd_ne ne]; exact e2, q⟩
  dis := fun a x e => by
    by_cases ha : a = p
    · subst ha; exact r.f0 h
    · rw [upd_ne ha] at e; exact r.dis a x e
theorem Rel.hwr {u : HO} (r : Rel K F M G H) (h : G p = some u) : Rel K F M (upd G p o) (upd H p o) where
  sub := fun b x e => by rw [upd_ne (ne_of_none e (r.dis p u h))]; exact r.sub b x e
  hid := fun b x e => by
    by_cases hb : b = p
    · subst hb; rw [upd_same] at e ⊢; exact e
    · rw [upd_ne hb] at e ⊢; exact r.hid b x e
  ob := fun a x e => by
    obtain ⟨f, g, ho, e2, q⟩ := r.ob a x e
    have ne : a ≠ p := fun z => by rw [z, h] at g; cases g
    exact ⟨f, by rw [upd_ne ne]; exact g, ho, by rw [upd_ne ne]; exact e2, q⟩
  dis := fun a x e => by
    by_cases ha : a = p
    · subst ha; exact r.dis a u h
    · rw [upd_ne ha] at e; exact r.dis a x e
/-- what we kept is shut, and given -/
theorem Rel.give {G0 : Hp} (r : Rel K F M (upd G0 p o) H) (h : G0 p = none) : Same F (upd F p o) ∧ Rel K (upd F p o) M G0 H := by
  have fp : F p = none := r.dis p o upd_same
  have s : Same F (upd F p o) := upd_frz fp
  refine ⟨s, fun b x e => ?_, fun b x e => r.hid b x (by rw [upd_ne (ne_of_none e h)]; exact e), fun a x e => ?_, fun a x e => ?_⟩
  · by_cases hb : b = p
    · subst hb; rw [upd_same] at e; rw [← e]; exact r.hid b o upd_same
    · rw [upd_ne hb] at e; exact r.sub b x e
  · obtain ⟨f, g, ho, e2, q⟩ := r.ob a x e
    have ne : a ≠ p := fun z => by rw [z, upd_same] at g; cases g
    exact ⟨by rw [upd_ne ne]; exact f, by rw [upd_ne ne] at g; exact g, ho, e2, q.up s⟩
  · have ne : a ≠ p := ne_of_none e h
    rw [upd_ne ne]; exact r.dis a x (by rw [upd_ne ne]; exact e)
/-- .. into the memory -/
theorem Rel.giveM {G0 : Hp} (r : Rel K F M (upd G0 p o) H) (h : G0 p = none) (q : MR K F m o) (hm : M p = none) : Rel K F (mupd M p m) G0 H := by
  refine ⟨r.sub, fun b x e => r.hid b x (by rw [upd_ne (ne_of_none e h)]; exact e), fun a x e => ?_, fun a x e => ?_⟩
  · by_cases ha : a = p
    · subst ha
      rw [mupd_same] at e; cases e
      exact ⟨r.dis a o upd_same, h, o, r.hid a o upd_same, q⟩
    · rw [mupd_ne ha] at e
      obtain ⟨f, g, ho, e2, q⟩ := r.ob a x e
      exact ⟨f, by rw [upd_ne ha] at g; exact g, ho, e2, q⟩
  · have ne : a ≠ p := ne_of_none e h
    exact r.dis a x (by rw [upd_ne ne]; exact e)
end

abbrev VEnv := List (Option D)
def SR (K : PySem.W.Frag) (F : Hp) : St → VEnv → Prop
  | [], [] => True
  | o :: σ, x :: e => (∀ d, x = some d → ∃ v, o = some v ∧ DR K F v d) ∧ SR K F σ e
  | _, _ => False
section
variable {K : PySem.W.Frag} {F F' : Hp}
theorem SR.up (s : Same F F') : ∀ {σ : St} {e : VEnv}, SR K F σ e → SR K F' σ e
  | [], [], _ => trivial
  | o :: σ, x :: e, h => ⟨fun d q => let ⟨v, a, b⟩ := h.1 d q; ⟨v, a, b.up s⟩, SR.up s h.2⟩
  | [], _ :: _, h => h.elim
  | _ :: _, [], h => h.elim
theorem SR.get : ∀ {σ : St} {e : VEnv} {i : Nat} {d : D}, SR K F σ e → e[i]? = some (some d) → ∃ v, σ[i]? = some (some v) ∧ DR K F v d
  | [], [], i, d, _, q => by simp at q
  | o :: σ, x :: e, 0, d, h, q => by
    simp only [List.getElem?_cons_zero, Option.some.injEq] at q
    obtain ⟨v, a, b⟩ := h.1 d q
    exact ⟨v, by simp [a], b⟩
  | o :: σ, x :: e, i + 1, d, h, q => by
    simp only [List.getElem?_cons_succ] at q ⊢
    exact SR.get h.2 q
  | [], _ :: _, _, _, h, _ => h.elim
  | _ :: _, [], _, _, h, _ => h.elim
theorem SR.put {v : V} {d : D} (r : DR K F v d) : ∀ {σ : St} {e : VEnv} (i : Nat), SR K F σ e → SR K F (σ.set i (some v)) (e.set i (some d))
  | [], [], i, _ => trivial
  | o :: σ, x :: e, 0, h => ⟨fun d' q => by cases q; exact ⟨v, rfl, r⟩, h.2⟩
  | o :: σ, x :: e, i + 1, h => ⟨h.1, SR.put r i h.2⟩
  | [], _ :: _, _, h => h.elim
  | _ :: _, [], _, h => h.elim
theorem SR.non : ∀ {σ : St} {e : VEnv} (i : Nat), SR K F σ e → SR K F (σ.set i none) (e.set i none)
  | [], [], i, _ => trivial
  | o :: σ, x :: e, 0, h => ⟨(fun d' q => nomatch q), h.2⟩
  | o :: σ, x :: e, i + 1, h => ⟨h.1, SR.non i h.2⟩
  | [], _ :: _, _, h => h.elim
  | _ :: _, [], _, h => h.elim
def vwipe (e : VEnv) : List Nat → VEnv
  | [] => e
  | v :: vs => (vwipe e vs).set v none
theorem SR.wiped {σ : St} {e : VEnv} (h : SR K F σ e) : ∀ vs : List Nat, SR K F (wipe σ vs) (vwipe e vs)
  | [] => h
  | v :: vs => by
    unfold wipe vwipe
    exact SR.non v (SR.wiped h vs)
def vstart (n : Nat) (ds : List D) : VEnv := ds.map some ++ List.replicate (n - ds.length) none
theorem SR.none : ∀ (n : Nat), SR K F (List.replicate n Option.none) (List.replicate n Option.none)
  | 0 => trivial
  | n + 1 => ⟨(fun d q => nomatch q), SR.none n⟩
theorem SR.start {N : List Str} : ∀ {vs : List V} {ds : List D}, DRs K F vs ds → SR K F (start N vs) (vstart N.length ds) := by
  intro vs ds h
  have go : ∀ (m : Nat) {vs : List V} {ds : List D}, DRs K F vs ds → SR K F (vs.map some ++ List.replicate m Option.none) (ds.map some ++ List.replicate m Option.none) := by
    intro m vs ds h
    induction ds generalizing vs with
    | nil => cases h; exact SR.none m
    | cons d ds ih =>
      cases h with
      | cons a r => exact ⟨fun d' q => by cases q; exact ⟨_, rfl, a⟩, ih r⟩
  have hl := h.len
  unfold L2.start vstart
  rw [← hl]
  exact go _ h
end
end VL
namespace VL
open PySem PySem.Spec L2

abbrev VK := D → Mem → Prop
abbrev VTE := VEnv → Mem → VK → Prop
abbrev VTT := VEnv → Mem → (Bool → Mem → Prop) → Prop
abbrev VTA := VEnv → Mem → (List D → Mem → Prop) → Prop
abbrev VTO := VEnv → Mem → (Option Int → Mem → Prop) → Prop
abbrev VTG := D → VEnv → Mem → (VEnv → Mem → Prop) → Prop
abbrev VTGs := List D → VEnv → Mem → (VEnv → Mem → Prop) → Prop
structure VEnds where
  nx : VEnv → Mem → Prop
  rt : VK
  bk : VEnv → Mem → Prop := fun _ _ => False
  ct : VEnv → Mem → Prop := fun _ _ => False
abbrev VTS := VEnds → VEnv → Mem → Prop
abbrev VR2 := D → D → Mem → VK → Prop
abbrev VR1 := D → Mem → VK → Prop
abbrev VRs := List D → Mem → VK → Prop

/-- what follows a value -/
def OutE (K : PySem.W.Frag) (F G : Hp) (Q' : VK) (Q : L2.VK) : Prop := ∀ v H F' M d, Same F F' → Rel K F' M G H → DR K F' v d → Q' d M → Q v H
def OutT (K : PySem.W.Frag) (F G : Hp) (Q' : Bool → Mem → Prop) (Q : Bool → Hp → Prop) : Prop := ∀ b H F' M, Same F F' → Rel K F' M G H → Q' b M → Q b H
def OutA (K : PySem.W.Frag) (F G : Hp) (Q' : List D → Mem → Prop) (Q : List V → Hp → Prop) : Prop := ∀ vs H F' M ds, Same F F' → Rel K F' M G H → DRs K F' vs ds → Q' ds M → Q vs H
def OutO (K : PySem.W.Frag) (F G : Hp) (Q' : Option Int → Mem → Prop) (Q : Option Int → Hp → Prop) : Prop := ∀ b H F' M, Same F F' → Rel K F' M G H → Q' b M → Q b H
def OutS (K : PySem.W.Frag) (F G : Hp) (Q' : VEnv → Mem → Prop) (Q : L2.St → Hp → Prop) : Prop := ∀ σ H F' M e, Same F F' → Rel K F' M G H → SR K F' σ e → Q' e M → Q σ H
structure OutD (K : PySem.W.Frag) (F G : Hp) (D' : VEnds) (D : Ends) : Prop where
  nx : OutS K F G D'.nx D.nx
  rt : OutE K F G D'.rt D.rt
  bk : OutS K F G D'.bk D.bk
  ct : OutS K F G D'.ct D.ct
section
variable {K : PySem.W.Frag} {F F' G : Hp}
theorem OutE.up {Q' : VK} {Q : L2.VK} (o : OutE K F G Q' Q) (s : Same F F') : OutE K F' G Q' Q := fun v H F1 M d s1 => o v H F1 M d (s.trans s1)
theorem OutT.up {Q' : Bool → Mem → Prop} {Q : Bool → Hp → Prop} (o : OutT K F G Q' Q) (s : Same F F') : OutT K F' G Q' Q := fun b H F1 M s1 => o b H F1 M (s.trans s1)
theorem OutA.up {Q' : List D → Mem → Prop} {Q : List V → Hp → Prop} (o : OutA K F G Q' Q) (s : Same F F') : OutA K F' G Q' Q := fun v H F1 M d s1 => o v H F1 M d (s.trans s1)
theorem OutO.up {Q' : Option Int → Mem → Prop} {Q : Option Int → Hp → Prop} (o : OutO K F G Q' Q) (s : Same F F') : OutO K F' G Q' Q := fun b H F1 M s1 => o b H F1 M (s.trans s1)
theorem OutS.up {Q' : VEnv → Mem → Prop} {Q : L2.St → Hp → Prop} (o : OutS K F G Q' Q) (s : Same F F') : OutS K F' G Q' Q := fun v H F1 M d s1 => o v H F1 M d (s.trans s1)
theorem OutD.up {D' : VEnds} {D : Ends} (o : OutD K F G D' D) (s : Same F F') : OutD K F' G D' D := ⟨o.nx.up s, o.rt.up s, o.bk.up s, o.ct.up s⟩
end
def lE (K : PySem.W.Frag) (t : VTE) : TE := fun σ H Q => ∃ F M G e Q', SR K F σ e ∧ Rel K F M G H ∧ t e M Q' ∧ OutE K F G Q' Q
def lT (K : PySem.W.Frag) (t : VTT) : TT := fun σ H Q => ∃ F M G e Q', SR K F σ e ∧ Rel K F M G H ∧ t e M Q' ∧ OutT K F G Q' Q
def lA (K : PySem.W.Frag) (t : VTA) : TA := fun σ H Q => ∃ F M G e Q', SR K F σ e ∧ Rel K F M G H ∧ t e M Q' ∧ OutA K F G Q' Q
def lO (K : PySem.W.Frag) (t : VTO) : TO := fun σ H Q => ∃ F M G e Q', SR K F σ e ∧ Rel K F M G H ∧ t e M Q' ∧ OutO K F G Q' Q
def lG (K : PySem.W.Frag) (t : VTG) : TG := fun v σ H Q => ∃ F M G e d Q', SR K F σ e ∧ Rel K F M G H ∧ DR K F v d ∧ t d e M Q' ∧ OutS K F G Q' Q
def lGs (K : PySem.W.Frag) (t : VTGs) : TGs := fun vs σ H Q => ∃ F M G e ds Q', SR K F σ e ∧ Rel K F M G H ∧ DRs K F vs ds ∧ t ds e M Q' ∧ OutS K F G Q' Q
def lS (K : PySem.W.Frag) (t : VTS) : TS := fun D σ H => ∃ F M G e D', SR K F σ e ∧ Rel K F M G H ∧ t D' e M ∧ OutD K F G D' D
def l2 (K : PySem.W.Frag) (r : VR2) : R2 := fun x y H Q => ∃ F M G a b Q', Rel K F M G H ∧ DR K F x a ∧ DR K F y b ∧ r a b M Q' ∧ OutE K F G Q' Q
def l1 (K : PySem.W.Frag) (r : VR1) : V → Hp → L2.VK → Prop := fun x H Q => ∃ F M G a Q', Rel K F M G H ∧ DR K F x a ∧ r a M Q' ∧ OutE K F G Q' Q
def ls (K : PySem.W.Frag) (r : VRs) : List V → Hp → L2.VK → Prop := fun xs H Q => ∃ F M G as Q', Rel K F M G H ∧ DRs K F xs as ∧ r as M Q' ∧ OutE K F G Q' Q

def VE (X : Cx) (e : Expr) (t : VTE) : Prop := PE X e (lE X.K t)
def VT (X : Cx) (e : Expr) (t : VTT) : Prop := PT X e (lT X.K t)
def VW (X : Cx) (e : Expr) (t : VTT) : Prop := PW X e (lT X.K t)
def VA (X : Cx) (es : List Expr) (t : VTA) : Prop := PA X es (lA X.K t)
def VO (X : Cx) (e : Option Expr) (t : VTO) : Prop := PO X e (lO X.K t)
def VG (X : Cx) (e : Expr) (t : VTG) : Prop := PG X e (lG X.K t)
def VGs (X : Cx) (e : List Expr) (t : VTGs) : Prop := PGs X e (lGs X.K t)
def VS (X : Cx) (e : Stmt) (t : VTS) : Prop := PS X e (lS X.K t)
def VSs (X : Cx) (e : List Stmt) (t : VTS) : Prop := PSs X e (lS X.K t)

section
variable {X : Cx}
theorem PE_imp {e : Expr} {t t' : TE} (h : PE X e t) (i : ∀ σ H Q, t' σ H Q → t σ H Q) : PE X e t' := ⟨fun p s σ H Q I w => h.run p s σ H Q I (i _ _ _ w)⟩
theorem PT_imp {e : Expr} {t t' : TT} (h : PT X e t) (i : ∀ σ H Q, t' σ H Q → t σ H Q) : PT X e t' := ⟨fun p s σ H Q I w => h.run p s σ H Q I (i _ _ _ w)⟩
theorem PW_imp {e : Expr} {t t' : TT} (h : PW X e t) (i : ∀ σ H Q, t' σ H Q → t σ H Q) : PW X e t' := ⟨fun wh p s σ H Q I w => h.run wh p s σ H Q I (i _ _ _ w)⟩
theorem PA_imp {e : List Expr} {t t' : TA} (h : PA X e t) (i : ∀ σ H Q, t' σ H Q → t σ H Q) : PA X e t' := ⟨fun po p s σ H Q I w => h.run po p s σ H Q I (i _ _ _ w)⟩
theorem PO_imp {e : Option Expr} {t t' : TO} (h : PO X e t) (i : ∀ σ H Q, t' σ H Q → t σ H Q) : PO X e t' := ⟨fun p s σ H Q I w => h.run p s σ H Q I (i _ _ _ w)⟩
theorem PG_imp {e : Expr} {t t' : TG} (h : PG X e t) (i : ∀ v σ H Q, t' v σ H Q → t v σ H Q) : PG X e t' := ⟨fun p s σ H v u Q I r w => h.run p s σ H v u Q I r (i _ _ _ _ w)⟩
theorem PGs_imp {e : List Expr} {t t' : TGs} (h : PGs X e t) (i : ∀ v σ H Q, t' v σ H Q → t v σ H Q) : PGs X e t' := ⟨fun p s σ H v u Q I r w => h.run p s σ H v u Q I r (i _ _ _ _ w)⟩
theorem PS_imp {e : Stmt} {t t' : TS} (h : PS X e t) (i : ∀ D σ H, t' D σ H → t D σ H) : PS X e t' := ⟨fun p s σ H D I w => h.run p s σ H D I (i _ _ _ w)⟩
theorem PSs_imp {e : List Stmt} {t t' : TS} (h : PSs X e t) (i : ∀ D σ H, t' D σ H → t D σ H) : PSs X e t' := ⟨fun p s σ H D I w => h.run p s σ H D I (i _ _ _ w)⟩
theorem OpR_imp {f : Value → Value → Sem Value} {r r' : R2} (h : OpR X f r) (i : ∀ x y H Q, r' x y H Q → r x y H Q) : OpR X f r' := fun p s σ H x y v u Q I rx ry w => h p s σ H x y v u Q I rx ry (i _ _ _ _ w)
theorem UnR_imp {f : Value → Sem Value} {r r' : V → Hp → L2.VK → Prop} (h : UnR X f r) (i : ∀ x H Q, r' x H Q → r x H Q) : UnR X f r' := fun p s σ H x v Q I rx w => h p s σ H x v Q I rx (i _ _ _ w)
theorem CallR_imp {f : Value} {r r' : List V → Hp → L2.VK → Prop} (h : CallR X f r) (i : ∀ x H Q, r' x H Q → r x H Q) : CallR X f r' := fun p s σ H x v Q I rx w => h p s σ H x v Q I rx (i _ _ _ w)
theorem MtR_imp {id : String} {r r' : V → List V → Hp → L2.VK → Prop} (h : MtR X id r) (i : ∀ x xs H Q, r' x xs H Q → r x xs H Q) : MtR X id r' := fun p s σ H x xs v us Q I rx rs w => h p s σ H x xs v us Q I rx rs (i _ _ _ _ w)
theorem IxR_imp {r r' : R2} (h : IxR X r) (i : ∀ x y H Q, r' x y H Q → r x y H Q) : IxR X r' := fun a b p s σ H x y v u Q I rx ry w => h a b p s σ H x y v u Q I rx ry (i _ _ _ _ w)
theorem SlR_imp {r r' : V → Option Int → Option Int → Hp → L2.VK → Prop} (h : SlR X r) (i : ∀ x y z H Q, r' x y z H Q → r x y z H Q) : SlR X r' := fun p s σ H x v vl vu lo hi sl Q I rx a b c w => h p s σ H x v vl vu lo hi sl Q I rx a b c (i _ _ _ _ _ w)

@[simp] def vVar (i : Nat) : VTE := fun e M Q => ∃ d, e[i]? = some (some d) ∧ Q d M
@[simp] def vC (d : D) : VTE := fun _ M Q => Q d M
theorem v_pe {e : Expr} {te : TE} {t : VTE} (h : PE X e te) (i : ∀ F M G σ H e Q' Q, SR X.K F σ e → Rel X.K F M G H → t e M Q' → OutE X.K F G Q' Q → te σ H Q) : VE X e t :=
  PE_imp h fun σ H Q ⟨F, M, G, e, Q', h1, h2, h3, h4⟩ => i F M G σ H e Q' Q h1 h2 h3 h4
theorem v_var {i : Nat} {e : Expr} (h : PE X e (tVar i)) : VE X e (vVar i) := v_pe h fun F M G σ H e Q' Q hs hr ⟨d, hd, q⟩ o => by
  obtain ⟨v, a, b⟩ := hs.get hd
  exact ⟨v, a, o v H F M d (Same.refl F) hr b q⟩
theorem v_c {e : Expr} {v : V} {d : D} (h : PE X e (tC v)) (hd : ∀ F, DR X.K F v d) : VE X e (vC d) := v_pe h fun F M G σ H e Q' Q hs hr q o => o v H F M d (Same.refl F) hr (hd F) q
theorem v_int {i : Int} {j pos} : VE X (.Constant (.int i) j pos) (vC (.int i)) := v_c pe_int fun _ => .int i
theorem v_bl {b : Bool} {j pos} : VE X (.Constant (.bool b) j pos) (vC (.bl b)) := v_c pe_bl fun _ => .bl b
theorem v_non {j pos} : VE X (.Constant .none j pos) (vC .non) := v_c pe_non fun _ => .non
theorem v_str {x : Str} {j pos} : VE X (.Constant (.str x) j pos) (vC (.str x)) := v_c pe_str fun _ => .str x

def asL (M : Mem) : D → Option (List D)
  | .lst xs => some xs
  | .rd xs => some xs
  | .obj a => match M a with
    | some (.lst xs) => some xs
    | _ => none
  | _ => none
/-- a list that is not locked -/
def asP (M : Mem) : D → Option (List D)
  | .lst xs => some xs
  | .obj a => match M a with
    | some (.lst xs) => some xs
    | _ => none
  | _ => none
theorem asL_obj {M : Mem} {a : Addr} {xs : List D} (h : M a = some (.lst xs)) : asL M (.obj a) = some xs := by unfold asL; simp [h]
theorem asP_obj {M : Mem} {a : Addr} {xs : List D} (h : M a = some (.lst xs)) : asP M (.obj a) = some xs := by unfold asP; simp [h]
theorem asP_at {K : PySem.W.Frag} {F G H : Hp} {M : Mem} {v : V} {d : D} {xs : List D} (r : Rel K F M G H) (h : DR K F v d) (e : asP M d = some xs) : ∃ a vs, v = .ref a ∧ H a = some (.lst vs) ∧ DRs K F vs xs := by
  cases h with
  | lst q z => cases e; exact ⟨_, _, rfl, r.sub _ _ q, z⟩
  | obj a =>
    unfold asP at e
    dsimp only at e
    cases hm : M a with
    | none => rw [hm] at e; cases e
    | some o =>
      rw [hm] at e
      cases o with
      | lst ys =>
        have e' : ys = xs := Option.some.inj e
        subst e'
        obtain ⟨_, _, ho, h1, vs, rfl, z⟩ := r.ob a _ hm
        exact ⟨a, vs, rfl, h1, z⟩
      | dk _ => cases e
      | dt _ => cases e
  | non => cases e
  | bl _ => cases e
  | int _ => cases e
  | str _ => cases e
  | tup _ _ => cases e
  | rd _ _ => cases e
theorem asL_at {K : PySem.W.Frag} {F G H : Hp} {M : Mem} {v : V} {d : D} {xs : List D} (r : Rel K F M G H) (h : DR K F v d) (e : asL M d = some xs) : ∃ a vs, v = .ref a ∧ SqL K H a vs ∧ DRs K F vs xs := by
  cases h with
  | lst q z => cases e; exact ⟨_, _, rfl, SqL.of (r.sub _ _ q), z⟩
  | obj a =>
    unfold asL at e
    dsimp only at e
    cases hm : M a with
    | none => rw [hm] at e; cases e
    | some o =>
      rw [hm] at e
      cases o with
      | lst ys =>
        have e' : ys = xs := Option.some.inj e
        subst e'
        obtain ⟨_, _, ho, h1, vs, rfl, z⟩ := r.ob a _ hm
        exact ⟨a, vs, rfl, SqL.of h1, z⟩
      | dk _ => cases e
      | dt _ => cases e
  | non => cases e
  | bl _ => cases e
  | int _ => cases e
  | str _ => cases e
  | tup _ _ => cases e
  | rd q z => cases e; exact ⟨_, _, rfl, r.sub.seq q, z⟩
@[simp] def vOp (r : VR2) (ta tb : VTE) : VTE := fun e M Q => ta e M fun x M1 => tb e M1 fun y M2 => r x y M2 Q
theorem v_op {op : Operator} {r : VR2} {a b : Expr} {ta tb : VTE} {pos : Pos} (ho : OpR X (binaryOp op) (l2 X.K r)) (ha : VE X a ta) (hb : VE X b tb) : VE X (.BinOp a op b pos) (vOp r ta tb) :=
  v_pe (pe_op ho ha hb) fun F M G σ H e Q' Q hs hr q o => ⟨F, M, G, e, _, hs, hr, q, fun x H1 F1 M1 d s1 r1 d1 q1 => ⟨F1, M1, G, e, _, hs.up s1, r1, q1, fun y H2 F2 M2 d' s2 r2 d2 q2 => ⟨F2, M2, G, d, d', Q', r2, d1.up s2, d2, q2, o.up (s1.trans s2)⟩⟩⟩
theorem v_cmp {op : CmpOp} {r : VR2} {a b : Expr} {ta tb : VTE} {pos : Pos} (ho : OpR X (compareOp op) (l2 X.K r)) (ha : VE X a ta) (hb : VE X b tb) (hm : behindInMarks op b = false) : VE X (.Compare a [op] [b] pos) (vOp r ta tb) :=
  v_pe (pe_cmpR ho ha hb hm) fun F M G σ H e Q' Q hs hr q o => ⟨F, M, G, e, _, hs, hr, q, fun x H1 F1 M1 d s1 r1 d1 q1 => ⟨F1, M1, G, e, _, hs.up s1, r1, q1, fun y H2 F2 M2 d' s2 r2 d2 q2 => ⟨F2, M2, G, d, d', Q', r2, d1.up s2, d2, q2, o.up (s1.trans s2)⟩⟩⟩
@[simp] def vTest (t : VTE) : VTT := fun e M Q => t e M fun x M1 => ∃ k, x = .bl k ∧ Q k M1
theorem t_cmp {op : CmpOp} {r : VR2} {a b : Expr} {ta tb : VTE} {pos : Pos} (ho : OpR X (compareOp op) (l2 X.K r)) (ha : VE X a ta) (hb : VE X b tb) (hm : behindInMarks op b = false) : VT X (.Compare a [op] [b] pos) (vTest (vOp r ta tb)) :=
  PT_imp (pt_cmpR ho ha hb hm) fun σ H Q ⟨F, M, G, e, Q', hs, hr, q, o⟩ => ⟨F, M, G, e, _, hs, hr, q, fun x H1 F1 M1 d s1 r1 d1 q1 => ⟨F1, M1, G, e, _, hs.up s1, r1, q1, fun y H2 F2 M2 d' s2 r2 d2 q2 => ⟨F2, M2, G, d, d', _, r2, d1.up s2, d2, q2, fun v H3 F3 M3 d3 s3 r3 z q3 => by
    obtain ⟨k, rfl, q4⟩ := q3
    cases z
    exact ⟨k, rfl, o k H3 F3 M3 ((s1.trans s2).trans s3) r3 q4⟩⟩⟩⟩
/-- a bool's value as a test -/
theorem t_val {e : Expr} {t : VTE} (h : VE X e t) (he : ∀ whole, isTrue e X.env whole = (do let v ← whole; standAt e.pos; holding [v] (truthy v)) := by intro _; rfl) : VT X e (vTest t) :=
  PT_imp (pt_val h he) fun σ H Q ⟨F, M, G, e, Q', hs, hr, q, o⟩ => ⟨F, M, G, e, _, hs, hr, q, fun x H1 F1 M1 d s1 r1 d1 q1 => by
    obtain ⟨k, rfl, q2⟩ := q1
    cases d1
    exact ⟨k, rfl, o k H1 F1 M1 s1 r1 q2⟩⟩
@[simp] def vUn (r : VR1) (ta : VTE) : VTE := fun e M Q => ta e M fun x M1 => r x M1 Q
theorem v_un {op : UnaryOp} {r : VR1} {a : Expr} {ta : VTE} {pos : Pos} (ho : UnR X (unaryOp op) (l1 X.K r)) (ha : VE X a ta) : VE X (.UnaryOp op a pos) (vUn r ta) :=
  v_pe (pe_un ho ha) fun F M G σ H e Q' Q hs hr q o => ⟨F, M, G, e, _, hs, hr, q, fun x H1 F1 M1 d s1 r1 d1 q1 => ⟨F1, M1, G, d, Q', r1, d1, q1, o.up s1⟩⟩

@[simp] def vAnd (ta tb : VTE) : VTE := fun e M Q => ta e M fun x M1 => ∃ c, x = .bl c ∧ if c = true then tb e M1 Q else Q (.bl false) M1
@[simp] def vOr (ta tb : VTE) : VTE := fun e M Q => ta e M fun x M1 => ∃ c, x = .bl c ∧ if c = true then Q (.bl true) M1 else tb e M1 Q
@[simp] def vNot (ta : VTE) : VTE := fun e M Q => ta e M fun x M1 => ∃ c, x = .bl c ∧ Q (.bl (!c)) M1
@[simp] def vIf (t : VTT) (ta tb : VTE) : VTE := fun e M Q => t e M fun c M1 => if c = true then ta e M1 Q else tb e M1 Q
variable {a b : Expr} {rest : List Expr} {ta tb : VTE} {pos : Pos} {tA tB : VTT}
theorem v_one {op : BoolOp} (h : VE X a ta) : VE X (.BoolOp op [a] pos) ta := pe_one h
theorem v_and (ha : VE X a ta) (hb : VE X (.BoolOp .And (b :: rest) pos) tb) : VE X (.BoolOp .And (a :: b :: rest) pos) (vAnd ta tb) :=
  v_pe (pe_and ha hb) fun F M G σ H e Q' Q hs hr q o => ⟨F, M, G, e, _, hs, hr, q, fun x H1 F1 M1 d s1 r1 d1 q1 => by
    obtain ⟨c, rfl, q1⟩ := q1
    cases d1
    refine ⟨c, rfl, ?_⟩
    cases c with
    | true => rw [if_pos rfl] at q1 ⊢; exact ⟨F1, M1, G, e, Q', hs.up s1, r1, q1, o.up s1⟩
    | false => rw [if_neg Bool.false_ne_true] at q1 ⊢; exact o _ H1 F1 M1 _ s1 r1 (.bl false) q1⟩
theorem v_or (ha : VE X a ta) (hb : VE X (.BoolOp .Or (b :: rest) pos) tb) : VE X (.BoolOp .Or (a :: b :: rest) pos) (vOr ta tb) :=
  v_pe (pe_or ha hb) fun F M G σ H e Q' Q hs hr q o => ⟨F, M, G, e, _, hs, hr, q, fun x H1 F1 M1 d s1 r1 d1 q1 => by
    obtain ⟨c, rfl, q1⟩ := q1
    cases d1
    refine ⟨c, rfl, ?_⟩
    cases c with
    | true => rw [if_pos rfl] at q1 ⊢; exact o _ H1 F1 M1 _ s1 r1 (.bl true) q1
    | false => rw [if_neg Bool.false_ne_true] at q1 ⊢; exact ⟨F1, M1, G, e, Q', hs.up s1, r1, q1, o.up s1⟩⟩
theorem v_not (ha : VE X a ta) : VE X (.UnaryOp .Not a pos) (vNot ta) :=
  v_pe (pe_not ha) fun F M G σ H e Q' Q hs hr q o => ⟨F, M, G, e, _, hs, hr, q, fun x H1 F1 M1 d s1 r1 d1 q1 => by
    obtain ⟨c, rfl, q1⟩ := q1
    cases d1
    exact ⟨c, rfl, o _ H1 F1 M1 _ s1 r1 (.bl _) q1⟩⟩
theorem v_if {c : Expr} (hc : VT X c tA) (ha : VE X a ta) (hb : VE X b tb) : VE X (.IfExp c a b pos) (vIf tA ta tb) :=
  v_pe (pe_ifExp hc ha hb) fun F M G σ H e Q' Q hs hr q o => ⟨F, M, G, e, _, hs, hr, q, fun c H1 F1 M1 s1 r1 q1 => by
    cases c with
    | true => rw [if_pos rfl] at q1 ⊢; exact ⟨F1, M1, G, e, Q', hs.up s1, r1, q1, o.up s1⟩
    | false => rw [if_neg Bool.false_ne_true] at q1 ⊢; exact ⟨F1, M1, G, e, Q', hs.up s1, r1, q1, o.up s1⟩⟩
@[simp] def vAndT (t u : VTT) : VTT := fun e M Q => t e M fun c M1 => if c = true then u e M1 Q else Q false M1
@[simp] def vOrT (t u : VTT) : VTT := fun e M Q => t e M fun c M1 => if c = true then Q true M1 else u e M1 Q
@[simp] def vNotT (t : VTT) : VTT := fun e M Q => t e M fun c M1 => Q (!c) M1
theorem t_pw (h : VW X a tA) : VT X a tA := h.pt
theorem t_and1 (ha : VT X a tA) : VW X (.BoolOp .And [a] pos) tA := pw_and1 ha
theorem t_or1 (ha : VT X a tA) : VW X (.BoolOp .Or [a] pos) tA := pw_or1 ha
theorem t_and (ha : VT X a tA) (hb : VW X (.BoolOp .And (b :: rest) pos) tB) : VW X (.BoolOp .And (a :: b :: rest) pos) (vAndT tA tB) :=
  PW_imp (pw_and ha hb) fun σ H Q ⟨F, M, G, e, Q', hs, hr, q, o⟩ => ⟨F, M, G, e, _, hs, hr, q, fun c H1 F1 M1 s1 r1 q1 => by
    cases c with
    | true => rw [if_pos rfl] at q1 ⊢; exact ⟨F1, M1, G, e, Q', hs.up s1, r1, q1, o.up s1⟩
    | false => rw [if_neg Bool.false_ne_true] at q1 ⊢; exact o _ H1 F1 M1 s1 r1 q1⟩
theorem t_or (ha : VT X a tA) (hb : VW X (.BoolOp .Or (b :: rest) pos) tB) : VW X (.BoolOp .Or (a :: b :: rest) pos) (vOrT tA tB) :=
  PW_imp (pw_or ha hb) fun σ H Q ⟨F, M, G, e, Q', hs, hr, q, o⟩ => ⟨F, M, G, e, _, hs, hr, q, fun c H1 F1 M1 s1 r1 q1 => by
    cases c with
    | true => rw [if_pos rfl] at q1 ⊢; exact o _ H1 F1 M1 s1 r1 q1
    | false => rw [if_neg Bool.false_ne_true] at q1 ⊢; exact ⟨F1, M1, G, e, Q', hs.up s1, r1, q1, o.up s1⟩⟩
theorem t_not (ha : VT X a tA) : VT X (.UnaryOp .Not a pos) (vNotT tA) :=
  PT_imp (pt_not ha) fun σ H Q ⟨F, M, G, e, Q', hs, hr, q, o⟩ => ⟨F, M, G, e, _, hs, hr, q, fun c H1 F1 M1 s1 r1 q1 => o _ H1 F1 M1 s1 r1 q1⟩
@[simp] def vChain (r r' : VR2) (ta tb tc : VTE) : VTE := fun e M Q => ta e M fun x M1 => tb e M1 fun y M2 => r x y M2 fun z M3 => ∃ k, z = .bl k ∧ if k = true then tc e M3 fun w M4 => r' y w M4 Q else Q (.bl false) M3

theorem v_chain {c : Expr} {tc : VTE} {op op' : CmpOp} {r r' : VR2} (ho : OpR X (compareOp op) (l2 X.K r)) (ho' : OpR X (compareOp op') (l2 X.K r')) (ha : VE X a ta) (hb : VE X b tb) (hc : VE X c tc)
    (hm : lastMarks [op, op'] [b, c] = false := by with_unfolding_all rfl) : VE X (.Compare a [op, op'] [b, c] pos) (vChain r r' ta tb tc) :=
  v_pe (pe_chain ho ho' ha hb hc hm) fun F M G σ H e Q' Q hs hr q o => ⟨F, M, G, e, _, hs, hr, q, fun x H1 F1 M1 d s1 r1 d1 q1 => ⟨F1, M1, G, e, _, hs.up s1, r1, q1, fun y H2 F2 M2 d' s2 r2 d2 q2 => ⟨F2, M2, G, d, d', _, r2, d1.up s2, d2, q2, fun z H3 F3 M3 dz s3 r3 d3 q3 => by
    obtain ⟨k, rfl, q3⟩ := q3
    cases d3
    refine ⟨k, rfl, ?_⟩
    cases k with
    | true =>
      rw [if_pos rfl] at q3 ⊢
      exact ⟨F3, M3, G, e, _, hs.up ((s1.trans s2).trans s3), r3, q3, fun w H4 F4 M4 dw s4 r4 d4 q4 => ⟨F4, M4, G, d', dw, Q', r4, d2.up (s3.trans s4), d4, q4, o.up (((s1.trans s2).trans s3).trans s4)⟩⟩
    | false =>
      rw [if_neg Bool.false_ne_true] at q3 ⊢
      exact o _ H3 F3 M3 _ ((s1.trans s2).trans s3) r3 (.bl false) q3⟩⟩⟩
theorem t_chain {c : Expr} {tc : VTE} {op op' : CmpOp} {r r' : VR2} (ho : OpR X (compareOp op) (l2 X.K r)) (ho' : OpR X (compareOp op') (l2 X.K r')) (ha : VE X a ta) (hb : VE X b tb) (hc : VE X c tc)
    (hm : lastMarks [op, op'] [b, c] = false := by with_unfolding_all rfl) : VT X (.Compare a [op, op'] [b, c] pos) (vTest (vChain r r' ta tb tc)) :=
  PT_imp (pt_chain ho ho' ha hb hc hm) fun σ H Q ⟨F, M, G, e, Q', hs, hr, q, o⟩ => ⟨F, M, G, e, _, hs, hr, q, fun x H1 F1 M1 d s1 r1 d1 q1 => ⟨F1, M1, G, e, _, hs.up s1, r1, q1, fun y H2 F2 M2 d' s2 r2 d2 q2 => ⟨F2, M2, G, d, d', _, r2, d1.up s2, d2, q2, fun z H3 F3 M3 dz s3 r3 d3 q3 => by
    obtain ⟨k, rfl, q3⟩ := q3
    cases d3
    refine ⟨k, rfl, ?_⟩
    cases k with
    | true =>
      rw [if_pos rfl] at q3 ⊢
      refine ⟨F3, M3, G, e, _, hs.up ((s1.trans s2).trans s3), r3, q3, fun w H4 F4 M4 dw s4 r4 d4 q4 => ⟨F4, M4, G, d', dw, _, r4, d2.up (s3.trans s4), d4, q4, fun u H5 F5 M5 du s5 r5 d5 q5 => ?_⟩⟩
      obtain ⟨k, rfl, q5⟩ := q5
      cases d5
      exact ⟨k, rfl, o k H5 F5 M5 ((((s1.trans s2).trans s3).trans s4).trans s5) r5 q5⟩
    | false =>
      rw [if_neg Bool.false_ne_true] at q3 ⊢
      obtain ⟨k, e, q5⟩ := q3
      cases e
      exact ⟨false, rfl, o _ H3 F3 M3 ((s1.trans s2).trans s3) r3 q5⟩⟩⟩⟩
end
end VL
namespace VL
open PySem PySem.Spec L2

mutual
def py : D → PyData
  | .non => .none
  | .bl b => .bool b
  | .int i => .int i
  | .str x => .str x
  | .lst xs => .list (pys xs)
  | .tup xs => .tuple (pys xs)
  | .obj _ => .none
  | .rd xs => .list (pys xs)
def pys : List D → List PyData
  | [] => []
  | x :: xs => py x :: pys xs
end
/-- data of depth n at most, no object in it -/
def Sh : Nat → D → Prop
  | _, .non => True
  | _, .bl _ => True
  | _, .int _ => True
  | _, .str x => PyData.strOk x = true
  | 0, .lst _ => False
  | 0, .tup _ => False
  | n + 1, .lst xs => ∀ x ∈ xs, Sh n x
  | n + 1, .tup xs => ∀ x ∈ xs, Sh n x
  | 0, .rd _ => False
  | n + 1, .rd xs => ∀ x ∈ xs, Sh n x
  | _, .obj _ => False
theorem sh_int {n : Nat} {i : Int} : Sh n (.int i) := by cases n <;> trivial
theorem sh_bl {n : Nat} {i : Bool} : Sh n (.bl i) := by cases n <;> trivial
theorem sh_non {n : Nat} : Sh n .non := by cases n <;> trivial
theorem sh_str {n : Nat} {x : Str} (h : PyData.strOk x = true) : Sh n (.str x) := by cases n <;> exact h
theorem sh_lst {n : Nat} {xs : List D} (h : ∀ x ∈ xs, Sh n x) : Sh (n + 1) (.lst xs) := h
theorem sh_tup {n : Nat} {xs : List D} (h : ∀ x ∈ xs, Sh n x) : Sh (n + 1) (.tup xs) := h
theorem pys_len : ∀ xs : List D, (pys xs).length = xs.length
  | [] => rfl
  | x :: xs => by simp [pys, pys_len xs]
theorem sh_py : ∀ (n : Nat) (d : D), Sh n d → (py d).canLay0 = true ∧ (py d).depth ≤ n := by
  have go : ∀ (n : Nat), (∀ d : D, Sh n d → (py d).canLay0 = true ∧ (py d).depth ≤ n) → ∀ xs : List D, (∀ x ∈ xs, Sh n x) → PyData.canLayAll0 (pys xs) = true ∧ PyData.depthAll (pys xs) ≤ n := by
    intro n ih xs
    induction xs with
    | nil => intro _; simp [pys, PyData.canLayAll0, PyData.depthAll]
    | cons x xs ih2 =>
      intro h
      obtain ⟨a, b⟩ := ih x (h x List.mem_cons_self)
      obtain ⟨c, d⟩ := ih2 fun y hy => h y (List.mem_cons_of_mem _ hy)
      simp only [pys, PyData.canLayAll0, PyData.depthAll, a, c, Bool.and_self, true_and]
      omega
  intro n
  induction n with
  | zero =>
    intro d h
    cases d with
    | non => simp [py, PyData.canLay0, PyData.depth]
    | bl b => simp [py, PyData.canLay0, PyData.depth]
    | int b => simp [py, PyData.canLay0, PyData.depth]
    | str x => have h' : PyData.strOk x = true := h; simp [py, PyData.canLay0, PyData.depth, h']
    | lst xs => exact h.elim
    | tup xs => exact h.elim
    | rd xs => exact h.elim
    | obj a => exact h.elim
  | succ n ih =>
    intro d h
    cases d with
    | non => simp [py, PyData.canLay0, PyData.depth]
    | bl b => simp [py, PyData.canLay0, PyData.depth]
    | int b => simp [py, PyData.canLay0, PyData.depth]
    | str x => have h' : PyData.strOk x = true := h; simp [py, PyData.canLay0, PyData.depth, h']
    | lst xs =>
      obtain ⟨a, b⟩ := go n ih xs h
      simp only [py, PyData.canLay0, PyData.depth, a, true_and]
      omega
    | tup xs =>
      obtain ⟨a, b⟩ := go n ih xs h
      simp only [py, PyData.canLay0, PyData.depth, a, true_and]
      omega
    | rd xs =>
      obtain ⟨a, b⟩ := go n ih xs h
      simp only [py, PyData.canLay0, PyData.depth, a, true_and]
      omega
    | obj a => exact h.elim
theorem sh_shaped {n : Nat} {d : D} (h : Sh n d) (hn : n ≤ 64) : SeqAt.shaped (py d) = true := by
  obtain ⟨a, b⟩ := sh_py n d h
  unfold SeqAt.shaped
  rw [a, Bool.true_and]
  exact decide_eq_true (by omega)
mutual
def noObj : D → Bool
  | .obj _ => false
  | .lst xs => noObjs xs
  | .tup xs => noObjs xs
  | .rd xs => noObjs xs
  | _ => true
def noObjs : List D → Bool
  | [] => true
  | x :: xs => noObj x && noObjs xs
end
theorem noObjs_of : ∀ {xs : List D}, (∀ x ∈ xs, noObj x = true) → noObjs xs = true
  | [], _ => rfl
  | x :: xs, h => by
    unfold noObjs
    rw [h x List.mem_cons_self, noObjs_of fun y hy => h y (List.mem_cons_of_mem _ hy)] <;> rfl
theorem sh_noObj : ∀ (n : Nat) (d : D), Sh n d → noObj d = true := by
  intro n
  induction n with
  | zero => intro d h; cases d <;> first | rfl | exact h.elim
  | succ n ih =>
    intro d h
    cases d with
    | lst xs => unfold noObj; exact noObjs_of fun x hx => ih x (h x hx)
    | tup xs => unfold noObj; exact noObjs_of fun x hx => ih x (h x hx)
    | rd xs => unfold noObj; exact noObjs_of fun x hx => ih x (h x hx)
    | obj a => exact h.elim
    | _ => rfl
section
variable {K : PySem.W.Frag} {F H : Hp}
mutual
theorem DR.dp (s : Same F H) : ∀ (d : D) (v : V), noObj d = true → DR K F v d → Dp K H v (py d)
  | .non, _, _, h => by cases h; exact .non
  | .bl b, _, _, h => by cases h; exact .bl b
  | .int i, _, _, h => by cases h; exact .int i
  | .str x, _, _, h => by cases h; exact .str x
  | .obj a, _, o, _ => by cases o
  | .lst ds, _, o, h => by
    cases h with
    | lst q r => exact .lst (SqL.of (s _ _ q)) (DRs.dp s ds _ (by unfold noObj at o; exact o) r)
  | .tup ds, _, o, h => by
    cases h with
    | tup q r => exact .tup (same_tup s q) (DRs.dp s ds _ (by unfold noObj at o; exact o) r)
  | .rd ds, _, o, h => by
    cases h with
    | rd q r => exact .lst (s.seq q) (DRs.dp s ds _ (by unfold noObj at o; exact o) r)
theorem DRs.dp (s : Same F H) : ∀ (ds : List D) (vs : List V), noObjs ds = true → DRs K F vs ds → DpAll K H vs (pys ds)
  | [], _, _, h => by cases h; exact .nil
  | d :: ds, _, o, h => by
    have o' := Bool.and_eq_true_iff.mp (show (noObj d && noObjs ds) = true from o)
    cases h with
    | cons q r => exact .cons (DR.dp s d _ o'.1 q) (DRs.dp s ds _ o'.2 r)
end
end
/-- an object that is a list, read -/
def fz (M : Mem) (d : D) : D := match asL M d with
  | some xs => .lst xs
  | none => d
theorem fz_int {M : Mem} {i : Int} : fz M (.int i) = .int i := rfl
theorem fz_bl {M : Mem} {i : Bool} : fz M (.bl i) = .bl i := rfl
theorem fz_non {M : Mem} : fz M .non = .non := rfl
theorem fz_str {M : Mem} {i : Str} : fz M (.str i) = .str i := rfl
theorem fz_lst {M : Mem} {i : List D} : fz M (.lst i) = .lst i := rfl
theorem fz_tup {M : Mem} {i : List D} : fz M (.tup i) = .tup i := rfl
theorem fz_obj {M : Mem} {a : Addr} {xs : List D} (h : M a = some (.lst xs)) : fz M (.obj a) = .lst xs := by unfold fz; rw [asL_obj h]
theorem fz_dp {K : PySem.W.Frag} {F G H : Hp} {M : Mem} {v : V} {d : D} {n : Nat} (r : Rel K F M G H) (h : DR K F v d) (s : Sh n (fz M d)) : Dp K H v (py (fz M d)) := by
  cases e : asL M d with
  | none =>
    have e2 : fz M d = d := by unfold fz; rw [e]
    rw [e2] at s ⊢
    exact DR.dp r.sub d v (sh_noObj n d s) h
  | some xs =>
    have e2 : fz M d = .lst xs := by unfold fz; rw [e]
    rw [e2] at s ⊢
    obtain ⟨a, vs, rfl, q, z⟩ := asL_at r h e
    exact .lst q (DRs.dp r.sub xs vs (by have := sh_noObj n _ s; unfold noObj at this; exact this) z)

def eqD (x y : D) : Bool := PyData.eqv (py x) (py y)
def eqDs (x y : List D) : Bool := PyData.eqvAll (pys x) (pys y)
theorem eqD_int {i j : Int} : eqD (.int i) (.int j) = decide (i = j) := by simp only [eqD, py, PyData.eqv, Bool.beq_eq_decide_eq]
theorem eqD_bl {i j : Bool} : eqD (.bl i) (.bl j) = (i == j) := by simp [eqD, py, PyData.eqv]
theorem eqD_str {i j : Str} : eqD (.str i) (.str j) = decide (i = j) := by simp only [eqD, py, PyData.eqv, Bool.beq_eq_decide_eq]
theorem eqD_lst {i j : List D} : eqD (.lst i) (.lst j) = eqDs i j := by simp [eqD, eqDs, py, PyData.eqv]
theorem eqD_tup {i j : List D} : eqD (.tup i) (.tup j) = eqDs i j := by simp [eqD, eqDs, py, PyData.eqv]
theorem eqD_nn : eqD .non .non = true := by simp [eqD, py, PyData.eqv]
theorem eqDs_nil : eqDs [] [] = true := by simp [eqDs, pys, PyData.eqvAll]
theorem eqDs_cons {x y : D} {xs ys : List D} : eqDs (x :: xs) (y :: ys) = (eqD x y && eqDs xs ys) := by simp [eqDs, eqD, pys, PyData.eqvAll]
theorem eqDs_nc {y : D} {ys : List D} : eqDs [] (y :: ys) = false := by simp [eqDs, pys, PyData.eqvAll]
theorem eqDs_cn {y : D} {ys : List D} : eqDs (y :: ys) [] = false := by simp [eqDs, pys, PyData.eqvAll]
theorem eqD_n_int {i : Int} : eqD .non (.int i) = false := by simp [eqD, py, PyData.eqv]
theorem eqD_int_n {i : Int} : eqD (.int i) .non = false := by simp [eqD, py, PyData.eqv]
theorem eqD_n_tup {i : List D} : eqD .non (.tup i) = false := by simp [eqD, py, PyData.eqv]
theorem eqD_tup_n {i : List D} : eqD (.tup i) .non = false := by simp [eqD, py, PyData.eqv]
theorem eqD_n_str {i : Str} : eqD .non (.str i) = false := by simp [eqD, py, PyData.eqv]
theorem eqD_str_n {i : Str} : eqD (.str i) .non = false := by simp [eqD, py, PyData.eqv]
theorem eqD_int_str {i : Int} {j : Str} : eqD (.int i) (.str j) = false := by simp [eqD, py, PyData.eqv]
theorem eqD_str_int {i : Int} {j : Str} : eqD (.str j) (.int i) = false := by simp [eqD, py, PyData.eqv]
theorem eqD_tup_str {i : List D} {j : Str} : eqD (.tup i) (.str j) = false := by simp [eqD, py, PyData.eqv]
theorem eqD_str_tup {i : List D} {j : Str} : eqD (.str j) (.tup i) = false := by simp [eqD, py, PyData.eqv]
theorem eqD_tup_int {i : List D} {j : Int} : eqD (.tup i) (.int j) = false := by simp [eqD, py, PyData.eqv]
theorem eqD_int_tup {i : List D} {j : Int} : eqD (.int j) (.tup i) = false := by simp [eqD, py, PyData.eqv]
theorem eqDs_ints : ∀ {xs ys : List Int}, eqDs (xs.map D.int) (ys.map D.int) = decide (xs = ys)
  | [], [] => by rw [List.map_nil, eqDs_nil, decide_eq_true rfl]
  | [], y :: ys => by rw [List.map_nil, List.map_cons, eqDs_nc]; simp
  | x :: xs, [] => by rw [List.map_nil, List.map_cons, eqDs_cn]; simp
  | x :: xs, y :: ys => by
    rw [List.map_cons, List.map_cons, eqDs_cons, eqDs_ints, eqD_int]
    simp [List.cons.injEq]
theorem eqD_refl {n : Nat} {d : D} (h : Sh n d) : eqD d d = true := PySem.SeqAt.eqv_refl _ (sh_py n d h).1
mutual
/-- plain data: ints, texts, None, tuples, lists of such, no bool: equal only what is the same -/
def numD : D → Bool
  | .int _ => true
  | .str _ => true
  | .non => true
  | .bl _ => false
  | .obj _ => false
  | .rd _ => false
  | .lst xs => numDs xs
  | .tup xs => numDs xs
def numDs : List D → Bool
  | [] => true
  | x :: xs => numD x && numDs xs
end
mutual
theorem eqD_eq : ∀ (x y : D), numD x = true → numD y = true → eqD x y = true → x = y
  | .int i, .int j, _, _, h => by rw [eqD_int] at h; rw [of_decide_eq_true h]
  | .str i, .str j, _, _, h => by rw [eqD_str] at h; rw [of_decide_eq_true h]
  | .non, .non, _, _, _ => rfl
  | .lst xs, .lst ys, a, b, h => by rw [eqD_lst] at h; rw [eqDs_eq xs ys (by unfold numD at a; exact a) (by unfold numD at b; exact b) h]
  | .tup xs, .tup ys, a, b, h => by rw [eqD_tup] at h; rw [eqDs_eq xs ys (by unfold numD at a; exact a) (by unfold numD at b; exact b) h]
  | .bl _, _, a, _, _ => by unfold numD at a; cases a
  | .obj _, _, a, _, _ => by unfold numD at a; cases a
  | .rd _, _, a, _, _ => by unfold numD at a; cases a
  | .int _, .bl _, _, b, _ => by unfold numD at b; cases b
  | .int _, .obj _, _, b, _ => by unfold numD at b; cases b
  | .int _, .rd _, _, b, _ => by unfold numD at b; cases b
  | .str _, .bl _, _, b, _ => by unfold numD at b; cases b
  | .str _, .obj _, _, b, _ => by unfold numD at b; cases b
  | .str _, .rd _, _, b, _ => by unfold numD at b; cases b
  | .non, .bl _, _, b, _ => by unfold numD at b; cases b
  | .non, .obj _, _, b, _ => by unfold numD at b; cases b
  | .non, .rd _, _, b, _ => by unfold numD at b; cases b
  | .lst _, .bl _, _, b, _ => by unfold numD at b; cases b
  | .lst _, .obj _, _, b, _ => by unfold numD at b; cases b
  | .lst _, .rd _, _, b, _ => by unfold numD at b; cases b
  | .tup _, .bl _, _, b, _ => by unfold numD at b; cases b
  | .tup _, .obj _, _, b, _ => by unfold numD at b; cases b
  | .tup _, .rd _, _, b, _ => by unfold numD at b; cases b
  | .int _, .str _, _, _, h => by simp [eqD, py, PyData.eqv] at h
  | .int _, .non, _, _, h => by simp [eqD, py, PyData.eqv] at h
  | .int _, .lst _, _, _, h => by simp [eqD, py, PyData.eqv] at h
  | .int _, .tup _, _, _, h => by simp [eqD, py, PyData.eqv] at h
  | .str _, .int _, _, _, h => by simp [eqD, py, PyData.eqv] at h
  | .str _, .non, _, _, h => by simp [eqD, py, PyData.eqv] at h
  | .str _, .lst _, _, _, h => by simp [eqD, py, PyData.eqv] at h
  | .str _, .tup _, _, _, h => by simp [eqD, py, PyData.eqv] at h
  | .non, .int _, _, _, h => by simp [eqD, py, PyData.eqv] at h
  | .non, .str _, _, _, h => by simp [eqD, py, PyData.eqv] at h
  | .non, .lst _, _, _, h => by simp [eqD, py, PyData.eqv] at h
  | .non, .tup _, _, _, h => by simp [eqD, py, PyData.eqv] at h
  | .lst _, .int _, _, _, h => by simp [eqD, py, PyData.eqv] at h
  | .lst _, .str _, _, _, h => by simp [eqD, py, PyData.eqv] at h
  | .lst _, .non, _, _, h => by simp [eqD, py, PyData.eqv] at h
  | .lst _, .tup _, _, _, h => by simp [eqD, py, PyData.eqv] at h
  | .tup _, .int _, _, _, h => by simp [eqD, py, PyData.eqv] at h
  | .tup _, .str _, _, _, h => by simp [eqD, py, PyData.eqv] at h
  | .tup _, .non, _, _, h => by simp [eqD, py, PyData.eqv] at h
  | .tup _, .lst _, _, _, h => by simp [eqD, py, PyData.eqv] at h
theorem eqDs_eq : ∀ (xs ys : List D), numDs xs = true → numDs ys = true → eqDs xs ys = true → xs = ys
  | [], [], _, _, _ => rfl
  | [], y :: ys, _, _, h => by rw [eqDs_nc] at h; cases h
  | x :: xs, [], _, _, h => by rw [eqDs_cn] at h; cases h
  | x :: xs, y :: ys, a, b, h => by
    rw [eqDs_cons, Bool.and_eq_true] at h
    have a' := Bool.and_eq_true_iff.mp (show (numD x && numDs xs) = true from a)
    have b' := Bool.and_eq_true_iff.mp (show (numD y && numDs ys) = true from b)
    rw [eqD_eq x y a'.1 b'.1 h.1, eqDs_eq xs ys a'.2 b'.2 h.2]
end
theorem numDs_of : ∀ {xs : List D}, (∀ x ∈ xs, numD x = true) → numDs xs = true
  | [], _ => rfl
  | x :: xs, h => by
    unfold numDs
    rw [h x List.mem_cons_self, numDs_of fun y hy => h y (List.mem_cons_of_mem _ hy)] <;> rfl

section
variable {X : Cx}
theorem hu64 {A : Around} {k : Nat} (hr : Room k A) : A.units + 70 < cLine := by have := hr.un; omega
@[simp] def oAdd : VR2 := fun x y M Q => match x, y with
  | .int i, .int j => Q (.int (i + j)) M
  | .str x, .str y => x.length + y.length ≤ sizeLine ∧ Q (.str (x ++ y)) M
  | .tup xs, .tup ys => xs.length + ys.length ≤ sizeLine ∧ Q (.tup (xs ++ ys)) M
  | x, y => ∃ xs ys, asP M x = some xs ∧ asP M y = some ys ∧ xs.length + ys.length ≤ sizeLine ∧ Q (.lst (xs ++ ys)) M
theorem cat_lists {F G H : Hp} {M : Mem} {x y : V} {a b : D} {xs ys : List D} {Q' : VK} {Q : L2.VK} (r : Rel X.K F M G H) (da : DR X.K F x a) (db : DR X.K F y b) (ea : asP M a = some xs) (eb : asP M b = some ys) (hl : xs.length + ys.length ≤ sizeLine)
    (q : Q' (.lst (xs ++ ys)) M) (o : OutE X.K F G Q' Q) : rCat x y H Q := by
  obtain ⟨p, vs, rfl, hp, dv⟩ := asP_at r da ea
  obtain ⟨p', ws, rfl, hp', dw⟩ := asP_at r db eb
  refine ⟨p, p', vs, ws, rfl, rfl, hp, hp', by rw [dv.len, dw.len]; exact hl, fun n hn => ?_⟩
  have s := r.sF (o := .lst (vs ++ ws)) hn
  exact o _ _ _ _ _ s (r.newF hn) (.lst upd_same ((dv.app dw).up s)) q
theorem o_add : OpR X (binaryOp .Add) (l2 X.K oAdd) := by
  intro pins s σ H x y v u Q I rx ry ⟨F, M, G, a, b, Q', r, da, db, q, o⟩
  have lists : (∃ xs ys, asP M a = some xs ∧ asP M b = some ys ∧ xs.length + ys.length ≤ sizeLine ∧ Q' (.lst (xs ++ ys)) M) → wpAny (model X.prog X.w) X.A (binaryOp .Add v u) (EP X pins σ Q) X.xe s := fun ⟨xs, ys, ea, eb, hl, q⟩ =>
    op_cat pins s σ H x y v u Q I rx ry (cat_lists r da db ea eb hl q o)
  cases a with
  | int i =>
    cases b with
    | int j => cases da; cases db; exact op_add pins s σ H _ _ v u Q I rx ry ⟨i, j, rfl, rfl, o _ H F M _ (Same.refl F) r (.int _) q⟩
    | _ => exact lists q
  | str i =>
    cases b with
    | str j => cases da; cases db; exact op_add_str pins s σ H _ _ v u Q I rx ry ⟨i, j, rfl, rfl, q.1, o _ H F M _ (Same.refl F) r (.str _) q.2⟩
    | _ => exact lists q
  | tup i =>
    cases b with
    | tup j =>
      cases da with
      | tup h1 z1 =>
        cases db with
        | tup h2 z2 =>
          refine op_catA pins s σ H _ _ v u Q I rx ry ⟨_, _, _, _, rfl, rfl, same_tup r.sub h1, same_tup r.sub h2, by rw [z1.len, z2.len]; exact q.1, fun e => ?_, fun e e2 => ?_, fun e e2 p hp => ?_⟩
          · subst e
            have : i = [] := List.eq_nil_of_length_eq_zero (z1.len.symm)
            subst this
            exact o _ H F M _ (Same.refl F) r (.tup h2 z2) q.2
          · subst e2
            have : j = [] := List.eq_nil_of_length_eq_zero (z2.len.symm)
            subst this
            have q2 := q.2
            rw [List.append_nil] at q2
            exact o _ H F M _ (Same.refl F) r (.tup h1 z1) q2
          · exact o _ _ _ _ _ (r.sF hp) (r.newF hp) (.tup (SqT.of upd_same) ((z1.app z2).up (r.sF hp))) q.2
    | _ => exact lists q
  | _ => exact lists q
@[simp] def oSub : VR2 := fun x y M Q => ∃ i j, x = .int i ∧ y = .int j ∧ Q (.int (i - j)) M
theorem of_int2 {f : Value → Value → Sem Value} {C : Int → Int → Prop} {g : Int → Int → Int} (h : OpR X f (rI C fun i j => .int (g i j))) : OpR X f (l2 X.K fun x y M Q => ∃ i j, x = .int i ∧ y = .int j ∧ C i j ∧ Q (.int (g i j)) M) :=
  OpR_imp h fun x y H Q ⟨F, M, G, a, b, Q', r, da, db, q, o⟩ => by
    obtain ⟨i, j, rfl, rfl, c, q⟩ := q
    cases da; cases db
    exact ⟨i, j, rfl, rfl, c, o _ H F M _ (Same.refl F) r (.int _) q⟩
theorem of_int2b {f : Value → Value → Sem Value} {g : Int → Int → Bool} (h : OpR X f (rI0 fun i j => .bl (g i j))) : OpR X f (l2 X.K fun x y M Q => ∃ i j, x = .int i ∧ y = .int j ∧ Q (.bl (g i j)) M) :=
  OpR_imp h fun x y H Q ⟨F, M, G, a, b, Q', r, da, db, q, o⟩ => by
    obtain ⟨i, j, rfl, rfl, q⟩ := q
    cases da; cases db
    exact ⟨i, j, rfl, rfl, o _ H F M _ (Same.refl F) r (.bl _) q⟩
theorem o_sub : OpR X (binaryOp .Sub) (l2 X.K oSub) :=
  OpR_imp op_sub fun x y H Q ⟨F, M, G, a, b, Q', r, da, db, q, o⟩ => by
    obtain ⟨i, j, rfl, rfl, q⟩ := q
    cases da; cases db
    exact ⟨i, j, rfl, rfl, o _ H F M _ (Same.refl F) r (.int _) q⟩
/-- a factor is short, or both together are not too long -/
def MulOk (i j : Int) : Prop := i.natAbs < 18446744073709551616 ∨ j.natAbs < 18446744073709551616 ∨ CMulW i j
@[simp] def oMulI : VR2 := fun x y M Q => ∃ i j, x = .int i ∧ y = .int j ∧ MulOk i j ∧ Q (.int (i * j)) M
theorem MulOk.ok {i j : Int} (h : MulOk i j) : PySem.IntMulOk i j := by
  have e : (18446744073709551616 : Nat) = 2 ^ 64 := by decide
  rcases h with h | h | h
  · exact CMul.ok (.inl (by omega))
  · exact CMul.ok (.inr (by omega))
  · exact h.ok
theorem o_mulI : OpR X (binaryOp .Mult) (l2 X.K oMulI) := of_int2 (opI fun _ _ _ _ _ _ _ hc q => PyProof.Rows.mul_int q (MulOk.ok hc))
/-- a list times an int -/
def oRep : VR2 := fun x y M Q => ∃ xs k, asP M x = some xs ∧ y = .int k ∧ -(2 ^ 63) ≤ k ∧ k < 2 ^ 63 ∧ xs.length * k.toNat ≤ sizeLine ∧ Q (.lst (List.replicate k.toNat xs).flatten) M
theorem DRs.rep {K : PySem.W.Frag} {F : Hp} {vs : List V} {ds : List D} (h : DRs K F vs ds) : ∀ n : Nat, DRs K F (List.replicate n vs).flatten (List.replicate n ds).flatten
  | 0 => .nil
  | n + 1 => by
    rw [List.replicate_succ, List.replicate_succ, List.flatten_cons, List.flatten_cons]
    exact h.app (DRs.rep h n)
theorem o_rep : OpR X (binaryOp .Mult) (l2 X.K oRep) :=
  OpR_imp op_rep fun x y H Q ⟨F, M, G, a, b, Q', r, da, db, q, o⟩ => by
    obtain ⟨xs, k, ea, rfl, h1, h2, hl, q⟩ := q
    cases db
    obtain ⟨p, vs, rfl, hp, dv⟩ := asP_at r da ea
    refine ⟨p, k, vs, rfl, rfl, hp, h1, h2, by rw [dv.len]; exact hl, fun n hn => ?_⟩
    exact o _ _ _ _ _ (r.sF hn) (r.newF hn) (.lst upd_same ((dv.rep _).up (r.sF hn))) q
@[simp] def oFdiv : VR2 := fun x y M Q => ∃ i j, x = .int i ∧ y = .int j ∧ (0 < j ∧ j.natAbs.log2 < 9000) ∧ Q (.int (i / j)) M
theorem o_fdiv : OpR X (binaryOp .FloorDiv) (l2 X.K oFdiv) := of_int2 (C := CDivW) op_fdivW
@[simp] def oMod : VR2 := fun x y M Q => ∃ i j, x = .int i ∧ y = .int j ∧ 0 < j ∧ Q (.int (i % j)) M
theorem o_mod : OpR X (binaryOp .Mod) (l2 X.K oMod) := of_int2 op_mod
@[simp] def oModN : VR2 := fun x y M Q => ∃ i j, x = .int i ∧ y = .int j ∧ j ≠ 0 ∧ Q (.int (i.fmod j)) M
theorem o_modN : OpR X (binaryOp .Mod) (l2 X.K oModN) := of_int2 op_modN
def PowOk (i j : Int) : Prop := 0 ≤ j ∧ j ≤ 1000000 ∧ i.natAbs.log2 ≤ 1000000 ∧ ((i.natAbs.log2 + 1 : Nat) : Int) * j ≤ 134217728
@[simp] def oPow : VR2 := fun x y M Q => ∃ i j, x = .int i ∧ y = .int j ∧ PowOk i j ∧ Q (.int (i ^ j.toNat)) M
theorem PowOk.ok {i j : Int} (h : PowOk i j) : (Builtin.Int.intBits i : Int) * j ≤ 2 ^ 27 := by
  obtain ⟨h0, h1, h2, h3⟩ := h
  have b : (Builtin.Int.intBits i : Int) ≤ ((i.natAbs.log2 + 1 : Nat) : Int) := by
    unfold Builtin.Int.intBits
    split <;> omega
  have := Int.mul_le_mul_of_nonneg_right b h0
  have e : (2 : Int) ^ 27 = 134217728 := by decide
  omega
theorem o_pow : OpR X (binaryOp .Pow) (l2 X.K oPow) := of_int2 (opI fun _ _ _ _ _ _ _ hc q => PyProof.Rows.pow_int hc.1 hc.ok q)
@[simp] def oNeg : VR1 := fun x M Q => ∃ i, x = .int i ∧ Q (.int (-i)) M
theorem o_neg : UnR X (unaryOp .USub) (l1 X.K oNeg) := UnR_imp un_neg fun x H Q ⟨F, M, G, a, Q', r, da, q, o⟩ => by
  obtain ⟨i, rfl, q⟩ := q
  cases da
  exact ⟨i, rfl, o _ H F M _ (Same.refl F) r (.int _) q⟩
@[simp] def oLt : VR2 := fun x y M Q => ∃ i j, x = .int i ∧ y = .int j ∧ Q (.bl (decide (i < j))) M
@[simp] def oLe : VR2 := fun x y M Q => ∃ i j, x = .int i ∧ y = .int j ∧ Q (.bl (decide (i ≤ j))) M
@[simp] def oGt : VR2 := fun x y M Q => ∃ i j, x = .int i ∧ y = .int j ∧ Q (.bl (decide (j < i))) M
@[simp] def oGe : VR2 := fun x y M Q => ∃ i j, x = .int i ∧ y = .int j ∧ Q (.bl (decide (j ≤ i))) M
theorem o_lt : OpR X (compareOp .Lt) (l2 X.K oLt) := of_int2b op_lt
theorem o_le : OpR X (compareOp .LtE) (l2 X.K oLe) := of_int2b op_le
theorem o_gt : OpR X (compareOp .Gt) (l2 X.K oGt) := of_int2b op_gt
theorem o_ge : OpR X (compareOp .GtE) (l2 X.K oGe) := of_int2b op_ge
def oEq : VR2 := fun x y M Q => (∃ a b, x = .str a ∧ y = .str b ∧ Q (.bl (decide (a = b))) M) ∨ (Sh 30 (fz M x) ∧ Sh 30 (fz M y) ∧ Q (.bl (eqD (fz M x) (fz M y))) M)
def oNe : VR2 := fun x y M Q => (∃ a b, x = .str a ∧ y = .str b ∧ Q (.bl (!decide (a = b))) M) ∨ (Sh 30 (fz M x) ∧ Sh 30 (fz M y) ∧ Q (.bl (!eqD (fz M x) (fz M y))) M)
theorem dec_strV {a b : Str} : decide (V.str a = V.str b) = decide (a = b) := by
  by_cases h : a = b
  · rw [h, decide_eq_true rfl, decide_eq_true rfl]
  · rw [decide_eq_false h, decide_eq_false fun z => h (V.str.inj z)]
theorem o_eq {k : Nat} (hr : Room k X.A) : OpR X (compareOp .Eq) (l2 X.K oEq) := fun pins s σ H x y v u Q I rx ry ⟨F, M, G, a, b, Q', r, da, db, q, o⟩ => by
  rcases q with ⟨i, j, rfl, rfl, q⟩ | ⟨s1, s2, q⟩
  · cases da; cases db
    exact op_eq pins s σ H _ _ v u Q I rx ry ⟨rfl, by rw [dec_strV]; exact o _ H F M _ (Same.refl F) r (.bl _) q⟩
  · exact op_eqD hr.units pins s σ H x y v u Q I rx ry ⟨_, _, fz_dp r da s1, fz_dp r db s2, sh_shaped s1 (by decide), sh_shaped s2 (by decide), o _ H F M _ (Same.refl F) r (.bl _) q⟩
theorem o_ne {k : Nat} (hr : Room k X.A) : OpR X (compareOp .NotEq) (l2 X.K oNe) := fun pins s σ H x y v u Q I rx ry ⟨F, M, G, a, b, Q', r, da, db, q, o⟩ => by
  rcases q with ⟨i, j, rfl, rfl, q⟩ | ⟨s1, s2, q⟩
  · cases da; cases db
    exact op_ne pins s σ H _ _ v u Q I rx ry ⟨rfl, by rw [dec_strV]; exact o _ H F M _ (Same.refl F) r (.bl _) q⟩
  · exact op_neD hr.units pins s σ H x y v u Q I rx ry ⟨_, _, fz_dp r da s1, fz_dp r db s2, sh_shaped s1 (by decide), sh_shaped s2 (by decide), o _ H F M _ (Same.refl F) r (.bl _) q⟩
@[simp] def isNon : D → Bool
  | .non => true
  | _ => false
theorem dr_non {K : PySem.W.Frag} {F : Hp} {v : V} {d : D} (h : DR K F v d) : decide (v = .non) = isNon d := by
  cases h <;> first | rfl | exact decide_eq_false (fun z => nomatch z) | exact decide_eq_true rfl
@[simp] def oIs : VR2 := fun x y M Q => y = .non ∧ Q (.bl (isNon x)) M
@[simp] def oIsNot : VR2 := fun x y M Q => y = .non ∧ Q (.bl (!isNon x)) M
theorem o_is : OpR X (compareOp .Is) (l2 X.K oIs) := OpR_imp op_isN fun x y H Q ⟨F, M, G, a, b, Q', r, da, db, ⟨e, q⟩, o⟩ => by
  subst e; cases db
  refine ⟨rfl, ?_⟩
  rw [dr_non da]
  exact o _ H F M _ (Same.refl F) r (.bl _) q
theorem o_isNot : OpR X (compareOp .IsNot) (l2 X.K oIsNot) := OpR_imp op_notN fun x y H Q ⟨F, M, G, a, b, Q', r, da, db, ⟨e, q⟩, o⟩ => by
  subst e; cases db
  refine ⟨rfl, ?_⟩
  rw [dr_non da]
  exact o _ H F M _ (Same.refl F) r (.bl _) q
/-- the items of a list or a tuple -/
@[simp] def asI (M : Mem) : D → Option (List D)
  | .tup xs => some xs
  | d => asL M d
def inD (x : D) (ys : List D) : Bool := ys.any fun y => eqD y x
def oIn : VR2 := fun x y M Q => ∃ ys, asI M y = some ys ∧ Sh 30 x ∧ (∀ z ∈ ys, Sh 30 z) ∧ Q (.bl (inD x ys)) M
def oNotIn : VR2 := fun x y M Q => ∃ ys, asI M y = some ys ∧ Sh 30 x ∧ (∀ z ∈ ys, Sh 30 z) ∧ Q (.bl (!inD x ys)) M
theorem any_pys (x : D) : ∀ ys : List D, ((pys ys).any fun z => PyData.eqv z (py x)) = inD x ys
  | [] => rfl
  | y :: ys => by
    have := any_pys x ys
    unfold inD at this ⊢
    simp only [pys, List.any_cons, this, eqD]
theorem asI_cases {M : Mem} {y : D} {ys : List D} (h : asI M y = some ys) : y = .tup ys ∨ asL M y = some ys := by
  cases y with
  | tup xs => cases h; exact .inl rfl
  | _ => exact .inr h
theorem in_core {F G H : Hp} {M : Mem} {x y : V} {a b : D} {ys : List D} {pins : List (Addr × Obj)} {σ : L2.St} {s : Shared} {v u : Value} (I : Inv X pins σ H s) (rx : RelV x v) (ry : RelV y u) (r : Rel X.K F M G H) (da : DR X.K F x a) (db : DR X.K F y b)
    (e : asI M b = some ys) (s1 : Sh 30 a) (s2 : ∀ z ∈ ys, Sh 30 z) : (∃ as, Reads s.heap v (py a) as) ∧ ((∃ bs, Reads s.heap u (.list (pys ys)) bs) ∨ ∃ bs, Reads s.heap u (.tuple (pys ys)) bs) ∧ PyData.canLayAll0 (pys ys) = true ∧ (py a).canLay0 = true := by
  have c := sh_py 31 (.lst ys) s2
  simp only [py, PyData.canLay0] at c
  have c2 := sh_py 30 a s1
  have n1 := sh_noObj 30 a s1
  have n2 : noObjs ys = true := noObjs_of fun z hz => sh_noObj 30 z (s2 z hz)
  refine ⟨Dp.reads I _ _ _ (DR.dp r.sub a x n1 da) rx, ?_, c.1, c2.1⟩
  rcases asI_cases e with rfl | e
  · cases db with
    | tup h z => exact .inr (Dp.reads I _ _ _ (.tup (same_tup r.sub h) (DRs.dp r.sub ys _ n2 z)) ry)
  · obtain ⟨p, vs, rfl, h, z⟩ := asL_at r db e
    exact .inl (Dp.reads I _ _ _ (.lst h (DRs.dp r.sub ys _ n2 z)) ry)
theorem room_in {A : Around} {d : D} {n : Nat} (h : Sh n d) (hn : n ≤ 60) (hu : A.units + 70 < cLine) (k : Nat) : A.units + 1 + min k (py d).depth < cLine := by
  have h1 := (sh_py n d h).2
  have h2 : min k (py d).depth ≤ (py d).depth := Nat.min_le_right _ _
  omega
theorem o_in {k : Nat} (hr : Room k X.A) : OpR X (compareOp .In) (l2 X.K oIn) := by
  intro pins s σ H x y v u Q I rx ry ⟨F, M, G, a, b, Q', r, da, db, ⟨ys, e, s1, s2, q⟩, o⟩
  obtain ⟨⟨as, r1⟩, r2, c1, c2⟩ := in_core I rx ry r da db e s1 s2
  have q2 := o _ H F M _ (Same.refl F) r (.bl _) q
  rw [← any_pys] at q2
  rcases r2 with ⟨bs, r2⟩ | ⟨bs, r2⟩
  · exact SeqAt.in_list_reads r2 r1 c1 c2 (room_in s1 (by decide) (hu64 hr) _) ⟨.bl _, H, I, rfl, q2⟩
  · exact SeqAt.in_tuple_reads r2 r1 c1 c2 (room_in s1 (by decide) (hu64 hr) _) ⟨.bl _, H, I, rfl, q2⟩
theorem o_notIn {k : Nat} (hr : Room k X.A) : OpR X (compareOp .NotIn) (l2 X.K oNotIn) := by
  intro pins s σ H x y v u Q I rx ry ⟨F, M, G, a, b, Q', r, da, db, ⟨ys, e, s1, s2, q⟩, o⟩
  obtain ⟨⟨as, r1⟩, r2, c1, c2⟩ := in_core I rx ry r da db e s1 s2
  have q2 := o _ H F M _ (Same.refl F) r (.bl _) q
  rw [← any_pys] at q2
  rcases r2 with ⟨bs, r2⟩ | ⟨bs, r2⟩
  · exact SeqAt.notIn_list_reads r2 r1 c1 c2 (room_in s1 (by decide) (hu64 hr) _) ⟨.bl _, H, I, rfl, q2⟩
  · exact SeqAt.notIn_tuple_reads r2 r1 c1 c2 (room_in s1 (by decide) (hu64 hr) _) ⟨.bl _, H, I, rfl, q2⟩
end
end VL
namespace VL
open PySem PySem.Spec L2

section
variable {X : Cx} {e a b : Expr} {es : List Expr} {te ta tb : VTE} {t : VTA} {pos : Pos}
@[simp] def vaNil : VTA := fun _ M Q => Q [] M
@[simp] def vaCons (ta : VTE) (tr : VTA) : VTA := fun e M Q => ta e M fun x M1 => tr e M1 fun xs M2 => Q (x :: xs) M2
theorem va_nil : VA X [] vaNil := PA_imp pa_nil fun σ H Q ⟨F, M, G, e, Q', hs, hr, q, o⟩ => o [] H F M [] (Same.refl F) hr .nil q
theorem va_cons (ha : VE X e te) (hr : VA X es t) (hs : starEach (e :: es) X.env = (false, eval e X.env) :: starEach es X.env := by rfl) : VA X (e :: es) (vaCons te t) :=
  PA_imp (pa_cons ha hr hs) fun σ H Q ⟨F, M, G, e, Q', hs, hr, q, o⟩ => ⟨F, M, G, e, _, hs, hr, q, fun x H1 F1 M1 d s1 r1 d1 q1 => ⟨F1, M1, G, e, _, hs.up s1, r1, q1, fun xs H2 F2 M2 ds s2 r2 d2 q2 =>
    o _ H2 F2 M2 _ (s1.trans s2) r2 (.cons (d1.up s2) d2) q2⟩⟩
@[simp] def vTup (t : VTA) : VTE := fun e M Q => t e M fun xs M1 => xs.length ≤ sizeLine ∧ Q (.tup xs) M1
@[simp] def vLst (t : VTA) : VTE := fun e M Q => t e M fun xs M1 => xs.length ≤ sizeLine ∧ Q (.lst xs) M1
/-- a list that may change -/
@[simp] def vLstO (t : VTA) : VTE := fun e M Q => t e M fun xs M1 => xs.length ≤ sizeLine ∧ ∀ p, M1 p = none → Q (.obj p) (mupd M1 p (.lst xs))
theorem v_tup {x1} (h : VA X es t) : VE X (.Tuple es x1 pos) (vTup t) :=
  v_pe (pe_tup h) fun F M G σ H e Q' Q hs hr q o => ⟨F, M, G, e, _, hs, hr, q, fun vs H1 F1 M1 ds s1 r1 d1 q1 => ⟨by rw [d1.len]; exact q1.1, fun p hp =>
    o _ _ _ _ _ (s1.trans (r1.sF hp)) (r1.newF hp) (.tup (SqT.of upd_same) (d1.up (r1.sF hp))) q1.2⟩⟩
theorem v_lst (h : VA X es t) : VE X (.List es pos) (vLst t) :=
  v_pe (pe_lst h) fun F M G σ H e Q' Q hs hr q o => ⟨F, M, G, e, _, hs, hr, q, fun vs H1 F1 M1 ds s1 r1 d1 q1 => ⟨by rw [d1.len]; exact q1.1, fun p hp =>
    o _ _ _ _ _ (s1.trans (r1.sF hp)) (r1.newF hp) (.lst upd_same (d1.up (r1.sF hp))) q1.2⟩⟩
theorem v_lstO (h : VA X es t) : VE X (.List es pos) (vLstO t) :=
  v_pe (pe_lst h) fun F M G σ H e Q' Q hs hr q o => ⟨F, M, G, e, _, hs, hr, q, fun vs H1 F1 M1 ds s1 r1 d1 q1 => ⟨by rw [d1.len]; exact q1.1, fun p hp =>
    o _ _ _ _ _ s1 (r1.newM hp (m := .lst ds) ⟨vs, rfl, d1⟩) (.obj p) (q1.2 p (r1.m0 hp))⟩⟩

theorem DRs.atI {K : PySem.W.Frag} {F : Hp} {vs : List V} {ds : List D} {i : Int} {d : D} (h : DRs K F vs ds) (e : L2.atI ds i = some d) : ∃ v, L2.atI vs i = some v ∧ DR K F v d := by
  unfold L2.atI at e ⊢
  rw [h.len]
  cases q : ixN ds.length i with
  | none => rw [q] at e; cases e
  | some j =>
    rw [q] at e
    exact DRs.geti h e
@[simp] def oIx : VR2 := fun x y M Q => match x, y with
  | .tup xs, .int i => ∃ d, atI xs i = some d ∧ Q d M
  | .str z, .int i => ∃ c, z.length ≤ sizeLine ∧ atI z.cps.toList i = some c ∧ Q (.str ⟨#[c]⟩) M
  | x, .int i => ∃ xs d, asL M x = some xs ∧ atI xs i = some d ∧ Q d M
  | _, _ => False
theorem o_ix : IxR X (l2 X.K oIx) := by
  intro value slice pins s σ H x y v u Q I rx ry ⟨F, M, G, a, b, Q', r, da, db, q, o⟩ hs
  have lists : ∀ i, b = .int i → (∃ xs d, asL M a = some xs ∧ atI xs i = some d ∧ Q' d M) → wpAny (model X.prog X.w) X.A (PyProof.Rows.subscriptTail value slice v u) (EP X pins σ Q) X.xe s := fun i e ⟨xs, d, ea, ei, q2⟩ => by
    subst e; cases db
    obtain ⟨p, vs, rfl, hp, z⟩ := asL_at r da ea
    obtain ⟨w, e1, e2⟩ := z.atI ei
    exact ix_list value slice pins s σ H _ _ v u Q I rx ry ⟨p, vs, i, w, rfl, rfl, hp, e1, o _ H F M _ (Same.refl F) r e2 q2⟩ hs
  cases b with
  | int i =>
    cases a with
    | tup xs =>
      cases da with
      | tup h z =>
        cases db
        obtain ⟨d, ei, q⟩ := q
        obtain ⟨w, e1, e2⟩ := z.atI ei
        exact ix_tup value slice pins s σ H _ _ v u Q I rx ry ⟨_, _, i, w, rfl, rfl, same_tup r.sub h, e1, o _ H F M _ (Same.refl F) r e2 q⟩ hs
    | str z =>
      cases da; cases db
      obtain ⟨c, h1, h2, q⟩ := q
      exact ix_str value slice pins s σ H _ _ v u Q I rx ry ⟨z, i, c, rfl, rfl, h1, h2, o _ H F M _ (Same.refl F) r (.str _) q⟩ hs
    | _ => exact lists i rfl q
  | _ => cases a <;> exact q.elim
theorem v_ix (ha : VE X a ta) (hb : VE X b tb) (hs : PlainIx b := by exact fun _ _ => rfl) : VE X (.Subscript a b pos) (vOp oIx ta tb) :=
  v_pe (pe_ix o_ix ha hb hs) fun F M G σ H e Q' Q hs hr q o => ⟨F, M, G, e, _, hs, hr, q, fun x H1 F1 M1 d s1 r1 d1 q1 => ⟨F1, M1, G, e, _, hs.up s1, r1, q1, fun y H2 F2 M2 d' s2 r2 d2 q2 => ⟨F2, M2, G, d, d', Q', r2, d1.up s2, d2, q2, o.up (s1.trans s2)⟩⟩⟩
@[simp] def vNoPart : VTO := fun _ M Q => Q none M
@[simp] def vPart (t : VTE) : VTO := fun e M Q => t e M fun x M1 => ∃ i, x = .int i ∧ Q (some i) M1
theorem vo_none : VO X none vNoPart := PO_imp po_none fun σ H Q ⟨F, M, G, e, Q', hs, hr, q, o⟩ => o none H F M (Same.refl F) hr q
theorem vo_some (h : VE X e te) : VO X (some e) (vPart te) := PO_imp (po_some h) fun σ H Q ⟨F, M, G, e, Q', hs, hr, q, o⟩ => ⟨F, M, G, e, _, hs, hr, q, fun x H1 F1 M1 d s1 r1 d1 q1 => by
  obtain ⟨i, rfl, q1⟩ := q1
  cases d1
  exact ⟨i, rfl, o _ H1 F1 M1 s1 r1 q1⟩⟩
def cutD {α : Type} (xs : List α) (lo hi : Option Int) : List α := (xs.drop (HT.sIx xs.length 0 lo)).take (HT.sIx xs.length xs.length hi - HT.sIx xs.length 0 lo)
theorem DRs.cut {K : PySem.W.Frag} {F : Hp} {vs : List V} {ds : List D} (h : DRs K F vs ds) (lo hi : Option Int) : DRs K F (cutV vs lo hi) (cutD ds lo hi) := by
  unfold cutV cutD
  rw [h.len]
  exact (h.drop _).take _
theorem cutD_whole {α : Type} {xs : List α} {lo hi : Option Int} (h : HT.sIx xs.length 0 lo = 0 ∧ HT.sIx xs.length xs.length hi = xs.length) : cutD xs lo hi = xs := by
  unfold cutD
  rw [h.1, h.2, Nat.sub_zero, List.drop_zero]
  exact List.take_length
def oSl (x : D) (lo hi : Option Int) (M : Mem) (Q : VK) : Prop := match x with
  | .tup xs => Q (.tup (cutD xs lo hi)) M
  | .str z => z.length ≤ sizeLine ∧ Q (.str (cutS z lo hi)) M
  | x => ∃ xs, asL M x = some xs ∧ Q (.lst (cutD xs lo hi)) M
def lSl (K : PySem.W.Frag) : V → Option Int → Option Int → Hp → L2.VK → Prop := fun x lo hi H Q => ∃ F M G a Q', Rel K F M G H ∧ DR K F x a ∧ oSl a lo hi M Q' ∧ OutE K F G Q' Q
theorem o_sl : SlR X (lSl X.K) := by
  intro pins s σ H x v vl vu lo hi sl Q I rx hs pl pu ⟨F, M, G, a, Q', r, da, q, o⟩
  have lists : (∃ xs, asL M a = some xs ∧ Q' (.lst (cutD xs lo hi)) M) → ∃ T id, typeLookup (.type T) "__getitem__" = pure (some (.builtin id)) ∧ s.TypeIs v T ∧ wpAny (model X.prog X.w) X.A (getItem v (.ref sl)) (EP X pins σ Q) X.xe s := fun ⟨xs, ea, q⟩ => by
    obtain ⟨p, vs, rfl, hp, z⟩ := asL_at r da ea
    exact sl_list pins s σ H _ v vl vu lo hi sl Q I rx hs pl pu ⟨p, vs, rfl, hp, fun n hn => o _ _ _ _ _ (r.sF hn) (r.newF hn) (.lst upd_same ((z.cut lo hi).up (r.sF hn))) q⟩
  cases a with
  | tup xs =>
    cases da with
    | tup h z =>
      refine sl_tupA pins s σ H _ v vl vu lo hi sl Q I rx hs pl pu ⟨_, _, rfl, same_tup r.sub h, fun hw => ?_, fun hw n hn => ?_⟩
      · rw [z.len] at hw
        have q' : Q' (.tup (cutD xs lo hi)) M := q
        rw [cutD_whole hw] at q'
        exact o _ H F M _ (Same.refl F) r (.tup h z) q'
      · exact o _ _ _ _ _ (r.sF hn) (r.newF hn) (.tup (SqT.of upd_same) ((z.cut lo hi).up (r.sF hn))) q
  | str z =>
    cases da
    exact sl_str pins s σ H _ v vl vu lo hi sl Q I rx hs pl pu ⟨z, rfl, q.1, o _ H F M _ (Same.refl F) r (.str _) q.2⟩
  | _ => exact lists q
@[simp] def vSl (te : VTE) (tl th : VTO) : VTE := fun e M Q => te e M fun x M1 => tl e M1 fun l M2 => th e M2 fun h M3 => oSl x l h M3 Q
theorem v_sl {lo hi : Option Expr} {tl th : VTO} {p2 : Pos} (he : VE X e te) (hl : VO X lo tl) (hu : VO X hi th) : VE X (.Subscript e (.Slice lo hi none p2) pos) (vSl te tl th) :=
  v_pe (pe_slice o_sl he hl hu) fun F M G σ H e Q' Q hs hr q o => ⟨F, M, G, e, _, hs, hr, q, fun x H1 F1 M1 d s1 r1 d1 q1 => ⟨F1, M1, G, e, _, hs.up s1, r1, q1, fun l H2 F2 M2 s2 r2 q2 => ⟨F2, M2, G, e, _, hs.up (s1.trans s2), r2, q2, fun h H3 F3 M3 s3 r3 q3 =>
    ⟨F3, M3, G, d, Q', r3, d1.up (s2.trans s3), q3, o.up ((s1.trans s2).trans s3)⟩⟩⟩⟩

variable {x : Str} {p : Pos} {r : VRs}
@[simp] def vCall (r : VRs) (t : VTA) : VTE := fun e M Q => t e M fun xs M1 => r xs M1 Q
theorem v_callB {id : String} (hc : CallR X (.builtin id) (ls X.K r)) (hm : X.mg x = none) (ha : VA X (e :: es) t) (hg : Gl X x := by rfl) (hv : bootBuiltins x = some (.builtin id) := by decide +kernel) (hn : x ≠ "__name__" := by decide) (hdb : (x == ("__debug__" : Str)) = false := by decide)
    (he : starEach (e :: es) X.env = (false, eval e X.env) :: starEach es X.env := by rfl) (hpl : (backTo pos (starEach es X.env)).any (·.1) = false := by rfl) : VE X (.Call (.Name x p) (e :: es) [] pos) (vCall r t) :=
  v_pe (pe_callB hc hg hm hv ha hn hdb he hpl) fun F M G σ H e Q' Q hs hr q o => ⟨F, M, G, e, _, hs, hr, q, fun vs H1 F1 M1 ds s1 r1 d1 q1 => ⟨F1, M1, G, ds, Q', r1, d1, q1, o.up s1⟩⟩
theorem v_callTy {T : String} (hc : CallR X (.type T) (ls X.K r)) (hm : X.mg x = none) (ha : VA X (e :: es) t) (hg : Gl X x := by rfl) (hv : bootBuiltins x = some (.type T) := by decide +kernel) (hn : x ≠ "__name__" := by decide) (hdb : (x == ("__debug__" : Str)) = false := by decide)
    (he : starEach (e :: es) X.env = (false, eval e X.env) :: starEach es X.env := by rfl) (hpl : (backTo pos (starEach es X.env)).any (·.1) = false := by rfl) : VE X (.Call (.Name x p) (e :: es) [] pos) (vCall r t) :=
  v_pe (pe_callTy hc hg hm hv ha hn hdb he hpl) fun F M G σ H e Q' Q hs hr q o => ⟨F, M, G, e, _, hs, hr, q, fun vs H1 F1 M1 ds s1 r1 d1 q1 => ⟨F1, M1, G, ds, Q', r1, d1, q1, o.up s1⟩⟩

variable {st : Stmt} {rest body : List Stmt} {u1 u2 : VTS} {g : VTG}
@[simp] def sNext : VTS := fun D e M => D.nx e M
@[simp] def sSeq (t u : VTS) : VTS := fun D e M => t { D with nx := u D } e M
@[simp] def sDrop (t : VTE) : VTS := fun D e M => t e M fun _ M1 => D.nx e M1
@[simp] def sRet (t : VTE) : VTS := fun D e M => t e M D.rt
@[simp] def sRetN : VTS := fun D _ M => D.rt .non M
@[simp] def sIf (c : VTT) (t u : VTS) : VTS := fun D e M => c e M fun b M1 => if b = true then t D e M1 else u D e M1
@[simp] def sAsg (t : VTE) (g : VTG) : VTS := fun D e M => t e M fun x M1 => g x e M1 D.nx
@[simp] def sNever : VTS := fun _ _ _ => False
theorem vs_ps {st : Stmt} {ts : TS} {t : VTS} (h : PS X st ts) (i : ∀ F M G σ H e D' D, SR X.K F σ e → Rel X.K F M G H → t D' e M → OutD X.K F G D' D → ts D σ H) : VS X st t :=
  PS_imp h fun D σ H ⟨F, M, G, e, D', h1, h2, h3, h4⟩ => i F M G σ H e D' D h1 h2 h3 h4
theorem vss_nil : VSs X [] sNext := PSs_imp pss_nil fun D σ H ⟨F, M, G, e, D', hs, hr, q, o⟩ => o.nx σ H F M e (Same.refl F) hr hs q
theorem vss_one (h : VS X st u1) : VSs X [st] u1 := pss_one h
theorem vss_cons (h1 : VS X st u1) (h2 : VSs X rest u2) : VSs X (st :: rest) (sSeq u1 u2) :=
  PSs_imp (pss_cons h1 h2) fun D σ H ⟨F, M, G, e, D', hs, hr, q, o⟩ => ⟨F, M, G, e, _, hs, hr, q, ⟨fun σ1 H1 F1 M1 e1 s1 r1 z1 q1 => ⟨F1, M1, G, e1, D', z1, r1, q1, o.up s1⟩, o.rt, o.bk, o.ct⟩⟩
theorem vs_pass : VS X (.Pass pos) sNext := vs_ps ps_pass fun F M G σ H e D' D hs hr q o => o.nx σ H F M e (Same.refl F) hr hs q
theorem vs_break : VS X (.Break pos) (fun D e M => D.bk e M) := vs_ps ps_break fun F M G σ H e D' D hs hr q o => o.bk σ H F M e (Same.refl F) hr hs q
theorem vs_continue : VS X (.Continue pos) (fun D e M => D.ct e M) := vs_ps ps_continue fun F M G σ H e D' D hs hr q o => o.ct σ H F M e (Same.refl F) hr hs q
theorem vs_never : VS X st sNever := vs_ps ps_never fun F M G σ H e D' D hs hr q o => q
theorem vss_never : VSs X rest sNever := PSs_imp pss_never fun D σ H ⟨F, M, G, e, D', hs, hr, q, o⟩ => q
theorem vs_expr (he : VE X e te) (hs : swapsWith e none pos.line X.env = pure false := by rfl) : VS X (.Expr e pos) (sDrop te) :=
  vs_ps (ps_expr he hs) fun F M G σ H e D' D hs hr q o => ⟨F, M, G, e, _, hs, hr, q, fun x H1 F1 M1 d s1 r1 d1 q1 => o.nx σ H1 F1 M1 e s1 r1 (hs.up s1) q1⟩
theorem vs_ret (he : VE X e te) : VS X (.Return (some e) pos) (sRet te) := vs_ps (ps_ret he) fun F M G σ H e D' D hs hr q o => ⟨F, M, G, e, _, hs, hr, q, o.rt⟩
theorem vs_retN : VS X (.Return none pos) sRetN := vs_ps ps_retN fun F M G σ H e D' D hs hr q o => o.rt _ H F M _ (Same.refl F) hr .non q
theorem vs_if {c : Expr} {s1 s2 : List Stmt} {tc : VTT} (hc : VT X c tc) (ha : VSs X s1 u1) (hb : VSs X s2 u2) : VS X (.If c s1 s2 pos) (sIf tc u1 u2) :=
  vs_ps (ps_if hc ha hb) fun F M G σ H e D' D hs hr q o => ⟨F, M, G, e, _, hs, hr, q, fun b H1 F1 M1 s1 r1 q1 => by
    cases b with
    | true => rw [if_pos rfl] at q1 ⊢; exact ⟨F1, M1, G, e, D', hs.up s1, r1, q1, o.up s1⟩
    | false => rw [if_neg Bool.false_ne_true] at q1 ⊢; exact ⟨F1, M1, G, e, D', hs.up s1, r1, q1, o.up s1⟩⟩
@[simp] def gN (i : Nat) : VTG := fun d e M Q => Q (e.set i (some d)) M
theorem vg_name {i : Nat} {tg : Expr} (h : PG X tg (gName i)) : VG X tg (gN i) := PG_imp h fun v σ H Q ⟨F, M, G, e, d, Q', hs, hr, dv, q, o⟩ => o _ H F M _ (Same.refl F) hr (hs.put dv i) q
def gNone : VTGs := fun ds e M Q => ds = [] ∧ Q e M
def gMore (t : VTG) (u : VTGs) : VTGs := fun ds e M Q => ∃ d r, ds = d :: r ∧ t d e M fun e1 M1 => u r e1 M1 Q
theorem vgs_nil : VGs X [] gNone := PGs_imp pgs_nil fun v σ H Q ⟨F, M, G, e, d, Q', hs, hr, dv, q, o⟩ => by
  obtain ⟨rfl, q⟩ := q
  cases dv
  exact ⟨rfl, o _ H F M _ (Same.refl F) hr hs q⟩
theorem vgs_cons {us : VTGs} (h1 : VG X e g) (h2 : VGs X es us) (hs : (assignEach (e :: es) X.env).map (·.2) = assign e X.env :: (assignEach es X.env).map (·.2) := by rfl) : VGs X (e :: es) (gMore g us) :=
  PGs_imp (pgs_cons h1 h2 hs) fun v σ H Q ⟨F, M, G, e, d, Q', hs, hr, dv, q, o⟩ => by
    obtain ⟨d, r, rfl, q⟩ := q
    cases dv with
    | cons z zs =>
      exact ⟨_, _, rfl, F, M, G, e, d, _, hs, hr, z, q, fun σ1 H1 F1 M1 e1 s1 r1 hs1 q1 => ⟨F1, M1, G, e1, r, Q', hs1, r1, zs.up s1, q1, o.up s1⟩⟩
@[simp] def gTp (n : Nat) (t : VTGs) : VTG := fun d e M Q => ∃ xs, d = .tup xs ∧ xs.length = n ∧ t xs e M Q
theorem vg_tup {k : Nat} {us : VTGs} {n : Nat} (hc : X.calm = true) (h : VGs X es us) (hn : (assignEach es X.env).length = n := by rfl) (hst : (assignEach es X.env).findIdx? (·.1) = none := by rfl) : VG X (.Tuple es k pos) (gTp n us) :=
  PG_imp (pg_tup hc h hn hst) fun v σ H Q ⟨F, M, G, e, d, Q', hs, hr, dv, q, o⟩ => by
    obtain ⟨xs, rfl, hl, q⟩ := q
    cases dv with
    | tup z zs => exact ⟨_, _, rfl, same_tup hr.sub z, by rw [zs.len]; exact hl, F, M, G, e, xs, Q', hs, hr, zs, q, o⟩
/-- o[i] = v, a list -/
@[simp] def gSubL (to ti : VTE) : VTG := fun d e M Q => to e M fun o M1 => ti e M1 fun i M2 => ∃ p xs k j, o = .obj p ∧ i = .int k ∧ M2 p = some (.lst xs) ∧ ixN xs.length k = some j ∧ Q e (mupd M2 p (.lst (xs.set j d)))
theorem vg_subL {o i : Expr} {to ti : VTE} (ho : VE X o to) (hi : VE X i ti)
    (ha : ∀ v, assign (.Subscript o i pos) X.env v = (do
      let ov ← holding [v] (eval o X.env)
      let iv ← holding [v, ov] (eval i X.env)
      standAt pos
      holding [v, ov, iv] (setItem ov iv v)
      release [v, ov, iv] []) := by intro _; rfl) : VG X (.Subscript o i pos) (gSubL to ti) :=
  PG_imp (pg_sub ho hi set_list ha) fun v σ H Q ⟨F, M, G, e, d, Q', hs, hr, dv, q, o⟩ => ⟨F, M, G, e, _, hs, hr, q, fun x H1 F1 M1 dx s1 r1 d1 q1 => ⟨F1, M1, G, e, _, hs.up s1, r1, q1, fun y H2 F2 M2 dy s2 r2 d2 q2 => by
    obtain ⟨p, xs, k, j, rfl, rfl, hp, hj, q2⟩ := q2
    cases d1; cases d2
    obtain ⟨_, _, ho, e1, vs, rfl, z⟩ := r2.ob p _ hp
    refine ⟨p, vs, k, j, rfl, rfl, e1, by rw [z.len]; exact hj, ?_⟩
    exact o _ _ _ _ _ (s1.trans s2) (r2.wr hp (m := .lst (xs.set j d)) ⟨_, rfl, z.set j (dv.up (s1.trans s2))⟩) (hs.up (s1.trans s2)) q2⟩⟩
theorem vs_asg {tg : Expr} (he : VE X e te) (hg : VG X tg g) (hs : swapsWithSole [tg] e pos.line X.env = pure false := by rfl) (hw : swappedStores [tg] e X.env = pure none := by rfl)
    (h1 : (assignEach [tg] X.env).map (·.2) = [assign tg X.env] := by rfl) : VS X (.Assign [tg] e pos) (sAsg te g) :=
  vs_ps (ps_asg he hg hs hw h1) fun F M G σ H e D' D hs hr q o => ⟨F, M, G, e, _, hs, hr, q, fun x H1 F1 M1 d s1 r1 d1 q1 => ⟨F1, M1, G, e, d, D'.nx, hs.up s1, r1, d1, q1, o.nx.up s1⟩⟩
theorem vs_set {i : Nat} {y : Str} {pos' : Pos} (hN : X.N.Nodup) (hi : X.N[i]? = some y) (hx : Loc X.env.scope y) (he : VE X e te) (hs : swapsWith e (some (.Name y pos')) pos.line X.env = pure false := by rfl)
    (hf : X.fn y = true ∨ X.env.scope.names.lookup y = some .local := by first | exact .inl rfl | exact .inr rfl | assumption) : VS X (.Assign [.Name y pos'] e pos) (sAsg te (gN i)) :=
  vs_ps (ps_set hN hi hx he hs hf) fun F M G σ H e D' D hs hr q o => ⟨F, M, G, e, _, hs, hr, q, fun x H1 F1 M1 d s1 r1 d1 q1 => o.nx _ H1 F1 M1 _ s1 r1 ((hs.up s1).put d1 i) q1⟩
@[simp] def sPar (i j : Nat) (t : VTA) : VTS := fun D e M => t e M fun ds M1 => ∃ v w, ds = [v, w] ∧ D.nx ((e.set i (some v)).set j (some w)) M1
theorem vs_par {i j : Nat} {y z : Str} {px py pt : Pos} {kt k2 pt2} (hc : X.calm = true) (hN : X.N.Nodup) (hi : X.N[i]? = some y) (hj : X.N[j]? = some z) (hij : i ≠ j)
    (hx : X.env.scope.names.lookup y = some .local) (hy : X.env.scope.names.lookup z = some .local) (ha : VA X [a, b] t)
    (hw : swappedStores [.Tuple [.Name y px, .Name z py] kt pt] (.Tuple [a, b] k2 pt2) X.env = pure (some [y, z]))
    (hs : swapsWithSole [.Tuple [.Name y px, .Name z py] kt pt] (.Tuple [a, b] k2 pt2) pos.line X.env = pure false := by rfl) :
    VS X (.Assign [.Tuple [.Name y px, .Name z py] kt pt] (.Tuple [a, b] k2 pt2) pos) (sPar i j t) :=
  vs_ps (ps_par hc hN hi hj hij hx hy ha hw hs) fun F M G σ H e D' D hs hr q o => ⟨F, M, G, e, _, hs, hr, q, fun vs H1 F1 M1 ds s1 r1 d1 q1 => by
    obtain ⟨v, w, rfl, q1⟩ := q1
    cases d1 with
    | cons z1 z2 =>
      cases z2 with
      | cons z2 z3 =>
        cases z3
        exact ⟨_, _, rfl, o.nx _ H1 F1 M1 _ s1 r1 (((hs.up s1).put z1 i).put z2 j) q1⟩⟩
def sWhile (c : VTT) (tb : VTS) : VTS := fun D e M => ∃ W : Nat → VEnv → Mem → Prop, (∃ m, W m e M) ∧ ∀ m e M, W m e M →
  c e M fun b M1 => if b = true then tb { D with nx := fun e' M' => ∃ m', m' < m ∧ W m' e' M', ct := fun e' M' => ∃ m', m' < m ∧ W m' e' M', bk := D.nx } e M1 else D.nx e M1
theorem vs_while {c : Expr} {tc : VTT} {tb : VTS} (hp : PassesOwn (model X.prog X.w) X.A X.env X.xe) (hc : VT X c tc) (hb : VSs X body tb) : VS X (.While c body [] pos) (sWhile tc tb) :=
  vs_ps (ps_while hp hc hb) fun F M G σ H e D' D hs hr ⟨W, ⟨m0, w0⟩, turn⟩ o => by
    refine ⟨fun m σ H => ∃ F1 M1 e1, Same F F1 ∧ SR X.K F1 σ e1 ∧ Rel X.K F1 M1 G H ∧ W m e1 M1, ⟨m0, F, M, e, Same.refl F, hs, hr, w0⟩, fun m σ1 H1 ⟨F1, M1, e1, s1, hs1, r1, w1⟩ => ?_⟩
    refine ⟨F1, M1, G, e1, _, hs1, r1, turn m e1 M1 w1, fun b H2 F2 M2 s2 r2 q2 => ?_⟩
    cases b with
    | true =>
      rw [if_pos rfl] at q2 ⊢
      have nx : OutS X.K F2 G (fun e' M' => ∃ m', m' < m ∧ W m' e' M') (fun σ' H' => ∃ m', m' < m ∧ ∃ F1 M1 e1, Same F F1 ∧ SR X.K F1 σ' e1 ∧ Rel X.K F1 M1 G H' ∧ W m' e1 M1) := fun σ3 H3 F3 M3 e3 s3 r3 hs3 ⟨m', hm, w'⟩ => ⟨m', hm, F3, M3, e3, (s1.trans s2).trans s3, hs3, r3, w'⟩
      exact ⟨fun σ' H' => ∃ m', m' < m ∧ ∃ F1 M1 e1, Same F F1 ∧ SR X.K F1 σ' e1 ∧ Rel X.K F1 M1 G H' ∧ W m' e1 M1, fun σ' H' z => z, F2, M2, G, e1, _, hs1.up s2, r2, q2, ⟨nx, o.rt.up (s1.trans s2), o.nx.up (s1.trans s2), nx⟩⟩
    | false =>
      rw [if_neg Bool.false_ne_true] at q2 ⊢
      exact o.nx σ1 H2 F2 M2 e1 (s1.trans s2) r2 (hs1.up s2) q2
end
end VL
namespace VL
open PySem PySem.Spec L2

structure VIt where
  ds : List D
  ok : Mem → Prop
abbrev VTI := VEnv → Mem → (VIt → Mem → Prop) → Prop
structure VWalk (K : PySem.W.Frag) (F : Hp) (J : It) (w : VIt) : Prop where
  goes : ∀ i H F1 G M, Same F F1 → Rel K F1 M G H → w.ok M → i < w.ds.length → J.go i H
  stops : ∀ H F1 G M, Same F F1 → Rel K F1 M G H → w.ok M → J.stop w.ds.length H
  yields : ∀ i H x H' F1 G M, Same F F1 → Rel K F1 M G H → w.ok M → i < w.ds.length → J.yld i H x H' → ∃ F2 d, Same F1 F2 ∧ Rel K F2 M G H' ∧ w.ds[i]? = some d ∧ DR K F2 x d
theorem VWalk.up {K : PySem.W.Frag} {F F' : Hp} {J : It} {w : VIt} (h : VWalk K F J w) (s : Same F F') : VWalk K F' J w :=
  ⟨fun i H F1 G M s1 => h.goes i H F1 G M (s.trans s1), fun H F1 G M s1 => h.stops H F1 G M (s.trans s1), fun i H x H' F1 G M s1 => h.yields i H x H' F1 G M (s.trans s1)⟩
def lI (K : PySem.W.Frag) (t : VTI) : TI := fun σ H R => ∃ F M G e R', SR K F σ e ∧ Rel K F M G H ∧ t e M R' ∧ ∀ J w H' F' M', Same F F' → Rel K F' M' G H' → VWalk K F' J w → R' w M' → R J H'
def VI (X : Cx) (tg iter : Expr) (t : VTI) : Prop := PI X tg iter (lI X.K t)
section
variable {X : Cx} {tg iter e a b : Expr} {te ta tb : VTE} {t : VTA} {pos : Pos}
theorem PI_imp {t t' : TI} (h : PI X tg iter t) (i : ∀ σ H Q, t' σ H Q → t σ H Q) : PI X tg iter t' := ⟨fun p s σ H Q I w => h.run p s σ H Q I (i _ _ _ w)⟩
/-- a list or a tuple -/
@[simp] def iSeq (te : VTE) : VTI := fun e M R => te e M fun d M1 => ∃ xs, asI M1 d = some xs ∧ R ⟨xs, fun M' => asI M' d = some xs⟩ M1
theorem walk_seq_l {K : PySem.W.Frag} {F : Hp} {d : D} {a : Addr} {xs : List D} (h : ∀ F1 G H M, Same F F1 → Rel K F1 M G H → asI M d = some xs → ∃ vs, SqL K H a vs ∧ DRs K F1 vs xs) : VWalk K F (Itl K a) ⟨xs, fun M => asI M d = some xs⟩ where
  goes := fun i H F1 G M s r ok hi => by
    obtain ⟨vs, q, z⟩ := h F1 G H M s r ok
    have hl : i < vs.length := by rw [z.len]; exact hi
    exact ⟨vs, vs[i], q, by simp [hl]⟩
  stops := fun H F1 G M s r ok => by
    obtain ⟨vs, q, z⟩ := h F1 G H M s r ok
    exact ⟨vs, q, by rw [z.len]; exact Nat.le_refl _⟩
  yields := fun i H x H' F1 G M s r ok hi y => by
    obtain ⟨vs, q, z⟩ := h F1 G H M s r ok
    obtain ⟨rfl, y⟩ := y
    obtain ⟨d, e1, e2⟩ := z.get (y vs q)
    exact ⟨F1, d, Same.refl F1, r, e1, e2⟩
theorem walk_seq_t {K : PySem.W.Frag} {F : Hp} {ok : Mem → Prop} {a : Addr} {xs : List D} {vs : List V} (h : SqT K F a vs) (z : DRs K F vs xs) : VWalk K F (Itt K a) ⟨xs, ok⟩ where
  goes := fun i H F1 G M s r _ hi => by
    have hl : i < vs.length := by rw [z.len]; exact hi
    exact ⟨vs, vs[i], same_tup r.sub (same_tup s h), by simp [hl]⟩
  stops := fun H F1 G M s r _ => ⟨vs, same_tup r.sub (same_tup s h), by rw [z.len]; exact Nat.le_refl _⟩
  yields := fun i H x H' F1 G M s r _ hi y => by
    obtain ⟨rfl, y⟩ := y
    obtain ⟨d, e1, e2⟩ := (z.up s).get (y vs (same_tup r.sub (same_tup s h)))
    exact ⟨F1, d, Same.refl F1, r, e1, e2⟩
theorem vi_seq (h : VE X e te) : VI X tg e (iSeq te) := by
  refine ⟨fun pins s σ H R I ⟨F, M, G, e', R', hs, hr, q, o⟩ => ?_⟩
  refine thn (h.run pins s σ H (fun v H1 => ∃ F1 M1 d, Same F F1 ∧ Rel X.K F1 M1 G H1 ∧ DR X.K F1 v d ∧ ∃ xs, asI M1 d = some xs ∧ R' ⟨xs, fun M' => asI M' d = some xs⟩ M1) I ⟨F, M, G, e', _, hs, hr, q, fun v H1 F1 M1 d s1 r1 d1 q1 => ⟨F1, M1, d, s1, r1, d1, q1⟩⟩)
    fun v s1 ⟨x, H1, I1, rx, F1, M1, d, s1', r1, d1, xs, ex, q1⟩ => ?_
  have tup : ∀ a vs, x = .ref a → SqT X.K F1 a vs → DRs X.K F1 vs xs → wpAny (model X.prog X.w) X.A (pyIter v) (PIE X pins σ tg R) X.xe s1 := fun a vs ea hq z => by
    subst ea
    cases rx
    obtain ⟨its, rv, p, hz⟩ := I1.tuple (same_tup r1.sub hq)
    refine wpAny_pyIter_tuple (show s1.heap.IsTuple a its.toArray from p) ?_
    refine ⟨s1.heap.objs.size, [s1.heap.objs.size], _, Itt X.K a, H1, rfl, I1.kept (t' := s1.toks) fun b o e => Heap.get?_push_of_some _ e, turn_tuple a _, ⟨_, Heap.get?_push_size _ rfl, rfl, rfl⟩, fun b hb => ?_, o _ _ H1 F1 M1 s1' r1 (walk_seq_t hq z) q1⟩
    have e : b = s1.heap.objs.size := by simpa using hb
    subst e
    exact I1.fpOk (Nat.le_refl _) (I1.hok.fresh (Nat.le_refl _))
  rcases asI_cases ex with rfl | el
  · cases d1 with
    | tup hq z => exact tup _ _ rfl hq z
  · obtain ⟨a, vs, rfl, hq, z⟩ := asL_at r1 d1 el
    have hd : d ≠ .tup xs := by
      rintro rfl
      cases el
    cases rx
    obtain ⟨its, rv, p, hz⟩ := I1.list hq
    refine wpAny_pyIter_list p.isList ?_
    refine ⟨s1.heap.objs.size, [s1.heap.objs.size], _, Itl X.K a, H1, rfl, I1.kept (t' := s1.toks) fun b o e => Heap.get?_push_of_some _ e, turn_list a _, ⟨_, Heap.get?_push_size _ rfl, rfl, rfl⟩, fun b hb => ?_, o _ _ H1 F1 M1 s1' r1 (walk_seq_l fun F2 G2 H2 M2 s2 r2 e2 => ?_) q1⟩
    · have e : b = s1.heap.objs.size := by simpa using hb
      subst e
      exact I1.fpOk (Nat.le_refl _) (I1.hok.fresh (Nat.le_refl _))
    · rcases asI_cases e2 with rfl | e2
      · exact absurd rfl hd
      · obtain ⟨a', vs', ea, hq', z'⟩ := asL_at r2 (d1.up s2) e2
        cases ea
        exact ⟨vs', hq', z'⟩

def rgD (lo : Int) (n : Nat) : List D := (List.range n).map fun i => D.int (lo + ((i : Nat) : Int))
theorem rgD_len {lo : Int} {n : Nat} : (rgD lo n).length = n := by simp [rgD]
theorem rgD_get {lo : Int} {n i : Nat} (h : i < n) : (rgD lo n)[i]? = some (.int (lo + ((i : Nat) : Int))) := by simp [rgD, h]
theorem walk_rg {K : PySem.W.Frag} {F : Hp} {lo : Int} {n : Nat} : VWalk K F (Itr lo n) ⟨rgD lo n, fun _ => True⟩ where
  goes := fun i H F1 G M s r _ hi => by rw [show (VIt.mk (rgD lo n) fun _ => True).ds.length = n from rgD_len] at hi; exact hi
  stops := fun H F1 G M s r _ => by rw [show (VIt.mk (rgD lo n) fun _ => True).ds.length = n from rgD_len]; exact Nat.le_refl _
  yields := fun i H x H' F1 G M s r _ hi y => by
    obtain ⟨rfl, rfl⟩ := y
    rw [show (VIt.mk (rgD lo n) fun _ => True).ds.length = n from rgD_len] at hi
    exact ⟨F1, _, Same.refl F1, r, rgD_get hi, .int _⟩
@[simp] def iRg1 (t : VTA) : VTI := fun e M R => t e M fun ds M1 => ∃ j, ds = [.int j] ∧ -4611686018427387904 ≤ j ∧ j < 4611686018427387904 ∧ R ⟨rgD 0 j.toNat, fun _ => True⟩ M1
@[simp] def iRg2 (t : VTA) : VTI := fun e M R => t e M fun ds M1 => ∃ i j, ds = [.int i, .int j] ∧ (-4611686018427387904 ≤ i ∧ i < 4611686018427387904 ∧ -4611686018427387904 ≤ j ∧ j < 4611686018427387904) ∧ R ⟨rgD i (j - i).toNat, fun _ => True⟩ M1
theorem vi_range1 {p : Pos} (hm : X.mg "range" = none) (ha : VA X [a] t) (hg : Gl X "range" := by rfl) (hs : starEach [a] X.env = [(false, eval a X.env)] := by rfl) : VI X tg (.Call (.Name "range" p) [a] [] pos) (iRg1 t) :=
  PI_imp (pi_range1 hg hm ha hs) fun σ H R ⟨F, M, G, e, R', hs, hr, q, o⟩ => ⟨F, M, G, e, _, hs, hr, q, fun vs H1 F1 M1 ds s1 r1 d1 q1 => by
    obtain ⟨j, rfl, h1, h2, q1⟩ := q1
    cases d1 with
    | cons z z2 =>
      cases z2
      cases z
      exact ⟨j, rfl, by omega, by omega, o _ _ H1 F1 M1 s1 r1 walk_rg q1⟩⟩
theorem vi_range2 {p : Pos} (hm : X.mg "range" = none) (ha : VA X [a, b] t) (hg : Gl X "range" := by rfl) (hs : starEach [a, b] X.env = [(false, eval a X.env), (false, eval b X.env)] := by rfl) (hs2 : starEach [b] X.env = [(false, eval b X.env)] := by rfl) : VI X tg (.Call (.Name "range" p) [a, b] [] pos) (iRg2 t) :=
  PI_imp (pi_range2 hg hm ha hs hs2) fun σ H R ⟨F, M, G, e, R', hs, hr, q, o⟩ => ⟨F, M, G, e, _, hs, hr, q, fun vs H1 F1 M1 ds s1 r1 d1 q1 => by
    obtain ⟨i, j, rfl, ⟨h1, h2, h3, h4⟩, q1⟩ := q1
    cases d1 with
    | cons z z2 =>
      cases z2 with
      | cons z2 z3 =>
        cases z3
        cases z
        cases z2
        exact ⟨i, j, rfl, ⟨by omega, by omega, by omega, by omega⟩, o _ _ H1 F1 M1 s1 r1 walk_rg q1⟩⟩

def sFor (ti : VTI) (g : VTG) (tb : VTS) : VTS := fun D e M => ti e M fun w M1 => ∃ P : Nat → VEnv → Mem → Prop, P 0 e M1 ∧ (∀ i e M, i ≤ w.ds.length → P i e M → w.ok M) ∧
  (∀ i d e M, w.ds[i]? = some d → P i e M → g d e M fun e2 M2 => tb { D with nx := P (i + 1), ct := P (i + 1), bk := D.nx } e2 M2) ∧ ∀ e M, P w.ds.length e M → D.nx e M
theorem vs_for {body : List Stmt} {ti : VTI} {g : VTG} {tb : VTS} (hp : PassesOwn (model X.prog X.w) X.A X.env X.xe) (hc : X.calm = true) (hi : VI X tg iter ti) (hg : VG X tg g) (hb : VSs X body tb)
    (hs : ∀ x, foldedSetIterable iter X.env x = pure x := by intro _; rfl) : VS X (.For tg iter body [] pos) (sFor ti g tb) :=
  vs_ps (ps_for hp hc hi hg hb hs) fun F M G σ H e D' D hs hr q o => ⟨F, M, G, e, _, hs, hr, q, fun J w H1 F1 M1 s1 r1 hw ⟨P, p0, pok, pt, pe⟩ => by
    refine ⟨fun i m σ H => ∃ F2 M2 e2, Same F1 F2 ∧ SR X.K F2 σ e2 ∧ Rel X.K F2 M2 G H ∧ i ≤ w.ds.length ∧ m = w.ds.length - i ∧ P i e2 M2, ⟨_, F1, M1, e, Same.refl F1, hs.up s1, r1, Nat.zero_le _, rfl, p0⟩, ?_⟩
    rintro i m σ2 H2 ⟨F2, M2, e2, s2, hs2, r2, hi, rfl, p⟩
    by_cases hlt : i < w.ds.length
    · refine .inr ⟨hw.goes i H2 F2 G M2 s2 r2 (pok i e2 M2 hi p) hlt, fun σ' H' => ∃ F2 M2 e2, Same F1 F2 ∧ SR X.K F2 σ' e2 ∧ Rel X.K F2 M2 G H' ∧ P (i + 1) e2 M2, fun σ' H' ⟨F3, M3, e3, s3, hs3, r3, p3⟩ => ⟨_, by omega, F3, M3, e3, s3, hs3, r3, hlt, rfl, p3⟩, fun x H' y => ?_⟩
      obtain ⟨F3, d, s3, r3, hd, dx⟩ := hw.yields i H2 x H' F2 G M2 s2 r2 (pok i e2 M2 hi p) hlt y
      refine ⟨F3, M2, G, e2, d, _, hs2.up s3, r3, dx, pt i d e2 M2 hd p, fun σ4 H4 F4 M4 e4 s4 r4 hs4 q4 => ?_⟩
      have s14 := ((s2.trans s3).trans s4)
      have nx : OutS X.K F4 G (P (i + 1)) (fun σ' H' => ∃ F2 M2 e2, Same F1 F2 ∧ SR X.K F2 σ' e2 ∧ Rel X.K F2 M2 G H' ∧ P (i + 1) e2 M2) := fun σ5 H5 F5 M5 e5 s5 r5 hs5 q5 => ⟨F5, M5, e5, s14.trans s5, hs5, r5, q5⟩
      exact ⟨F4, M4, G, e4, _, hs4, r4, q4, ⟨nx, o.rt.up (s1.trans s14), o.nx.up (s1.trans s14), nx⟩⟩
    · have ei : i = w.ds.length := by omega
      subst ei
      exact .inl ⟨hw.stops H2 F2 G M2 s2 r2 (pok _ e2 M2 hi p), o.nx σ2 H2 F2 M2 e2 (s1.trans s2) r2 hs2 (pe e2 M2 p)⟩⟩

def VTs (X : Cx) (es : List Expr) (t : VTT) : Prop := PTs X es (lT X.K t)
@[simp] def vYes : VTT := fun _ M Q => Q true M
theorem PTs_imp {es : List Expr} {t t' : TT} (h : PTs X es t) (i : ∀ σ H Q, t' σ H Q → t σ H Q) : PTs X es t' := ⟨fun p s σ H Q I w => h.run p s σ H Q I (i _ _ _ w)⟩
theorem vts_nil : VTs X [] vYes := PTs_imp pts_nil fun σ H Q ⟨F, M, G, e, Q', hs, hr, q, o⟩ => o true H F M (Same.refl F) hr q
theorem vts_one {c : Expr} {t : VTT} (h : VT X c t) : VTs X [c] t := pts_one h
def vLc (ti : VTI) (g : VTG) (tt : VTT) (te : VTE) (vs : List Nat) : VTE := fun e M Q => ti e M fun w M1 => ∃ P : Nat → List D → Mem → Prop, P 0 [] M1 ∧ (∀ i acc M, i ≤ w.ds.length → P i acc M → w.ok M) ∧
  (∀ i d acc M, w.ds[i]? = some d → P i acc M → g d (vwipe e vs) M fun e2 M2 => tt e2 M2 fun b M3 => if b = true then te e2 M3 fun y M4 => acc.length < sizeLine ∧ P (i + 1) (acc ++ [y]) M4 else P (i + 1) acc M3) ∧
  ∀ acc M, P w.ds.length acc M → Q (.lst acc) M
/-- .. a list that may change -/
def vLcO (ti : VTI) (g : VTG) (tt : VTT) (te : VTE) (vs : List Nat) : VTE := fun e M Q => ti e M fun w M1 => ∃ P : Nat → List D → Mem → Prop, P 0 [] M1 ∧ (∀ i acc M, i ≤ w.ds.length → P i acc M → w.ok M) ∧
  (∀ i d acc M, w.ds[i]? = some d → P i acc M → g d (vwipe e vs) M fun e2 M2 => tt e2 M2 fun b M3 => if b = true then te e2 M3 fun y M4 => acc.length < sizeLine ∧ P (i + 1) (acc ++ [y]) M4 else P (i + 1) acc M3) ∧
  ∀ acc M, P w.ds.length acc M → ∀ p, M p = none → Q (.obj p) (mupd M p (.lst acc))
/-- own targets: only they may be stored -/
def GOwn (g : TG) (vs : List Nat) : Prop := ∀ v σ H (Q : L2.St → Hp → Prop), g v σ H Q → g v σ H fun σ2 H2 => wipe σ2 vs = wipe σ vs ∧ Q σ2 H2
theorem wipe_get (σ : L2.St) (i : Nat) : ∀ vs : List Nat, (wipe σ vs)[i]? = if i ∈ vs then (σ[i]?).map (fun _ => none) else σ[i]?
  | [] => by simp [wipe]
  | v :: vs => by
    unfold wipe
    rw [List.getElem?_set]
    have ih := wipe_get σ i vs
    by_cases h : v = i
    · subst h
      rw [if_pos rfl, if_pos List.mem_cons_self, wipe_length]
      by_cases hl : v < σ.length
      · rw [if_pos hl, List.getElem?_eq_getElem hl] <;> rfl
      · rw [if_neg hl, List.getElem?_eq_none (by omega)] <;> rfl
    · rw [if_neg h, ih]
      have : (i ∈ v :: vs) = (i ∈ vs) := by simp [List.mem_cons, Ne.symm h]
      simp only [this]
theorem wipe_wipe (σ : L2.St) (vs : List Nat) : wipe (wipe σ vs) vs = wipe σ vs := by
  apply List.ext_getElem?
  intro i
  rw [wipe_get, wipe_get]
  by_cases h : i ∈ vs
  · rw [if_pos h, if_pos h, Option.map_map] <;> rfl
  · rw [if_neg h, if_neg h]
theorem wipe_set (σ : L2.St) (vs : List Nat) (j : Nat) (x : Option V) (hj : j ∈ vs) : wipe (σ.set j x) vs = wipe σ vs := by
  apply List.ext_getElem?
  intro i
  rw [wipe_get, wipe_get]
  by_cases h : i ∈ vs
  · rw [if_pos h, if_pos h, List.getElem?_set]
    by_cases e : j = i
    · subst e
      rw [if_pos rfl]
      by_cases hl : j < σ.length
      · rw [if_pos hl, List.getElem?_eq_getElem hl] <;> rfl
      · rw [if_neg hl, List.getElem?_eq_none (by omega)]
    · rw [if_neg e]
  · rw [if_neg h, if_neg h, List.getElem?_set_ne (fun e : j = i => h (by rw [← e]; exact hj))]
theorem own_name {i : Nat} {vs : List Nat} (h : i ∈ vs) : GOwn (gName i) vs := fun v σ H Q q => ⟨wipe_set σ vs i _ h, q⟩
def GsOwn (g : TGs) (vs : List Nat) : Prop := ∀ v σ H (Q : L2.St → Hp → Prop), g v σ H Q → g v σ H fun σ2 H2 => wipe σ2 vs = wipe σ vs ∧ Q σ2 H2
theorem own_nil {vs : List Nat} : GsOwn gNil vs := fun v σ H Q ⟨e, q⟩ => ⟨e, rfl, q⟩
theorem own_cons {t : TG} {u : TGs} {vs : List Nat} (h1 : GOwn t vs) (h2 : GsOwn u vs) (m1 : ∀ v σ H Q Q', (∀ σ H, Q σ H → Q' σ H) → t v σ H Q → t v σ H Q') (m2 : ∀ v σ H Q Q', (∀ σ H, Q σ H → Q' σ H) → u v σ H Q → u v σ H Q') : GsOwn (gCons t u) vs := fun v σ H Q ⟨x, r, e, q⟩ =>
  ⟨x, r, e, m1 _ _ _ _ _ (fun σ1 H1 ⟨w1, q1⟩ => m2 _ _ _ _ _ (fun σ2 H2 ⟨w2, q2⟩ => ⟨w2.trans w1, q2⟩) (h2 _ _ _ _ q1)) (h1 _ _ _ _ q)⟩
theorem own_tup {K : PySem.W.Frag} {n : Nat} {t : TGs} {vs : List Nat} (h : GsOwn t vs) : GOwn (gTup K n t) vs := fun v σ H Q ⟨a, xs, e, hq, hl, q⟩ => ⟨a, xs, e, hq, hl, h _ _ _ _ q⟩
/-- how the slots that are wiped agree -/
theorem lc_lift {ti : VTI} {g : VTG} {g0 : TG} {tt : VTT} {te : VTE} {vs : List Nat} {F G H : Hp} {M : Mem} {σ : L2.St} {e : VEnv} {Qf : List D → Mem → Prop} {Q : L2.VK} (hs : SR X.K F σ e) (hr : Rel X.K F M G H)
    (hg0 : ∀ v σ H Q, lG X.K g v σ H Q → g0 v σ H Q) (hown : GOwn g0 vs)
    (q : ti e M fun w M1 => ∃ P : Nat → List D → Mem → Prop, P 0 [] M1 ∧ (∀ i acc M, i ≤ w.ds.length → P i acc M → w.ok M) ∧
      (∀ i d acc M, w.ds[i]? = some d → P i acc M → g d (vwipe e vs) M fun e2 M2 => tt e2 M2 fun b M3 => if b = true then te e2 M3 fun y M4 => acc.length < sizeLine ∧ P (i + 1) (acc ++ [y]) M4 else P (i + 1) acc M3) ∧
      ∀ acc M, P w.ds.length acc M → Qf acc M)
    (o : ∀ D H F' M acc accV, Same F F' → Rel X.K F' M (upd G D (.lst accV)) H → G D = none → DRs X.K F' accV acc → Qf acc M → Q (.ref D) H) : tLc (lI X.K ti) g0 (lT X.K tt) (lE X.K te) vs σ H Q := by
  refine ⟨F, M, G, e, _, hs, hr, q, fun J w H1 F1 M1 s1 r1 hw ⟨P, p0, pok, pt, pe⟩ D hD => ?_⟩
  have gD : G D = none := r1.g0 hD
  refine ⟨fun i m H => ∃ F2 M2 acc accV, Same F1 F2 ∧ Rel X.K F2 M2 (upd G D (.lst accV)) H ∧ DRs X.K F2 accV acc ∧ i ≤ w.ds.length ∧ m = w.ds.length - i ∧ P i acc M2, ⟨_, F1, M1, [], [], Same.refl F1, r1.hide hD, .nil, Nat.zero_le _, rfl, p0⟩, ?_⟩
  rintro i m H2 ⟨F2, M2, acc, accV, s2, r2, za, hi, rfl, p⟩
  by_cases hlt : i < w.ds.length
  · refine .inr ⟨hw.goes i H2 F2 _ M2 s2 r2 (pok i acc M2 hi p) hlt, fun H' => ∃ F2 M2 acc accV, Same F1 F2 ∧ Rel X.K F2 M2 (upd G D (.lst accV)) H' ∧ DRs X.K F2 accV acc ∧ P (i + 1) acc M2, fun H' ⟨F3, M3, acc3, accV3, s3, r3, z3, p3⟩ => ⟨_, by omega, F3, M3, acc3, accV3, s3, r3, z3, hlt, rfl, p3⟩, fun x H' y => ?_⟩
    obtain ⟨F3, d, s3, r3, hd, dx⟩ := hw.yields i H2 x H' F2 _ M2 s2 r2 (pok i acc M2 hi p) hlt y
    have hw2 := wipe_wipe σ vs
    have key := hown x (wipe σ vs) H' _ (hg0 x _ _ _ ⟨F3, M2, upd G D (.lst accV), vwipe e vs, d, _, (hs.wiped vs).up ((s1.trans s2).trans s3), r3, dx, pt i d acc M2 hd p, fun σ4 H4 F4 M4 e4 s4 r4 hs4 q4 => (?_ : (fun σ2 H2 => lT X.K tt σ2 H2 fun b H3 => if b = true then lE X.K te σ2 H3 fun y H4 => ∃ acc, H4 D = some (.lst acc) ∧ acc.length < sizeLine ∧ ∃ F2 M2 ac accV, Same F1 F2 ∧ Rel X.K F2 M2 (upd G D (.lst accV)) (upd H4 D (.lst (acc ++ [y]))) ∧ DRs X.K F2 accV ac ∧ P (i + 1) ac M2 else ∃ F2 M2 acc accV, Same F1 F2 ∧ Rel X.K F2 M2 (upd G D (.lst accV)) H3 ∧ DRs X.K F2 accV acc ∧ P (i + 1) acc M2) σ4 H4)⟩)
    · rw [hw2] at key; exact key
    refine ⟨F4, M4, upd G D (.lst accV), e4, _, hs4, r4, q4, fun b H5 F5 M5 s5 r5 q5 => ?_⟩
    have s15 := (((s2.trans s3).trans s4).trans s5)
    show (if b = true then _ else _)
    cases b with
    | true =>
      rw [if_pos rfl] at q5 ⊢
      refine ⟨F5, M5, upd G D (.lst accV), e4, _, hs4.up s5, r5, q5, fun v H6 F6 M6 dy s6 r6 d6 ⟨hz, q6⟩ => ?_⟩
      have za6 := za.up ((((s3.trans s4).trans s5).trans s6))
      refine ⟨accV, r6.hid D _ upd_same, by rw [za.len]; exact hz, F6, M6, acc ++ [dy], accV ++ [v], s15.trans s6, ?_, za6.app (.cons d6 .nil), q6⟩
      have := r6.hwr (o := .lst (accV ++ [v])) (u := .lst accV) upd_same
      rw [upd_upd] at this
      exact this
    | false =>
      rw [if_neg Bool.false_ne_true] at q5 ⊢
      exact ⟨F5, M5, acc, accV, s15, r5, za.up ((s3.trans s4).trans s5), q5⟩
  · have ei : i = w.ds.length := by omega
    subst ei
    exact .inl ⟨hw.stops H2 F2 _ M2 s2 r2 (pok _ acc M2 hi p), o D H2 F2 M2 acc accV (s1.trans s2) r2 gD za (pe acc M2 p)⟩

/-- a comprehension's target -/
structure LcG (X : Cx) (tg : Expr) (scope : Scope) (g : VTG) (g0 : TG) (vs : List Nat) : Prop where
  pg : ∀ (s : Shared) (H : Hp) (C : Addr) (cl : List (Str × Addr)) (fp : List Addr), PG (X.blk s H scope (compEnvC scope cl C X.env) fp) tg g0
  lift : ∀ v σ H Q, lG X.K g v σ H Q → g0 v σ H Q
  own : GOwn g0 vs
  mono : ∀ v σ H Q Q', (∀ σ H, Q σ H → Q' σ H) → g0 v σ H Q → g0 v σ H Q'
structure LcGs (X : Cx) (tgs : List Expr) (scope : Scope) (g : VTGs) (g0 : TGs) (vs : List Nat) : Prop where
  pg : ∀ (s : Shared) (H : Hp) (C : Addr) (cl : List (Str × Addr)) (fp : List Addr), PGs (X.blk s H scope (compEnvC scope cl C X.env) fp) tgs g0
  lift : ∀ v σ H Q, lGs X.K g v σ H Q → g0 v σ H Q
  own : GsOwn g0 vs
  mono : ∀ v σ H Q Q', (∀ σ H, Q σ H → Q' σ H) → g0 v σ H Q → g0 v σ H Q'
theorem lcg_name {scope : Scope} {vs : List Nat} {i : Nat} (h : ∀ (s : Shared) (H : Hp) (C : Addr) (cl : List (Str × Addr)) (fp : List Addr), PG (X.blk s H scope (compEnvC scope cl C X.env) fp) tg (gName i)) (m : i ∈ vs := by decide) : LcG X tg scope (gN i) (gName i) vs :=
  ⟨h, fun v σ H Q ⟨F, M, G, e, d, Q', hs, hr, dv, q, o⟩ => o _ H F M _ (Same.refl F) hr (hs.put dv i) q, own_name m, fun v σ H Q Q' i q => i _ _ q⟩
theorem lcgs_nil {scope : Scope} {vs : List Nat} : LcGs X [] scope gNone gNil vs :=
  ⟨fun _ _ _ _ _ => pgs_nil, fun v σ H Q ⟨F, M, G, e, d, Q', hs, hr, dv, q, o⟩ => by
    obtain ⟨rfl, q⟩ := q
    cases dv
    exact ⟨rfl, o _ H F M _ (Same.refl F) hr hs q⟩, own_nil, fun v σ H Q Q' i q => ⟨q.1, i _ _ q.2⟩⟩
theorem lcgs_cons {es : List Expr} {scope : Scope} {vs : List Nat} {g : VTG} {g0 : TG} {us : VTGs} {u0 : TGs} (h1 : LcG X e scope g g0 vs) (h2 : LcGs X es scope us u0 vs)
    (hs : ∀ env, (assignEach (e :: es) env).map (·.2) = assign e env :: (assignEach es env).map (·.2) := by intro _; rfl) : LcGs X (e :: es) scope (gMore g us) (gCons g0 u0) vs :=
  ⟨fun s H C cl fp => pgs_cons (h1.pg s H C cl fp) (h2.pg s H C cl fp) (hs _), fun v σ H Q ⟨F, M, G, e, d, Q', hs, hr, dv, q, o⟩ => by
    obtain ⟨d, r, rfl, q⟩ := q
    cases dv with
    | cons z zs =>
      refine ⟨_, _, rfl, h1.lift _ _ _ _ ⟨F, M, G, e, d, _, hs, hr, z, q, fun σ1 H1 F1 M1 e1 s1 r1 hs1 q1 => h2.lift _ _ _ _ ⟨F1, M1, G, e1, r, Q', hs1, r1, zs.up s1, q1, o.up s1⟩⟩⟩,
    own_cons h1.own h2.own h1.mono h2.mono, fun v σ H Q Q' i ⟨x, r, e, q⟩ => ⟨x, r, e, h1.mono _ _ _ _ _ (fun _ _ q => h2.mono _ _ _ _ _ i q) q⟩⟩
theorem lcg_tup {es : List Expr} {scope : Scope} {vs : List Nat} {us : VTGs} {u0 : TGs} {k n : Nat} (hc : X.calm = true) (h : LcGs X es scope us u0 vs) (hn : ∀ env, (assignEach es env).length = n := by intro _; rfl) (hst : ∀ env, (assignEach es env).findIdx? (·.1) = none := by intro _; rfl) :
    LcG X (.Tuple es k pos) scope (gTp n us) (gTup X.K n u0) vs :=
  ⟨fun s H C cl fp => pg_tup hc (h.pg s H C cl fp) (hn _) (hst _), fun v σ H Q ⟨F, M, G, e, d, Q', hs, hr, dv, q, o⟩ => by
    obtain ⟨xs, rfl, hl, q⟩ := q
    cases dv with
    | tup z zs => exact ⟨_, _, rfl, same_tup hr.sub z, by rw [zs.len]; exact hl, h.lift _ _ _ _ ⟨F, M, G, e, xs, Q', hs, hr, zs, q, o⟩⟩,
    own_tup h.own, fun v σ H Q Q' i ⟨a, xs, e, hq, hl, q⟩ => ⟨a, xs, e, hq, hl, h.mono _ _ _ _ _ i q⟩⟩
section
variable {elt : Expr} {ifs : List Expr} {scope : Scope} {own : List (Str × Nat)} {ti : VTI} {g : VTG} {g0 : TG} {tt : VTT}
theorem lc_out {F G : Hp} {Q' : VK} {Q : L2.VK} (o : OutE X.K F G Q' Q) : ∀ D H F' M acc accV, Same F F' → Rel X.K F' M (upd G D (.lst accV)) H → G D = none → DRs X.K F' accV acc → Q' (.lst acc) M → Q (.ref D) H := fun D H F' M acc accV s r gD z q => by
  obtain ⟨s2, r2⟩ := r.give gD
  exact o _ _ _ _ _ (s.trans s2) r2 (.lst upd_same (z.up s2)) q
theorem v_lc (hc : X.calm = true) (hN : X.N.Nodup) (hi : VI X tg iter ti) (ok : BlkOk X.N X.env.scope scope own) (hg : LcG X tg scope g g0 (own.map (·.2)))
    (ht : ∀ (s : Shared) (H : Hp) (C : Addr) (cl : List (Str × Addr)) (fp : List Addr), VTs (X.blk s H scope (compEnvC scope cl C X.env) fp) ifs tt)
    (he : ∀ (s : Shared) (H : Hp) (C : Addr) (cl : List (Str × Addr)) (fp : List Addr), VE (X.blk s H scope (compEnvC scope cl C X.env) fp) elt te) (hs : ∀ x, foldedSetIterable iter X.env x = pure x := by intro _; rfl) :
    VE X (.ListComp elt [⟨tg, iter, ifs, 0⟩] scope pos) (vLc ti g tt te (own.map (·.2))) :=
  v_pe (pe_lc (tt := lT X.K tt) (te := lE X.K te) hc hN hi ok hg.pg ht he hs) fun F M G σ H e Q' Q hs hr q o => lc_lift hs hr hg.lift hg.own q (lc_out o)
theorem lc_outO {F G : Hp} {Q' : VK} {Q : L2.VK} (o : OutE X.K F G Q' Q) : ∀ D H F' M acc accV, Same F F' → Rel X.K F' M (upd G D (.lst accV)) H → G D = none → DRs X.K F' accV acc → (∀ p, M p = none → Q' (.obj p) (mupd M p (.lst acc))) → Q (.ref D) H := fun D H F' M acc accV s r gD z q => by
  have hm : M D = none := by
    cases e : M D with
    | none => rfl
    | some m =>
      have := (r.ob D m e).2.1
      rw [upd_same] at this; cases this
  exact o _ _ _ _ _ s (r.giveM (m := .lst acc) gD ⟨accV, rfl, z⟩ hm) (.obj D) (q D hm)
theorem v_lcO (hc : X.calm = true) (hN : X.N.Nodup) (hi : VI X tg iter ti) (ok : BlkOk X.N X.env.scope scope own) (hg : LcG X tg scope g g0 (own.map (·.2)))
    (ht : ∀ (s : Shared) (H : Hp) (C : Addr) (cl : List (Str × Addr)) (fp : List Addr), VTs (X.blk s H scope (compEnvC scope cl C X.env) fp) ifs tt)
    (he : ∀ (s : Shared) (H : Hp) (C : Addr) (cl : List (Str × Addr)) (fp : List Addr), VE (X.blk s H scope (compEnvC scope cl C X.env) fp) elt te) (hs : ∀ x, foldedSetIterable iter X.env x = pure x := by intro _; rfl) :
    VE X (.ListComp elt [⟨tg, iter, ifs, 0⟩] scope pos) (vLcO ti g tt te (own.map (·.2))) :=
  v_pe (pe_lc (tt := lT X.K tt) (te := lE X.K te) hc hN hi ok hg.pg ht he hs) fun F M G σ H e Q' Q hs hr q o => lc_lift (Qf := fun acc M => ∀ p, M p = none → Q' (.obj p) (mupd M p (.lst acc))) hs hr hg.lift hg.own q (lc_outO o)
theorem vs_setLc {i : Nat} {y : Str} {py : Pos} {spos : Pos} (hc : X.calm = true) (hN : X.N.Nodup) (hy : X.N[i]? = some y) (hyl : X.env.scope.names.lookup y = some .local)
    (hsw : swapsWith (.ListComp elt [⟨tg, iter, ifs, 0⟩] scope pos) (some (.Name y py)) spos.line X.env = pure true) (hi : VI X tg iter ti) (ok : BlkOk X.N X.env.scope scope own) (hg : LcG X tg scope g g0 (own.map (·.2)))
    (ht : ∀ (s : Shared) (H : Hp) (C : Addr) (cl : List (Str × Addr)) (fp : List Addr), VTs (X.blk s H scope (compEnvC scope cl C X.env) fp) ifs tt)
    (he : ∀ (s : Shared) (H : Hp) (C : Addr) (cl : List (Str × Addr)) (fp : List Addr), VE (X.blk s H scope (compEnvC scope cl C X.env) fp) elt te) (hs : ∀ x, foldedSetIterable iter X.env x = pure x := by intro _; rfl) :
    VS X (.Assign [.Name y py] (.ListComp elt [⟨tg, iter, ifs, 0⟩] scope pos) spos) (sAsg (vLc ti g tt te (own.map (·.2))) (gN i)) :=
  vs_ps (ps_setLc (tt := lT X.K tt) (te := lE X.K te) hc hN hy hyl hsw hi ok hg.pg ht he hs) fun F M G σ H e D' D hs hr q o =>
    lc_lift hs hr hg.lift hg.own q (lc_out (Q := fun x H1 => gName i x σ H1 D.nx) fun v H1 F1 M1 d s1 r1 d1 q1 => o.nx _ H1 F1 M1 _ s1 r1 ((hs.up s1).put d1 i) q1)
theorem vs_setLcO {i : Nat} {y : Str} {py : Pos} {spos : Pos} (hc : X.calm = true) (hN : X.N.Nodup) (hy : X.N[i]? = some y) (hyl : X.env.scope.names.lookup y = some .local)
    (hsw : swapsWith (.ListComp elt [⟨tg, iter, ifs, 0⟩] scope pos) (some (.Name y py)) spos.line X.env = pure true) (hi : VI X tg iter ti) (ok : BlkOk X.N X.env.scope scope own) (hg : LcG X tg scope g g0 (own.map (·.2)))
    (ht : ∀ (s : Shared) (H : Hp) (C : Addr) (cl : List (Str × Addr)) (fp : List Addr), VTs (X.blk s H scope (compEnvC scope cl C X.env) fp) ifs tt)
    (he : ∀ (s : Shared) (H : Hp) (C : Addr) (cl : List (Str × Addr)) (fp : List Addr), VE (X.blk s H scope (compEnvC scope cl C X.env) fp) elt te) (hs : ∀ x, foldedSetIterable iter X.env x = pure x := by intro _; rfl) :
    VS X (.Assign [.Name y py] (.ListComp elt [⟨tg, iter, ifs, 0⟩] scope pos) spos) (sAsg (vLcO ti g tt te (own.map (·.2))) (gN i)) :=
  vs_ps (ps_setLc (tt := lT X.K tt) (te := lE X.K te) hc hN hy hyl hsw hi ok hg.pg ht he hs) fun F M G σ H e D' D hs hr q o =>
    lc_lift (Qf := fun acc M => ∀ p, M p = none → D'.nx (e.set i (some (.obj p))) (mupd M p (.lst acc))) hs hr hg.lift hg.own q (lc_outO (Q' := fun d M => D'.nx (e.set i (some d)) M) (Q := fun x H1 => gName i x σ H1 D.nx) fun v H1 F1 M1 d s1 r1 d1 q1 => o.nx _ H1 F1 M1 _ s1 r1 ((hs.up s1).put d1 i) q1)
end
end
abbrev VSp := List D → Mem → VK → Prop
def lSp (K : PySem.W.Frag) (φ : VSp) : Sp := fun vs H Q _ => ∃ F M G ds Q', DRs K F vs ds ∧ Rel K F M G H ∧ φ ds M Q' ∧ OutE K F G Q' Q
end VL
namespace VL
open PySem PySem.Spec L2
open PyProof.Rows (envOfC IntsAre AllBare)

structure RmG (k : Nat) (A : Around) : Prop where
  r : Room k A
  g : A.guards = some []
theorem RmG.mono {j k : Nat} {A : Around} (h : RmG k A) (l : j ≤ k) : RmG j A := ⟨h.r.mono l, h.g⟩
structure FnG (P : Program) (w : World) (K : PySem.W.Frag) (mg : Str → Option Value) (base : Heap) (CX : CXT) (k : Nat) (f : Addr) (fd : FuncData) (ps : List Str) (sp : Sp) : Prop where
  len : ∀ vs H Q E, sp vs H Q E → vs.length = ps.length
  run : ∀ (A : Around) (outer : List Env) (s : Shared) (H : Hp) (args : Args) (us : List Value) (vs : List V) (Q : L2.VK) (E : XK), RmG k A → Env0 P w K mg base A outer s H →
    BindsTo s fd args (ps.zip us) → Vals vs us → sp vs H Q E → codeAny (model P w) A (.call (.ref f) args) (CR CX outer P w H s Q E) s
theorem FnG.mono {P : Program} {w : World} {K : PySem.W.Frag} {mg : Str → Option Value} {base : Heap} {CX : CXT} {j k : Nat} {f : Addr} {fd : FuncData} {ps : List Str} {sp : Sp} (F : FnG P w K mg base CX j f fd ps sp) (l : j ≤ k) : FnG P w K mg base CX k f fd ps sp :=
  ⟨F.len, fun A outer s H args us vs Q E hr => F.run A outer s H args us vs Q E (hr.mono l)⟩
/-- a def by its body, the guards known -/
theorem fnG_of {CX : CXT} {P : Program} {w : World} {K : PySem.W.Frag} {mg : Str → Option Value} {base : Heap} {k : Nat} {f : Addr} {nm ql : Str} {pa : Arguments} {bd : List Stmt} {sc : Scope} {dV kV doc pm cdv ct oc : Value} {an od : Option Addr}
    {osl : Array (Option Value)} {N ps : List Str} {sp : Sp} (atf : K.lookup f = some ⟨oc, od, .func (PySem.W.fnOf nm ql pa bd sc dV kV doc pm an cdv ct), osl⟩) (code : PySem.W.codeIn K cdv ql = true) (S : FnScope N ps sc)
    (len : ∀ vs H Q E, sp vs H Q E → vs.length = ps.length)
    (body : ∀ (A : Around) (outer : List Env) (s : Shared) (H : Hp) (vs : List V) (Q : L2.VK) (E : XK), RmG k (A.deeper (envOfC ql sc s.heap.objs.size f cdv)) → sp vs H Q E →
      ∃ t, PSs (cxOf CX P w K mg base N ql sc f cdv A outer s H E) bd t ∧ t { nx := fun _ H' => Q .non H', rt := Q } (start N vs) H) :
    FnG P w K mg base CX (k + 1) f (PySem.W.fnOf nm ql pa bd sc dV kV doc pm an cdv ct) ps sp := by
  refine ⟨len, fun A out s0 H0 args us vs Q E room env bind rel promise => ?_⟩
  have kin : K.In s0.heap := env.mod.kin.keeps fun b o e => (env.bs b o e).1
  have nolim : s0.heap.NoLimit := env.mod.nolimit.keeps fun b o e => (env.bs b o e).1
  have kinds : ∀ y ∈ ps.zip us, sc.names.lookup y.1 = some .local ∨
      (sc.names.lookup y.1 = some .cell ∧ ((cellsFrom (s0.heap.objs.size + 1) sc.names []).lookup y.1).isSome = true) := fun y hy => by
    have z := List.of_mem_zip (show (y.1, y.2) ∈ ps.zip us from hy)
    exact (S.par y.1 z.1).imp id fun q => ⟨q, PySem.W.cellsFrom_some _ _ _ (.inl q)⟩
  apply codeAny_call_function room.r.depth (kin _ _ atf) rfl S.co S.gen rfl (PySem.W.codeRec_of kin code)
  apply bind
  apply wpAny_newFunctionEnv_cells S.kind kinds
  intro env1 isEnv s1 inCall
  subst isEnv
  refine ⟨nolim.keeps inCall.toInCall.keep, codeAny_func ?_⟩
  obtain ⟨t, run, rd⟩ := body A out s0 H0 vs Q E ⟨room.r.deeper _, room.g⟩ promise
  have J0 : Inv (cxOf CX P w K mg base N ql sc f cdv A out s0 H0 E) [] (start N vs) H0 s1 := inv_start S room.r.hd env (len _ _ _ _ promise) rel inCall
  refine wpAny_mono (run.run [] s1 (start N vs) H0 _ J0 rd) (fun flow s2 done => ?_) fun _ _ z => z
  cases flow with
  | next =>
    obtain ⟨_, H2, J, q⟩ := done
    exact ⟨V.non, H2, J.os, J.bare, J.base, J.hok, rfl, q⟩
  | ret u =>
    obtain ⟨v, _, H2, J, rv, q⟩ := done
    exact ⟨v, H2, J.os, J.bare, J.base, J.hok, rv, q⟩
  | brk => exact done.elim fun _ z => z.elim fun _ z => z.2.elim
  | cont => exact done.elim fun _ z => z.elim fun _ z => z.2.elim
theorem okG {P : Program} {w : World} {K : PySem.W.Frag} {mg : Str → Option Value} {base : Heap} {x qual : Str} {params : Arguments} {body : List Stmt} {scope : Scope} {dvs : List V} {kws : List (Str × V)} {f : Addr} {fd : FuncData}
    {N ps : List Str} {k : Nat} {φ : VSp} (F : FunD K x qual params body scope dvs kws f fd) (S : FnScope N ps scope) (len : ∀ ds M Q, φ ds M Q → ds.length = ps.length)
    (hbody : ∀ (cdv : Value) (A : Around) (outer : List Env) (s : Shared) (H : Hp) (E : XK), RmG k (A.deeper (envOfC qual scope s.heap.objs.size f cdv)) →
      ∃ t, VSs (cxOf CX0 P w K mg base N qual scope f cdv A outer s H E).nox body t ∧ ∀ ds M Q, φ ds M Q → t { nx := fun _ M' => Q .non M', rt := Q } (vstart N.length ds) M) : FnG P w K mg base CX0 (k + 1) f fd ps (lSp K φ) := by
  obtain ⟨oc, od, dV, kV, doc, pm, an, cdv, ct, osl, rfl, lk, hcd, _, _⟩ := F.ex
  refine fnG_of lk hcd S (fun vs H Q E ⟨F, M, G, ds, Q', dv, r, q, o⟩ => by rw [dv.len]; exact len ds M Q' q) fun A outer s H vs Q E hr ⟨F', M, G, ds, Q', dv, r, q, o⟩ => ?_
  obtain ⟨t, h1, h2⟩ := hbody cdv A outer s H E hr
  exact ⟨lS K t, PSs.nox h1, F', M, G, vstart N.length ds, _, SR.start dv, r, h2 ds M Q' q, ⟨fun σ H1 F1 M1 e s1 r1 hs1 q1 => o _ H1 F1 M1 _ s1 r1 .non q1, o, fun _ _ _ _ _ _ _ _ z => z.elim, fun _ _ _ _ _ _ _ _ z => z.elim⟩⟩
def Sub (M M' : Mem) : Prop := ∀ a o, M a = some o → M' a = some o
theorem Sub.refl {M : Mem} : Sub M M := fun _ _ h => h
theorem Sub.trans {M M1 M2 : Mem} (h : Sub M M1) (h' : Sub M1 M2) : Sub M M2 := fun a o e => h' a o (h a o e)
theorem Sub.new {M : Mem} {p : Addr} {o : MO} (h : M p = none) : Sub M (mupd M p o) := fun a x e => by
  rw [mupd_ne (fun z => by rw [z, h] at e; cases e)]; exact e
/-- what M knows is left alone: p is none of it -/
theorem Sub.wr {M M1 : Mem} {p : Addr} {o : MO} (h : Sub M M1) (hp : M p = none) : Sub M (mupd M1 p o) := fun a x e => by
  rw [mupd_ne (fun z => by rw [z, hp] at e; cases e)]; exact h a x e
theorem Sub.both {M M1 : Mem} {p : Addr} {o : MO} (h : Sub M M1) : Sub (mupd M p o) (mupd M1 p o) := fun a x e => by
  by_cases z : a = p
  · subst z; rw [mupd_same] at e ⊢; exact e
  · rw [mupd_ne z] at e ⊢; exact h a x e
/-- the same, what was made in the call may be left behind -/
theorem okGD {P : Program} {w : World} {K : PySem.W.Frag} {mg : Str → Option Value} {base : Heap} {x qual : Str} {params : Arguments} {body : List Stmt} {scope : Scope} {dvs : List V} {kws : List (Str × V)} {f : Addr} {fd : FuncData}
    {N ps : List Str} {k : Nat} {φ : VSp} (F : FunD K x qual params body scope dvs kws f fd) (S : FnScope N ps scope) (len : ∀ ds M Q, φ ds M Q → ds.length = ps.length)
    (hbody : ∀ (cdv : Value) (A : Around) (outer : List Env) (s : Shared) (H : Hp) (E : XK), RmG k (A.deeper (envOfC qual scope s.heap.objs.size f cdv)) →
      ∃ t, VSs (cxOf CX0 P w K mg base N qual scope f cdv A outer s H E).nox body t ∧ ∀ ds M Q, φ ds M Q → t { nx := fun _ M' => ∃ M'', Sub M'' M' ∧ Q .non M'', rt := fun d M' => ∃ M'', Sub M'' M' ∧ Q d M'' } (vstart N.length ds) M) : FnG P w K mg base CX0 (k + 1) f fd ps (lSp K φ) := by
  obtain ⟨oc, od, dV, kV, doc, pm, an, cdv, ct, osl, rfl, lk, hcd, _, _⟩ := F.ex
  refine fnG_of lk hcd S (fun vs H Q E ⟨F, M, G, ds, Q', dv, r, q, o⟩ => by rw [dv.len]; exact len ds M Q' q) fun A outer s H vs Q E hr ⟨F', M, G, ds, Q', dv, r, q, o⟩ => ?_
  obtain ⟨t, h1, h2⟩ := hbody cdv A outer s H E hr
  exact ⟨lS K t, PSs.nox h1, F', M, G, vstart N.length ds, _, SR.start dv, r, h2 ds M Q' q, ⟨fun σ H1 F1 M1 e s1 r1 hs1 ⟨M2, sb, q1⟩ => o _ H1 F1 M2 _ s1 (r1.drop sb) .non q1, fun v H1 F1 M1 d s1 r1 d1 ⟨M2, sb, q1⟩ => o v H1 F1 M2 d s1 (r1.drop sb) d1 q1, fun _ _ _ _ _ _ _ _ z => z.elim, fun _ _ _ _ _ _ _ _ z => z.elim⟩⟩
section
variable {X : Cx} {e : Expr} {es : List Expr} {t : VTA} {pos p : Pos} {x : Str} {k : Nat} {f : Addr} {fd : FuncData} {ps : List Str} {φ : VSp} {sp : Sp} {E : XK} {CX : CXT}
theorem run_g {pins : List (Addr × Obj)} {σ : L2.St} {H : Hp} {s : Shared} {Q : L2.VK} {us : List Value} {vs : List V} (F : FnG X.prog X.w X.K X.mg X.base CX k f fd ps sp) (hr : RmG k X.A) (hb : Binds X.K fd ps []) (hx : Passes CX X E)
    (I : Inv X pins σ H s) (r : Vals vs us) (h : sp vs H Q E) : wpAny (model X.prog X.w) X.A (call (.ref f) us) (EP X pins σ Q) X.xe s := by
  have hl : (us ++ []).length = ps.length := by rw [List.append_nil, ← r.length]; exact F.len _ _ _ _ h
  have b0 := hb s us I.kIn hl
  rw [List.append_nil] at b0
  refine wpAny_call (codeAny_mono (F.run X.A X.stack s H ⟨us, []⟩ us vs Q E hr I.env0 b0 r h) fun res s' done => ?_)
  match res, done with
  | .error err, done => exact hx pins σ H s err s' I done
  | .ok (.ret u), done => exact I.after done
@[simp] def vFn (φ : VSp) (t : VTA) : VTE := fun e M Q => t e M fun ds M1 => φ ds M1 Q
theorem v_call (F : FnG X.prog X.w X.K X.mg X.base CX0 k f fd ps (lSp X.K φ)) (hr : RmG k X.A) (hm : X.mg x = some (.ref f)) (hk : PySem.W.keepIn X.K (.ref f) = true) (hb : Binds X.K fd ps []) (ha : VA X (e :: es) t) (hg : Gl X x := by rfl)
    (hdb : (x == ("__debug__" : Str)) = false := by decide) (he : starEach (e :: es) X.env = (false, eval e X.env) :: starEach es X.env := by rfl) (hpl : (backTo pos (starEach es X.env)).any (·.1) = false := by rfl) :
    VE X (.Call (.Name x p) (e :: es) [] pos) (vFn φ t) := by
  refine ⟨fun pins s σ H Q I ⟨F', M, G, e', Q', hs, hr', q, o⟩ => ?_⟩
  refine wpAny_Call_Name_kw (ld_glob I hg hm ?_ hdb)
  refine PySem.W.callWith_K (h₀ := X.base) I.ok.mod.kin hk (thn (ha.run pos pins s σ H (fun vs H1 => lSp X.K φ vs H1 Q E0) I ⟨F', M, G, e', _, hs, hr', q, fun vs H1 F1 M1 ds s1 r1 d1 q1 => ⟨F1, M1, G, ds, Q', d1, r1, q1, o.up s1⟩⟩) fun us s1 ⟨vs, H1, I1, r, q⟩ => ⟨I1.kIn, ?_⟩) he hpl
  exact run_g F hr hb pass0 I1 r q
theorem v_call0 (F : FnG X.prog X.w X.K X.mg X.base CX0 k f fd ps (lSp X.K φ)) (hr : RmG k X.A) (hm : X.mg x = some (.ref f)) (hk : PySem.W.keepIn X.K (.ref f) = true) (hb : Binds X.K fd ps []) (hg : Gl X x := by rfl)
    (hdb : (x == ("__debug__" : Str)) = false := by decide) : VE X (.Call (.Name x p) [] [] pos) (vFn φ vaNil) := by
  refine ⟨fun pins s σ H Q I ⟨F', M, G, e', Q', hs, hr', q, o⟩ => ?_⟩
  refine wpAny_Call_Name_kw (ld_glob I hg hm ?_ hdb)
  exact PySem.W.callWith_K0 I.kIn hk (run_g (us := []) (vs := []) F hr hb pass0 I .nil ⟨F', M, G, [], Q', .nil, hr', q, o⟩)
end

theorem law_callG {P : Program} {w : World} {K : PySem.W.Frag} {mg mb : Str → Option Value} {k : Nat} {fa a : Addr} {fd : FuncData} {x : Str} {φ : VSp} {s₁ : Shared} {vs : List Value} {ns : List Int}
    (inK : K.In s₁.heap) (names : s₁.heap.Ns mainGlobals mg) (blt : s₁.heap.Ns builtinsNs mb) (boot : ∀ x : Str, x ≠ "__name__" → mb x = bootBuiltins x) (nolim : s₁.heap.NoLimit) (nogens : s₁.gens = #[])
    (script : s₁.heap.get? a = some { cls := .type "list", data := .seq vs.toArray }) (isInts : IntsAre vs ns) (short : ns.length ≤ sizeLine) (room : Room k callerA)
    (F : ∀ base : Heap, K.In base → base.Ns mainGlobals mg → FnG P w K mg base CX0 k fa fd [x] (lSp K φ)) (binds : ∀ (s : Shared) (u : Value), BindsTo s fd ⟨[u], []⟩ [(x, u)])
    (law : ∀ M : Mem, φ [.rd (ns.map D.int)] M fun d _ => d = .bl true) :
    codeAny (model P w) callerA (.call (.ref fa) ⟨[.ref a], []⟩) (fun r s' => r = .ok (.ret (.bool true)) ∧ OldK s₁.heap s'.heap ∧ s'.os = s₁.os ∧ AllBare s'.gens) s₁ := by
  have rel := vals_ints isInts
  have slen := isInts.length
  have main : ∀ H : Hp, Only H → SqL K H a (ns.map V.int) → HOk P w H s₁.heap → (∀ b, H b ≠ none → b = a) → (H a ≠ none → K.lookup a = none) →
      codeAny (model P w) callerA (.call (.ref fa) ⟨[.ref a], []⟩) (fun r s' => r = .ok (.ret (.bool true)) ∧ OldK s₁.heap s'.heap ∧ s'.os = s₁.os ∧ AllBare s'.gens) s₁ := by
    intro H only seq hok one notK
    have free : ∀ {b : Addr} {o : Obj}, s₁.heap.get? b = some o → (∀ es ep, o.data = .dict es ep → H b = none) := fun {b o} e es ep d => by
      cases q : H b with
      | none => rfl
      | some u =>
        have eq : b = a := one b (by rw [q]; simp)
        subst eq
        rw [script] at e; cases e
        exact nomatch d
    have nsB : ∀ {b : Addr} {m : Str → Option Value}, s₁.heap.Ns b m → (hidT s₁.heap H).Ns b m := fun {b m} ⟨o, es, ep, e, d, r⟩ => ⟨o, es, ep, hidT_get e (free e es ep d), d, r⟩
    have kinB : K.In (hidT s₁.heap H) := fun b o e => by
      refine hidT_get (inK b o e) ?_
      cases q : H b with
      | none => rfl
      | some u =>
        have eq : b = a := one b (by rw [q]; simp)
        subst eq
        rw [notK (by rw [q]; simp)] at e; cases e
    obtain ⟨mc, l1, l2⟩ := nolim
    have env : Env0 P w K mg (hidT s₁.heap H) callerA [] s₁ H :=
      ⟨rfl, ⟨kinB, nsB names, ⟨mb, nsB blt, boot⟩, ⟨mc, nsB l1, l2⟩⟩, fun b o e => of_hidT e, Nat.le_of_eq (hidT_size _ _), trivial, (fun b hb => nomatch hb), hok, .of_eq nogens⟩
    have prom : lSp K φ [.ref a] H (fun v _ => v = .bl true) (fun _ _ _ => False) :=
      ⟨H, fun _ => none, fun _ => none, [.rd (ns.map D.int)], _, .cons (.rd seq (DRs.ints ns)) .nil, ⟨Same.refl H, (fun _ _ z => nomatch z), (fun _ _ z => nomatch z), (fun _ _ z => nomatch z)⟩, law _, fun v H' F' M' d _ _ dv e => by subst e; cases dv; rfl⟩
    refine codeAny_mono ((F _ kinB (nsB names)).run callerA [] s₁ H ⟨[.ref a], []⟩ [.ref a] [.ref a] _ _ ⟨room, rfl⟩ env (binds s₁ (.ref a)) (.cons rfl .nil) prom) fun res s' done => ?_
    match res, done with
    | .error err, done => exact False.elim done
    | .ok (.ret u), done =>
      obtain ⟨v, H', os, bare, un, hok', r', q⟩ := done
      have q' : v = .bl true := q
      subst q'
      obtain rfl : u = Value.bool true := r'
      refine ⟨rfl, OldK.of_keep fun b o e => ?_, os, bare⟩
      cases q : H b with
      | none => exact un.keep b o e q (fun z => nomatch z) (by simp)
      | some u =>
        rcases only b with z | ⟨ob, xs, z⟩
        · rw [q] at z; cases z
        · obtain ⟨e1, _⟩ := hok b _ z
          obtain ⟨e2, _⟩ := hok' b _ (un.frzs b ob _ z)
          rw [e] at e1; cases e1
          exact e2
  cases inOwn : K.lookup a with
  | none =>
    have at_a : ∀ {u : HO}, (if a = a then some u else none) = some u := fun {u} => if_pos rfl
    refine main (fun b => if b = a then some (.frz { cls := .type "list", data := .seq vs.toArray } (.lst (ns.map V.int))) else none) (fun b => ?_) (.inl (.inr ⟨_, at_a⟩)) (fun b u z => ?_) (fun b z => ?_) fun _ => inOwn
    · by_cases hb : b = a
      · exact .inr ⟨_, _, if_pos hb⟩
      · exact .inl (if_neg hb)
    · by_cases hb : b = a
      · subst hb
        have z2 := at_a.symm.trans z
        cases z2
        exact ⟨script, by rw [List.length_map]; exact short, vs, _, rel, script⟩
      · have z2 := (if_neg hb).symm.trans z
        cases z2
    · by_cases hb : b = a
      · exact hb
      · exact absurd (if_neg hb) z
  | some o =>
    have e := inK a o inOwn
    rw [script] at e
    cases e
    exact main (fun _ => none) (fun _ => .inl rfl) (.inr ⟨_, vs.toArray, _, inOwn, rfl, rfl, rfl, by rw [List.size_toArray, slen]; exact short, by simpa using rel⟩) (fun b u z => nomatch (show (none : Option HO) = some u from z)) (fun b z => absurd rfl z) fun z => absurd rfl z
theorem walk_G {l : PySem.W.OpenLaw} {n k : Nat} {q : Program} {loose : List Str} {XP : (Str → Option Value) → Heap → Prop} {YP : World → Heap → Prop} {d : DefRec} {x : Str}
    (most : l.most = some n) (short : n ≤ sizeLine) (nodef : d.params.defaults = []) (room : Room k callerA)
    (F : ∀ (w : World) (mg : Str → Option Value) (fa : Addr) (h : Heap), YP w h → h.Ns mainGlobals mg → mg d.name = some (.ref fa) →
      ∃ (K : PySem.W.Frag) (fd : FuncData) (φ : VSp), K.In h ∧ (∀ (s : Shared) (u : Value), BindsTo s fd ⟨[u], []⟩ [(x, u)]) ∧ (∀ (ns : List Int), ns.length ≤ n → ∀ M : Mem, φ [.rd (ns.map D.int)] M fun d _ => d = .bl true) ∧
        ∀ base : Heap, K.In base → base.Ns mainGlobals mg → FnG l.prog w K mg base CX0 k fa fd [x] (lSp K φ)) :
    PySem.W.WalkO q loose XP YP l.row.toRowW d [] (fun f vs => PySem.call f vs) := by
  refine Att.attach_call most nodef fun w s₀ s₁ mg mb fa o pm cd doc a vs ns G Y _ _ _ hmg script isInts hlen nogens => ?_
  obtain ⟨K, fd, φ, inK, binds, law, hF⟩ := F w mg fa _ Y G.T.g hmg
  exact law_callG inK G.T.g G.T.b G.T.builtins G.T.nolimit nogens script isInts (Nat.le_trans hlen short) room hF binds fun M => law ns hlen M
end VL
namespace VL
open PySem PySem.Spec L2

section
variable {X : Cx}
theorem cr_of {f : Value} {r : List V → Hp → L2.VK → Prop} {rv : VRs} (h : CallR X f r) (i : ∀ F M G H xs ds Q' Q, Rel X.K F M G H → DRs X.K F xs ds → rv ds M Q' → OutE X.K F G Q' Q → r xs H Q) : CallR X f (ls X.K rv) :=
  CallR_imp h fun xs H Q ⟨F, M, G, ds, Q', r, d, q, o⟩ => i F M G H xs ds Q' Q r d q o
theorem OutE.stay {K : PySem.W.Frag} {F G H : Hp} {M : Mem} {Q' : VK} {Q : L2.VK} {v : V} {d : D} (o : OutE K F G Q' Q) (r : Rel K F M G H) (dv : DR K F v d) (q : Q' d M) : Q v H := o v H F M d (Same.refl F) r dv q
theorem OutE.newL {K : PySem.W.Frag} {F G H : Hp} {M : Mem} {Q' : VK} {Q : L2.VK} {vs : List V} {ds : List D} (o : OutE K F G Q' Q) (r : Rel K F M G H) (dv : DRs K F vs ds) (q : Q' (.lst ds) M) (p : Addr) (hp : H p = none) : Q (.ref p) (upd H p (.lst vs)) :=
  o _ _ _ _ _ (r.sF hp) (r.newF hp) (.lst upd_same (dv.up (r.sF hp))) q
theorem OutE.newT {K : PySem.W.Frag} {F G H : Hp} {M : Mem} {Q' : VK} {Q : L2.VK} {vs : List V} {ds : List D} (o : OutE K F G Q' Q) (r : Rel K F M G H) (dv : DRs K F vs ds) (q : Q' (.tup ds) M) (p : Addr) (hp : H p = none) : Q (.ref p) (upd H p (.tup vs)) :=
  o _ _ _ _ _ (r.sF hp) (r.newF hp) (.tup (SqT.of upd_same) (dv.up (r.sF hp))) q
theorem OutE.newO {K : PySem.W.Frag} {F G H : Hp} {M : Mem} {Q' : VK} {Q : L2.VK} {ho : HO} {m : MO} (o : OutE K F G Q' Q) (r : Rel K F M G H) (dv : MR K F m ho) (p : Addr) (hp : H p = none) (q : Q' (.obj p) (mupd M p m)) : Q (.ref p) (upd H p ho) :=
  o _ _ _ _ _ (Same.refl F) (r.newM hp dv) (.obj p) q
theorem one_of {K : PySem.W.Frag} {F : Hp} {xs : List V} {x : D} (h : DRs K F xs [x]) : ∃ v, xs = [v] ∧ DR K F v x := by
  cases h with
  | cons a b => cases b; exact ⟨_, rfl, a⟩
/-- len of what is no text -/
@[simp] def lenOf (M : Mem) : D → Option Nat
  | .tup xs => some xs.length
  | .obj a => match M a with
    | some (.lst xs) => some xs.length
    | some (.dk kvs) => some kvs.length
    | some (.dt kvs) => some kvs.length
    | none => none
  | d => (asL M d).map List.length
@[simp] def rLen : VRs
  | [.str z], M, Q => z.length ≤ sizeLine ∧ Q (.int (z.length : Nat)) M
  | [x], M, Q => ∃ n, lenOf M x = some n ∧ Q (.int (n : Nat)) M
  | _, _, _ => False
theorem c_len : CallR X (.builtin "len") (ls X.K rLen) := by
  refine cr_of (CallR.or call_len_seq (CallR.or call_len_str (CallR.or call_lenD call_len_dT))) fun F M G H xs ds Q' Q r dv q o => ?_
  match ds, dv, q with
  | [], .nil, q => exact q.elim
  | _ :: _ :: _, dv, q => simp [rLen] at q
  | [x], dv, q =>
    obtain ⟨v, rfl, z⟩ := one_of dv
    have lists : ∀ ys, asL M x = some ys → Q' (.int (ys.length : Nat)) M → ∃ p ws, [v] = [V.ref p] ∧ (SqL X.K H p ws ∨ SqT X.K H p ws) ∧ Q (.int (ws.length : Nat)) H := fun ys e q => by
      obtain ⟨p, vs, rfl, hp, z2⟩ := asL_at r z e
      exact ⟨p, vs, rfl, .inl hp, by rw [z2.len]; exact o.stay r (.int _) q⟩
    cases x with
    | str w => cases z; exact .inr (.inl ⟨w, rfl, q.1, o.stay r (.int _) q.2⟩)
    | tup ys =>
      obtain ⟨n, e, q⟩ := q
      cases e
      cases z with
      | tup h z2 => exact .inl ⟨_, _, rfl, .inr (same_tup r.sub h), by rw [z2.len]; exact o.stay r (.int _) q⟩
    | lst ys => obtain ⟨n, e, q⟩ := q; cases e; exact .inl (lists ys rfl q)
    | rd ys => obtain ⟨n, e, q⟩ := q; cases e; exact .inl (lists ys rfl q)
    | obj a =>
      obtain ⟨n, e, q⟩ := q
      unfold lenOf at e
      dsimp only at e
      cases hm : M a with
      | none => rw [hm] at e; cases e
      | some m =>
        rw [hm] at e
        cases m with
        | lst ys => cases e; exact .inl (lists ys (asL_obj hm) q)
        | dk kvs =>
          cases e
          cases z
          obtain ⟨_, _, ho, h1, kws, rfl, k1, k2⟩ := r.ob a _ hm
          have hl : kws.length = kvs.length := by have := congrArg List.length k1; simpa using this
          exact .inr (.inr (.inl ⟨a, kws, rfl, h1, by rw [hl]; exact o.stay r (.int _) q⟩))
        | dt kvs =>
          cases e
          cases z
          obtain ⟨_, _, ho, h1, kws, rfl, k1, k2⟩ := r.ob a _ hm
          have hl : kws.length = kvs.length := by have := congrArg List.length k1; simpa using this
          exact .inr (.inr (.inr ⟨a, kws, rfl, h1, by rw [hl]; exact o.stay r (.int _) q⟩))
    | non => obtain ⟨n, e, _⟩ := q; cases e
    | bl _ => obtain ⟨n, e, _⟩ := q; cases e
    | int _ => obtain ⟨n, e, _⟩ := q; cases e
@[simp] def rAbs : VRs
  | [.int i], M, Q => Q (.int (if i < 0 then -i else i)) M
  | _, _, _ => False
theorem c_abs : CallR X (.builtin "abs") (ls X.K rAbs) := cr_of call_abs fun F M G H xs ds Q' Q r dv q o => by
  unfold rAbs at q
  split at q
  · cases dv with
    | cons z z2 => cases z; cases z2; exact ⟨_, rfl, o.stay r (.int _) q⟩
  · exact q.elim
@[simp] def rMax2 : VRs
  | [.int i, .int j], M, Q => Q (.int (if j > i then j else i)) M
  | _, _, _ => False
@[simp] def rMin2 : VRs
  | [.int i, .int j], M, Q => Q (.int (if j < i then j else i)) M
  | _, _, _ => False
theorem c_max2 (hc : X.calm = true) : CallR X (.builtin "max") (ls X.K rMax2) := cr_of (call_max2 hc) fun F M G H xs ds Q' Q r dv q o => by
  unfold rMax2 at q
  split at q
  · cases dv with
    | cons z z2 => cases z; cases z2 with
      | cons z2 z3 => cases z2; cases z3; exact ⟨_, _, rfl, o.stay r (.int _) q⟩
  · exact q.elim
theorem c_min2 (hc : X.calm = true) : CallR X (.builtin "min") (ls X.K rMin2) := cr_of (call_min2 hc) fun F M G H xs ds Q' Q r dv q o => by
  unfold rMin2 at q
  split at q
  · cases dv with
    | cons z z2 => cases z; cases z2 with
      | cons z2 z3 => cases z2; cases z3; exact ⟨_, _, rfl, o.stay r (.int _) q⟩
  · exact q.elim
@[simp] def rInt : VRs
  | [.int i], M, Q => Q (.int i) M
  | [.bl b], M, Q => Q (.int (if b then 1 else 0)) M
  | _, _, _ => False
theorem c_int : CallR X (.type "int") (ls X.K rInt) := cr_of call_int1 fun F M G H xs ds Q' Q r dv q o => by
  unfold rInt at q
  split at q
  · cases dv with
    | cons z z2 => cases z; cases z2; exact .inl ⟨_, rfl, o.stay r (.int _) q⟩
  · cases dv with
    | cons z z2 => cases z; cases z2; exact .inr ⟨_, rfl, o.stay r (.int _) q⟩
  · exact q.elim
theorem drs_map {K : PySem.W.Frag} {F : Hp} {α : Type} {f : α → D} {g : α → V} (h : ∀ a v, DR K F v (f a) → v = g a) : ∀ {xs : List α} {vs : List V}, DRs K F vs (xs.map f) → vs = xs.map g
  | [], _, d => by cases d; rfl
  | x :: xs, _, d => by
    cases d with
    | cons a b => rw [h x _ a, drs_map h b] <;> rfl
theorem drs_ints {K : PySem.W.Frag} {F : Hp} {ns : List Int} {vs : List V} (h : DRs K F vs (ns.map D.int)) : vs = ns.map V.int := drs_map (fun a v d => by cases d; rfl) h
theorem drs_bls {K : PySem.W.Frag} {F : Hp} {ns : List Bool} {vs : List V} (h : DRs K F vs (ns.map D.bl)) : vs = ns.map V.bl := drs_map (fun a v d => by cases d; rfl) h
theorem DRs.bls {K : PySem.W.Frag} {F : Hp} : ∀ (ns : List Bool), DRs K F (ns.map V.bl) (ns.map D.bl)
  | [] => .nil
  | n :: ns => .cons (.bl n) (DRs.bls ns)
def rSum : VRs
  | [x], M, Q => ∃ ns : List Int, asL M x = some (ns.map D.int) ∧ Q (.int ns.sum) M
  | _, _, _ => False
theorem c_sum (hc : X.calm = true) : CallR X (.builtin "sum") (ls X.K rSum) := cr_of (cr_sum hc) fun F M G H xs ds Q' Q r dv q o => by
  unfold rSum at q
  split at q
  · obtain ⟨v, rfl, z⟩ := one_of dv
    obtain ⟨ns, e, q⟩ := q
    obtain ⟨a, vs, rfl, hp, z2⟩ := asL_at r z e
    rw [drs_ints z2] at hp
    exact ⟨a, ns, rfl, hp, o.stay r (.int _) q⟩
  · exact q.elim
def rAll : VRs
  | [x], M, Q => ∃ bs : List Bool, asL M x = some (bs.map D.bl) ∧ Q (.bl (bs.all id)) M
  | _, _, _ => False
def rAny : VRs
  | [x], M, Q => ∃ bs : List Bool, asL M x = some (bs.map D.bl) ∧ Q (.bl (bs.any id)) M
  | _, _, _ => False
theorem c_all (hc : X.calm = true) : CallR X (.builtin "all") (ls X.K rAll) := cr_of (cr_all hc) fun F M G H xs ds Q' Q r dv q o => by
  unfold rAll at q
  split at q
  · obtain ⟨v, rfl, z⟩ := one_of dv
    obtain ⟨ns, e, q⟩ := q
    obtain ⟨a, vs, rfl, hp, z2⟩ := asL_at r z e
    rw [drs_bls z2] at hp
    exact ⟨a, ns, rfl, hp, o.stay r (.bl _) q⟩
  · exact q.elim
theorem c_any (hc : X.calm = true) : CallR X (.builtin "any") (ls X.K rAny) := cr_of (cr_any hc) fun F M G H xs ds Q' Q r dv q o => by
  unfold rAny at q
  split at q
  · obtain ⟨v, rfl, z⟩ := one_of dv
    obtain ⟨ns, e, q⟩ := q
    obtain ⟨a, vs, rfl, hp, z2⟩ := asL_at r z e
    rw [drs_bls z2] at hp
    exact ⟨a, ns, rfl, hp, o.stay r (.bl _) q⟩
  · exact q.elim
/-- the greatest, the least of a list of ints -/
def rMaxL : VRs
  | [x], M, Q => ∃ ns : List Int, asL M x = some (ns.map D.int) ∧ 0 < ns.length ∧ ∀ m, m ∈ ns → (∀ y, y ∈ ns → y ≤ m) → Q (.int m) M
  | _, _, _ => False
def rMinL : VRs
  | [x], M, Q => ∃ ns : List Int, asL M x = some (ns.map D.int) ∧ 0 < ns.length ∧ ∀ m, m ∈ ns → (∀ y, y ∈ ns → m ≤ y) → Q (.int m) M
  | _, _, _ => False
theorem c_maxL (hc : X.calm = true) : CallR X (.builtin "max") (ls X.K rMaxL) := cr_of (cr_max hc) fun F M G H xs ds Q' Q r dv q o => by
  unfold rMaxL at q
  split at q
  · obtain ⟨v, rfl, z⟩ := one_of dv
    obtain ⟨ns, e, h0, q⟩ := q
    obtain ⟨a, vs, rfl, hp, z2⟩ := asL_at r z e
    rw [drs_ints z2] at hp
    exact ⟨a, ns, rfl, hp, h0, fun m h1 h2 => o.stay r (.int _) (q m h1 h2)⟩
  · exact q.elim
theorem c_minL (hc : X.calm = true) : CallR X (.builtin "min") (ls X.K rMinL) := cr_of (cr_min hc) fun F M G H xs ds Q' Q r dv q o => by
  unfold rMinL at q
  split at q
  · obtain ⟨v, rfl, z⟩ := one_of dv
    obtain ⟨ns, e, h0, q⟩ := q
    obtain ⟨a, vs, rfl, hp, z2⟩ := asL_at r z e
    rw [drs_ints z2] at hp
    exact ⟨a, ns, rfl, hp, h0, fun m h1 h2 => o.stay r (.int _) (q m h1 h2)⟩
  · exact q.elim
/-- list(x), tuple(x) -/
def rList : VRs
  | [x], M, Q => ∃ xs, asI M x = some xs ∧ Q (.lst xs) M
  | _, _, _ => False
def rListO : VRs
  | [x], M, Q => ∃ xs, asI M x = some xs ∧ ∀ p, M p = none → Q (.obj p) (mupd M p (.lst xs))
  | _, _, _ => False
def rTuple : VRs
  | [x], M, Q => ∃ xs, asI M x = some xs ∧ Q (.tup xs) M
  | _, _, _ => False
theorem asI_at {K : PySem.W.Frag} {F G H : Hp} {M : Mem} {v : V} {d : D} {xs : List D} (r : Rel K F M G H) (h : DR K F v d) (e : asI M d = some xs) : ∃ a vs, v = .ref a ∧ DRs K F vs xs ∧ (SqL K H a vs ∨ (SqT K H a vs ∧ DR K F v (.tup xs))) := by
  rcases asI_cases e with rfl | e
  · cases h with
    | tup q z => exact ⟨_, _, rfl, z, .inr ⟨same_tup r.sub q, .tup q z⟩⟩
  · obtain ⟨a, vs, rfl, hp, z⟩ := asL_at r h e
    exact ⟨a, vs, rfl, z, .inl hp⟩
theorem c_list : CallR X (.type "list") (ls X.K rList) := cr_of call_list_of fun F M G H xs ds Q' Q r dv q o => by
  unfold rList at q
  split at q
  · obtain ⟨v, rfl, z⟩ := one_of dv
    obtain ⟨xs, e, q⟩ := q
    obtain ⟨a, vs, rfl, z2, h⟩ := asI_at r z e
    exact ⟨a, vs, rfl, h.imp id And.left, o.newL r z2 q⟩
  · exact q.elim
theorem c_listO : CallR X (.type "list") (ls X.K rListO) := cr_of call_list_of fun F M G H xs ds Q' Q r dv q o => by
  unfold rListO at q
  split at q
  · obtain ⟨v, rfl, z⟩ := one_of dv
    obtain ⟨xs, e, q⟩ := q
    obtain ⟨a, vs, rfl, z2, h⟩ := asI_at r z e
    exact ⟨a, vs, rfl, h.imp id And.left, fun p hp => o.newO r (m := .lst xs) ⟨vs, rfl, z2⟩ p hp (q p (r.m0 hp))⟩
  · exact q.elim
theorem c_tuple : CallR X (.type "tuple") (ls X.K rTuple) := cr_of call_tuple_of fun F M G H xs ds Q' Q r dv q o => by
  unfold rTuple at q
  split at q
  · obtain ⟨v, rfl, z⟩ := one_of dv
    obtain ⟨xs, e, q⟩ := q
    obtain ⟨a, vs, rfl, z2, h⟩ := asI_at r z e
    rcases h with h | ⟨h, h2⟩
    · exact ⟨a, vs, rfl, .inl ⟨h, o.newT r z2 q⟩⟩
    · exact ⟨a, vs, rfl, .inr ⟨h, o.stay r h2 q⟩⟩
  · exact q.elim
/-- sorted of ints, any number of them -/
def rSortI : VRs
  | [x], M, Q => ∃ ns : List Int, asL M x = some (ns.map D.int) ∧ ∀ ms : List Int, ms.Perm ns → ms.Pairwise (· ≤ ·) → Q (.lst (ms.map D.int)) M
  | _, _, _ => False
theorem c_sortI : CallR X (.builtin "sorted") (ls X.K rSortI) := cr_of cr_sortedI fun F M G H xs ds Q' Q r dv q o => by
  unfold rSortI at q
  split at q
  · obtain ⟨v, rfl, z⟩ := one_of dv
    obtain ⟨ns, e, q⟩ := q
    obtain ⟨a, vs, rfl, hp, z2⟩ := asL_at r z e
    rw [drs_ints z2] at hp
    exact ⟨a, ns, rfl, hp, fun ms p h1 h2 hp2 => o.newL r (DRs.ints ms) (q ms h1 h2) p hp2⟩
  · exact q.elim
def rRepr : VRs
  | [x], M, Q => Sh 30 (fz M x) ∧ (py (fz M x)).showable = true ∧ (py (fz M x)).shown.length ≤ 16000000 ∧ Q (.str (py (fz M x)).shown) M
  | _, _, _ => False
mutual
theorem noDict : ∀ d : D, (py d).hasDict = false
  | .non => by simp [py, PyData.hasDict]
  | .bl _ => by simp [py, PyData.hasDict]
  | .int _ => by simp [py, PyData.hasDict]
  | .str _ => by simp [py, PyData.hasDict]
  | .obj _ => by simp [py, PyData.hasDict]
  | .lst xs => by simp [py, PyData.hasDict, noDicts xs]
  | .tup xs => by simp [py, PyData.hasDict, noDicts xs]
  | .rd xs => by simp [py, PyData.hasDict, noDicts xs]
theorem noDicts : ∀ xs : List D, PyData.hasDictAll (pys xs) = false
  | [] => by simp [pys, PyData.hasDictAll]
  | x :: xs => by simp [pys, PyData.hasDictAll, noDict x, noDicts xs]
end
end
end VL
namespace VL
open PySem PySem.Spec L2

section
variable {X : Cx} {e a b : Expr} {es : List Expr} {te ta tb : VTE} {t : VTA} {pos : Pos} {x : Str} {p : Pos}
theorem v_glob {v : V} {u : Value} {d : D} (hm : X.mg x = some u) (r : RelV v u) (hd : ∀ F, DR X.K F v d) (hg : Gl X x := by rfl) (hdb : (x == ("__debug__" : Str)) = false := by decide) : VE X (.Name x p) (vC d) := v_c (pe_glob hg hm r hdb) hd
theorem v_gint {i : Int} {u : Value} (hm : X.mg x = some u) (r : RelV (.int i) u) (hg : Gl X x := by rfl) (hdb : (x == ("__debug__" : Str)) = false := by decide) : VE X (.Name x p) (vC (.int i)) := v_glob hm r (fun _ => .int i) hg hdb
theorem v_gstr {i : Str} {u : Value} (hm : X.mg x = some u) (r : RelV (.str i) u) (hg : Gl X x := by rfl) (hdb : (x == ("__debug__" : Str)) = false := by decide) : VE X (.Name x p) (vC (.str i)) := v_glob hm r (fun _ => .str i) hg hdb

@[simp] def tyD (M : Mem) : D → Option String
  | .non => some "NoneType"
  | .bl _ => some "bool"
  | .int _ => some "int"
  | .str _ => some "str"
  | .tup _ => some "tuple"
  | .lst _ => some "list"
  | .rd _ => none
  | .obj a => match M a with
    | some (.lst _) => some "list"
    | some (.dk _) => some "dict"
    | some (.dt _) => some "dict"
    | none => none
theorem tyD_is {K : PySem.W.Frag} {F G H : Hp} {M : Mem} {v : V} {d : D} {T : String} (r : Rel K F M G H) (h : DR K F v d) (e : tyD M d = some T) : TyX K H v (.type T) := by
  cases h with
  | non => cases e; exact .base .non
  | bl b => cases e; exact .base (.bl b)
  | int i => cases e; exact .base (.int i)
  | str y => cases e; exact .base (.str y)
  | lst q z => cases e; exact .base (.lst (r.sub _ _ q))
  | tup q z =>
    cases e
    rcases same_tup r.sub q with (h | ⟨o, h⟩) | ⟨o, its, n, h1, h2, _⟩
    · exact .base (.tup h)
    · exact .fTuple h
    · exact .kTuple h1 h2
  | rd q z => cases e
  | obj a =>
    unfold tyD at e
    dsimp only at e
    cases hm : M a with
    | none => rw [hm] at e; cases e
    | some o =>
      rw [hm] at e
      obtain ⟨_, _, ho, h1, z⟩ := r.ob a _ hm
      cases o with
      | lst ys => cases e; obtain ⟨vs, rfl, _⟩ := z; exact .base (.lst h1)
      | dk ys => cases e; obtain ⟨vs, rfl, _⟩ := z; exact .base (.dK h1)
      | dt ys => cases e; obtain ⟨vs, rfl, _⟩ := z; exact .base (.dT h1)
@[simp] def vIsi (T : String) (te : VTE) : VTE := fun e M Q => te e M fun x M1 => ∃ A b, tyD M1 x = some A ∧ kitB A T = some b ∧ Q (.bl b) M1
theorem v_isi {T : String} {nT : Str} {p2 : Pos} (hm : X.mg "isinstance" = none) (hT : X.mg nT = none) (he : VE X e te) (hbT : bootBuiltins nT = some (.type T) := by decide +kernel) (hg : Gl X "isinstance" := by rfl) (hgT : Gl X nT := by rfl) (hnT : nT ≠ "__name__" := by decide) (hdT : (nT == ("__debug__" : Str)) = false := by decide)
    (hs : starEach [e, .Name nT p2] X.env = (false, eval e X.env) :: starEach [.Name nT p2] X.env := by rfl) (hs2 : starEach [.Name nT p2] X.env = (false, eval (.Name nT p2) X.env) :: starEach [] X.env := by rfl)
    (hpl : (backTo pos (starEach [.Name nT p2] X.env)).any (·.1) = false := by rfl) : VE X (.Call (.Name "isinstance" p) [e, .Name nT p2] [] pos) (vIsi T te) :=
  v_pe (pe_callB call_isi hg hm (by decide +kernel) (pa_cons he (pa_cons (pe_bltn (v := .ty T) hgT hT hbT rfl hnT hdT) pa_nil hs2) hs) (by decide) (by decide) hs hpl) fun F M G σ H e Q' Q hs hr q o =>
    ⟨F, M, G, e, _, hs, hr, q, fun v H1 F1 M1 d s1 r1 d1 ⟨A, b, e1, e2, q1⟩ => ⟨v, .ty T, .type A, .type T, b, rfl, .ty T, tyD_is r1 d1 e1, kit_ty e2, o _ H1 F1 M1 _ s1 r1 (.bl b) q1⟩⟩

@[simp] def rReprI : VRs
  | [.int i], M, Q => i.natAbs.log2 < 1920 ∧ Q (.str (toString i)) M
  | _, _, _ => False
theorem c_reprI : CallR X (.builtin "repr") (ls X.K rReprI) := cr_of SkE.call_repr_int fun F M G H xs ds Q' Q r dv q o => by
  unfold rReprI at q
  split at q
  · obtain ⟨v, rfl, z⟩ := one_of dv
    cases z
    exact ⟨_, rfl, q.1, o.stay r (.str _) q.2⟩
  · exact q.elim

@[simp] def vMtL (r : Addr → List D → Mem → VK → Prop) (to : VTE) (t : VTA) : VTE := fun e M Q => to e M fun x M1 => ∃ a l, x = .obj a ∧ M1 a = some (.lst l) ∧ t e M1 fun xs M2 => r a xs M2 Q
@[simp] def rApp : Addr → List D → Mem → VK → Prop := fun a ds M Q => ∃ y l, ds = [y] ∧ M a = some (.lst l) ∧ l.length < sizeLine ∧ Q .non (mupd M a (.lst (l ++ [y])))
@[simp] def rExt : Addr → List D → Mem → VK → Prop := fun a ds M Q => ∃ y l zs, ds = [y] ∧ M a = some (.lst l) ∧ asP M y = some zs ∧ l.length + zs.length ≤ sizeLine ∧ Q .non (mupd M a (.lst (l ++ zs)))
@[simp] def rPopI : Addr → List D → Mem → VK → Prop := fun a ds M Q => ∃ i l k y, ds = [.int i] ∧ M a = some (.lst l) ∧ -9223372036854775808 ≤ i ∧ i < 9223372036854775808 ∧ seqIndex? i l.length = some k ∧ l[k]? = some y ∧ Q y (mupd M a (.lst (l.eraseIdx k)))
theorem v_mtL {id : String} {name : Str} {apos : Pos} {o : Expr} {to : VTE} {r : V → List V → Hp → L2.VK → Prop} {rv : Addr → List D → Mem → VK → Prop} (hm : MtR X id r) (slot : Slot "list" name id) (hty : typeOf (.builtin id) = pure (.type "method_descriptor"))
    (hi : ∀ F M G H a ds vs Q' Q, Rel X.K F M G H → DRs X.K F vs ds → rv a ds M Q' → OutE X.K F G Q' Q → r (.ref a) vs H Q) (ho : VE X o to) (ha : VA X (e :: es) t)
    (hbase : attributeBase o name X.env (eval o X.env) = eval o X.env := by rfl)
    (hfew : ((backTo pos (starEach (e :: es) X.env)).all (fun x => !x.1) && (backToKw pos (keywordEach [] X.env)).all (fun x => x.1.isSome)
      && decide ((e :: es).length + ([] : List Keyword).length + (if ([] : List Keyword).isEmpty then 0 else 1) < 30)) = true := by rfl)
    (hline : (apos.endLine == pos.line) = true := by rfl) (hs : starEach (e :: es) X.env = (false, eval e X.env) :: starEach es X.env := by rfl) (hplain : (backTo pos (starEach es X.env)).any (·.1) = false := by rfl) :
    VE X (.Call (.Attribute o name apos) (e :: es) [] pos) (vMtL rv to t) :=
  v_pe (pe_bm PySem.F.plainAttrs_list slot hty hm ho ha hbase hfew hline hs hplain) fun F M G σ H e Q' Q hs hr q o => ⟨F, M, G, e, _, hs, hr, q, fun v H1 F1 M1 d s1 r1 d1 ⟨a, l, ed, hM, q1⟩ => by
    subst ed
    cases d1
    obtain ⟨_, _, ho, h1, vs, rfl, z⟩ := r1.ob a _ hM
    exact ⟨.inl ⟨rfl, vs, SqL.of h1⟩, F1, M1, G, e, _, hs.up s1, r1, q1, fun ws H2 F2 M2 ds s2 r2 d2 q2 => hi F2 M2 G H2 a ds ws Q' Q r2 d2 q2 (o.up (s1.trans s2))⟩⟩
theorem i_app : ∀ F M G H a ds vs Q' Q, Rel X.K F M G H → DRs X.K F vs ds → rApp a ds M Q' → OutE X.K F G Q' Q → rAppend (.ref a) vs H Q := fun F M G H a ds vs Q' Q r dv ⟨y, l, e, hM, hz, q⟩ o => by
  subst e
  obtain ⟨v, rfl, z⟩ := one_of dv
  obtain ⟨_, _, ho, h1, ws, rfl, z1⟩ := r.ob a _ hM
  exact ⟨a, ws, v, rfl, rfl, h1, by rw [z1.len]; exact hz, o _ _ _ _ _ (Same.refl F) (r.wr hM (m := .lst (l ++ [y])) ⟨_, rfl, z1.app (.cons z .nil)⟩) .non q⟩
theorem i_ext : ∀ F M G H a ds vs Q' Q, Rel X.K F M G H → DRs X.K F vs ds → rExt a ds M Q' → OutE X.K F G Q' Q → rExtend (.ref a) vs H Q := fun F M G H a ds vs Q' Q r dv ⟨y, l, zs, e, hM, hy, hz, q⟩ o => by
  subst e
  obtain ⟨v, rfl, z⟩ := one_of dv
  obtain ⟨_, _, ho, h1, ws, rfl, z1⟩ := r.ob a _ hM
  obtain ⟨b, us, rfl, h2, z2⟩ := asP_at r z hy
  exact ⟨a, b, ws, us, rfl, rfl, h1, h2, by rw [z1.len, z2.len]; exact hz, o _ _ _ _ _ (Same.refl F) (r.wr hM (m := .lst (l ++ zs)) ⟨_, rfl, z1.app z2⟩) .non q⟩
theorem DRs.erase {K : PySem.W.Frag} {F : Hp} : ∀ {vs : List V} {ds : List D} (i : Nat), DRs K F vs ds → DRs K F (vs.eraseIdx i) (ds.eraseIdx i)
  | _, [], i, h => by cases h; exact .nil
  | _, d :: ds, 0, h => by
    cases h with
    | cons a r => exact r
  | _, d :: ds, i + 1, h => by
    cases h with
    | cons a r => exact .cons a (DRs.erase i r)
theorem i_pop : ∀ F M G H a ds vs Q' Q, Rel X.K F M G H → DRs X.K F vs ds → rPopI a ds M Q' → OutE X.K F G Q' Q → rPopAt (.ref a) vs H Q := fun F M G H a ds vs Q' Q r dv ⟨i, l, k, y, e, hM, b1, b2, hk, hy, q⟩ o => by
  subst e
  obtain ⟨v, rfl, z⟩ := one_of dv
  cases z
  obtain ⟨_, _, ho, h1, ws, rfl, z1⟩ := r.ob a _ hM
  obtain ⟨w, hw, dw⟩ := z1.geti hy
  exact ⟨a, ws, i, k, w, rfl, rfl, h1, by omega, by omega, by rw [z1.len]; exact hk, hw, o _ _ _ _ _ (Same.refl F) (r.wr hM (m := .lst (l.eraseIdx k)) ⟨_, rfl, z1.erase k⟩) dw q⟩
theorem v_append {apos : Pos} {o : Expr} {to : VTE} (ho : VE X o to) (ha : VA X (e :: es) t)
    (hbase : attributeBase o "append" X.env (eval o X.env) = eval o X.env := by rfl)
    (hfew : ((backTo pos (starEach (e :: es) X.env)).all (fun x => !x.1) && (backToKw pos (keywordEach [] X.env)).all (fun x => x.1.isSome)
      && decide ((e :: es).length + ([] : List Keyword).length + (if ([] : List Keyword).isEmpty then 0 else 1) < 30)) = true := by rfl)
    (hline : (apos.endLine == pos.line) = true := by rfl) (hs : starEach (e :: es) X.env = (false, eval e X.env) :: starEach es X.env := by rfl) (hplain : (backTo pos (starEach es X.env)).any (·.1) = false := by rfl) :
    VE X (.Call (.Attribute o "append" apos) (e :: es) [] pos) (vMtL rApp to t) := v_mtL mt_append PySem.F.slot_list_append PySem.F.type_list_append i_app ho ha hbase hfew hline hs hplain
theorem v_extend {apos : Pos} {o : Expr} {to : VTE} (ho : VE X o to) (ha : VA X (e :: es) t)
    (hbase : attributeBase o "extend" X.env (eval o X.env) = eval o X.env := by rfl)
    (hfew : ((backTo pos (starEach (e :: es) X.env)).all (fun x => !x.1) && (backToKw pos (keywordEach [] X.env)).all (fun x => x.1.isSome)
      && decide ((e :: es).length + ([] : List Keyword).length + (if ([] : List Keyword).isEmpty then 0 else 1) < 30)) = true := by rfl)
    (hline : (apos.endLine == pos.line) = true := by rfl) (hs : starEach (e :: es) X.env = (false, eval e X.env) :: starEach es X.env := by rfl) (hplain : (backTo pos (starEach es X.env)).any (·.1) = false := by rfl) :
    VE X (.Call (.Attribute o "extend" apos) (e :: es) [] pos) (vMtL rExt to t) := v_mtL mt_extend PySem.F.slot_list_extend PySem.F.type_list_extend i_ext ho ha hbase hfew hline hs hplain
theorem v_popI {apos : Pos} {o : Expr} {to : VTE} (ho : VE X o to) (ha : VA X (e :: es) t)
    (hbase : attributeBase o "pop" X.env (eval o X.env) = eval o X.env := by rfl)
    (hfew : ((backTo pos (starEach (e :: es) X.env)).all (fun x => !x.1) && (backToKw pos (keywordEach [] X.env)).all (fun x => x.1.isSome)
      && decide ((e :: es).length + ([] : List Keyword).length + (if ([] : List Keyword).isEmpty then 0 else 1) < 30)) = true := by rfl)
    (hline : (apos.endLine == pos.line) = true := by rfl) (hs : starEach (e :: es) X.env = (false, eval e X.env) :: starEach es X.env := by rfl) (hplain : (backTo pos (starEach es X.env)).any (·.1) = false := by rfl) :
    VE X (.Call (.Attribute o "pop" apos) (e :: es) [] pos) (vMtL rPopI to t) := v_mtL mt_popAt PySem.F.slot_list_pop PySem.F.type_list_pop i_pop ho ha hbase hfew hline hs hplain

def zipD (xs ys : List D) : List D := (xs.zip ys).map fun p => .tup [p.1, p.2]
theorem zipD_len {xs ys : List D} : (zipD xs ys).length = min xs.length ys.length := by simp [zipD]
theorem zipD_get {xs ys : List D} {i : Nat} {x y : D} (h1 : xs[i]? = some x) (h2 : ys[i]? = some y) : (zipD xs ys)[i]? = some (.tup [x, y]) := by
  simp [zipD, List.getElem?_zip_eq_some, h1, h2]
def enD (xs : List D) : List D := (List.range xs.length).map fun i => .tup [.int (i : Nat), xs.getD i .non]
theorem enD_len {xs : List D} : (enD xs).length = xs.length := by simp [enD]
theorem enD_get {xs : List D} {i : Nat} {x : D} (h : xs[i]? = some x) : (enD xs)[i]? = some (.tup [.int (i : Nat), x]) := by
  have hl : i < xs.length := by
    rcases Nat.lt_or_ge i xs.length with h1 | h1
    · exact h1
    · rw [List.getElem?_eq_none h1] at h; cases h
  simp only [enD, List.getElem?_map, List.getElem?_range hl, Option.map_some, List.getD, h, Option.getD_some]
theorem pair_new {K : PySem.W.Frag} {F1 : Hp} {M : Mem} {G H : Hp} {T : Addr} {x y : V} {dx dy : D} (r : Rel K F1 M G H) (hT : H T = none) (h1 : DR K F1 x dx) (h2 : DR K F1 y dy) :
    ∃ F2, Same F1 F2 ∧ Rel K F2 M G (upd H T (.tup [x, y])) ∧ DR K F2 (.ref T) (.tup [dx, dy]) := by
  have s := r.sF (o := .tup [x, y]) hT
  exact ⟨_, s, r.newF hT, .tup (SqT.of upd_same) (.cons (h1.up s) (.cons (h2.up s) .nil))⟩
@[simp] def iZp (t : VTA) : VTI := fun e M R => t e M fun ds M1 => ∃ x y xs ys, ds = [x, y] ∧
  ((asL M1 x = some xs ∧ asL M1 y = some ys ∧ R ⟨zipD xs ys, fun M' => asL M' x = some xs ∧ asL M' y = some ys⟩ M1) ∨ (x = .tup xs ∧ y = .tup ys ∧ R ⟨zipD xs ys, fun _ => True⟩ M1))
theorem walk_zipL {K : PySem.W.Frag} {F G0 H0 : Hp} {M0 : Mem} {x y : D} {u v : V} {a b : Addr} {xs ys : List D} (r0 : Rel K F M0 G0 H0) (hx : DR K F (.ref a) x) (hy : DR K F (.ref b) y) : VWalk K F (Itz K a b) ⟨zipD xs ys, fun M' => asL M' x = some xs ∧ asL M' y = some ys⟩ := by
  have at2 : ∀ F1 G H M, Same F F1 → Rel K F1 M G H → asL M x = some xs ∧ asL M y = some ys → ∃ us vs, SqL K H a us ∧ SqL K H b vs ∧ DRs K F1 us xs ∧ DRs K F1 vs ys := fun F1 G H M s r ok => by
    obtain ⟨a', us, e, h1, z1⟩ := asL_at r (hx.up s) ok.1
    obtain ⟨b', vs, e2, h2, z2⟩ := asL_at r (hy.up s) ok.2
    cases e; cases e2
    exact ⟨us, vs, h1, h2, z1, z2⟩
  refine ⟨fun i H F1 G M s r ok hi => ?_, fun H F1 G M s r ok => ?_, fun i H v H' F1 G M s r ok hi yd => ?_⟩
  · obtain ⟨us, vs, h1, h2, z1, z2⟩ := at2 F1 G H M s r ok
    have hi' : i < min us.length vs.length := by rw [z1.len, z2.len, ← zipD_len]; exact hi
    have l1 : i < us.length := by omega
    have l2 : i < vs.length := by omega
    exact ⟨us, vs, us[i], vs[i], h1, h2, by simp [l1], by simp [l2]⟩
  · obtain ⟨us, vs, h1, h2, z1, z2⟩ := at2 F1 G H M s r ok
    have e : (zipD xs ys).length = min us.length vs.length := by rw [z1.len, z2.len, zipD_len]
    exact ⟨us, vs, h1, h2, by rw [show (VIt.mk (zipD xs ys) _).ds = zipD xs ys from rfl, e]; omega⟩
  · obtain ⟨us, vs, h1, h2, z1, z2⟩ := at2 F1 G H M s r ok
    obtain ⟨T, p, q, rfl, hT, rfl, k1, k2⟩ := yd
    obtain ⟨dx, e1, d1⟩ := z1.get (k1 us h1)
    obtain ⟨dy, e2, d2⟩ := z2.get (k2 vs h2)
    obtain ⟨F2, s2, r2, d3⟩ := pair_new r hT d1 d2
    exact ⟨F2, _, s2, r2, zipD_get e1 e2, d3⟩
theorem walk_zipT {K : PySem.W.Frag} {F : Hp} {a b : Addr} {us vs : List V} {xs ys : List D} (hx : SqT K F a us) (hy : SqT K F b vs) (z1 : DRs K F us xs) (z2 : DRs K F vs ys) : VWalk K F (RZ.ItzT K a b) ⟨zipD xs ys, fun _ => True⟩ := by
  refine ⟨fun i H F1 G M s r ok hi => ?_, fun H F1 G M s r ok => ?_, fun i H v H' F1 G M s r ok hi yd => ?_⟩
  · have hi' : i < min us.length vs.length := by rw [z1.len, z2.len, ← zipD_len]; exact hi
    have l1 : i < us.length := by omega
    have l2 : i < vs.length := by omega
    exact ⟨us, vs, us[i], vs[i], same_tup r.sub (same_tup s hx), same_tup r.sub (same_tup s hy), by simp [l1], by simp [l2]⟩
  · have e : (zipD xs ys).length = min us.length vs.length := by rw [z1.len, z2.len, zipD_len]
    exact ⟨us, vs, same_tup r.sub (same_tup s hx), same_tup r.sub (same_tup s hy), by rw [show (VIt.mk (zipD xs ys) _).ds = zipD xs ys from rfl, e]; omega⟩
  · obtain ⟨T, p, q, rfl, hT, rfl, k1, k2⟩ := yd
    obtain ⟨dx, e1, d1⟩ := (z1.up s).get (k1 us (same_tup r.sub (same_tup s hx)))
    obtain ⟨dy, e2, d2⟩ := (z2.up s).get (k2 vs (same_tup r.sub (same_tup s hy)))
    obtain ⟨F2, s2, r2, d3⟩ := pair_new r hT d1 d2
    exact ⟨F2, _, s2, r2, zipD_get e1 e2, d3⟩
theorem two_of {K : PySem.W.Frag} {F : Hp} {xs : List V} {x y : D} (h : DRs K F xs [x, y]) : ∃ v u, xs = [v, u] ∧ DR K F v x ∧ DR K F u y := by
  cases h with
  | cons a b =>
    obtain ⟨u, rfl, z⟩ := one_of b
    exact ⟨_, u, rfl, a, z⟩
theorem vi_zip {elts : List Expr} {kk : Nat} {tpos : Pos} (hm : X.mg "zip" = none) (ha : VA X [a, b] t) (hg : Gl X "zip" := by rfl)
    (hs : starEach [a, b] X.env = (false, eval a X.env) :: starEach [b] X.env := by rfl) (hpl : (backTo pos (starEach [b] X.env)).any (·.1) = false := by rfl) : VI X (.Tuple elts kk tpos) (.Call (.Name "zip" p) [a, b] [] pos) (iZp t) :=
  PI_imp (RZ.pi_zipA hg hm ha hs hpl) fun σ H R ⟨F, M, G, e, R', hs, hr, q, o⟩ => ⟨F, M, G, e, _, hs, hr, q, fun vs H1 F1 M1 ds s1 r1 d1 ⟨x, y, xs, ys, ed, q1⟩ => by
    subst ed
    obtain ⟨v, u, rfl, z1, z2⟩ := two_of d1
    rcases q1 with ⟨e1, e2, q1⟩ | ⟨rfl, rfl, q1⟩
    · obtain ⟨p1, w1, rfl, h1, y1⟩ := asL_at r1 z1 e1
      obtain ⟨p2, w2, rfl, h2, y2⟩ := asL_at r1 z2 e2
      exact ⟨p1, p2, w1, w2, rfl, .inl ⟨h1, h2, o _ _ H1 F1 M1 s1 r1 (walk_zipL (u := .non) (v := .non) r1 z1 z2) q1⟩⟩
    · cases z1 with
      | tup h1 y1 =>
        cases z2 with
        | tup h2 y2 => exact ⟨_, _, _, _, rfl, .inr ⟨same_tup r1.sub h1, same_tup r1.sub h2, o _ _ H1 F1 M1 s1 r1 (walk_zipT h1 h2 y1 y2) q1⟩⟩⟩
@[simp] def iEn (t : VTA) : VTI := fun e M R => t e M fun ds M1 => ∃ x xs, ds = [x] ∧ asL M1 x = some xs ∧ R ⟨enD xs, fun M' => asL M' x = some xs⟩ M1
theorem walk_en {K : PySem.W.Frag} {F : Hp} {x : D} {a : Addr} {xs : List D} (hx : DR K F (.ref a) x) : VWalk K F (Ite K a) ⟨enD xs, fun M' => asL M' x = some xs⟩ := by
  have at1 : ∀ F1 G H M, Same F F1 → Rel K F1 M G H → asL M x = some xs → ∃ us, SqL K H a us ∧ DRs K F1 us xs := fun F1 G H M s r ok => by
    obtain ⟨a', us, e, h1, z1⟩ := asL_at r (hx.up s) ok
    cases e
    exact ⟨us, h1, z1⟩
  refine ⟨fun i H F1 G M s r ok hi => ?_, fun H F1 G M s r ok => ?_, fun i H v H' F1 G M s r ok hi yd => ?_⟩
  · obtain ⟨us, h1, z1⟩ := at1 F1 G H M s r ok
    have l1 : i < us.length := by rw [z1.len, ← enD_len]; exact hi
    exact ⟨us, us[i], h1, by simp [l1]⟩
  · obtain ⟨us, h1, z1⟩ := at1 F1 G H M s r ok
    exact ⟨us, h1, by rw [z1.len, show (VIt.mk (enD xs) _).ds = enD xs from rfl, enD_len]; exact Nat.le_refl _⟩
  · obtain ⟨us, h1, z1⟩ := at1 F1 G H M s r ok
    obtain ⟨T, p, rfl, hT, rfl, k1⟩ := yd
    obtain ⟨dx, e1, d1⟩ := z1.get (k1 us h1)
    obtain ⟨F2, s2, r2, d3⟩ := pair_new r hT (.int _) d1
    exact ⟨F2, _, s2, r2, enD_get e1, d3⟩
theorem vi_enum {elts : List Expr} {kk : Nat} {tpos : Pos} (hm : X.mg "enumerate" = none) (ha : VA X [a] t) (hg : Gl X "enumerate" := by rfl) (hs : starEach [a] X.env = [(false, eval a X.env)] := by rfl) : VI X (.Tuple elts kk tpos) (.Call (.Name "enumerate" p) [a] [] pos) (iEn t) :=
  PI_imp (pi_enum hg hm ha hs) fun σ H R ⟨F, M, G, e, R', hs, hr, q, o⟩ => ⟨F, M, G, e, _, hs, hr, q, fun vs H1 F1 M1 ds s1 r1 d1 ⟨x, xs, ed, e1, q1⟩ => by
    subst ed
    obtain ⟨v, rfl, z1⟩ := one_of d1
    obtain ⟨p1, w1, rfl, h1, y1⟩ := asL_at r1 z1 e1
    exact ⟨p1, w1, rfl, h1, o _ _ H1 F1 M1 s1 r1 (walk_en z1) q1⟩⟩

theorem drs_rg {K : PySem.W.Frag} {F : Hp} (a b : Int) : DRs K F (rgV a b) (rgD a (b - a).toNat) := by
  unfold rgV rgD
  induction List.range (b - a).toNat with
  | nil => exact .nil
  | cons x xs ih => exact .cons (.int _) ih
@[simp] def vLstRg1 (te : VTE) : VTE := fun e M Q => te e M fun x M1 => ∃ n, x = .int n ∧ -4611686018427387904 ≤ n ∧ n ≤ 16777216 ∧ Q (.lst (rgD 0 n.toNat)) M1
theorem v_listRg1 {p2 pos2 : Pos} (hc : X.calm = true) (hm : X.mg "list" = none) (hr : X.mg "range" = none) (ha : VE X a ta) (hg : Gl X "list" := by rfl) (hg2 : Gl X "range" := by rfl)
    (na : starEach [a] X.env = (false, eval a X.env) :: starEach [] X.env := by rfl) (ne : starEach [.Call (.Name "range" p2) [a] [] pos2] X.env = (false, eval (.Call (.Name "range" p2) [a] [] pos2) X.env) :: starEach [] X.env := by rfl) :
    VE X (.Call (.Name "list" p) [.Call (.Name "range" p2) [a] [] pos2] [] pos) (vLstRg1 ta) :=
  v_pe (pe_listRg hc hg hm (prg_1 hg2 hr ha na) ne) fun F M G σ H e Q' Q hs hr q o => ⟨F, M, G, e, _, hs, hr, q, fun v H1 F1 M1 d s1 r1 d1 ⟨n, ed, b1, b2, q1⟩ => by
    subst ed
    cases d1
    refine ⟨n, rfl, ⟨by omega, by omega, by omega, by omega, by omega⟩, fun p hp => ?_⟩
    have q2 : Q' (.lst (rgD 0 (n - 0).toNat)) M1 := by rw [Int.sub_zero]; exact q1
    exact (o.up s1).newL r1 (drs_rg 0 n) q2 p hp⟩

def oLtD : VR2 := fun x y M Q => Sh 30 x ∧ Sh 30 y ∧ PySem.W.alike (py x) (py y) = true ∧ py x ≠ .none ∧ Q (.bl (PySem.W.dataLt (py x) (py y))) M
theorem o_ltD {k : Nat} (hr : Room k X.A) : OpR X (compareOp .Lt) (l2 X.K oLtD) := fun pins s σ H x y v u Q I rx ry ⟨F, M, G, a, b, Q', r, da, db, ⟨s1, s2, hal, hn, q⟩, o⟩ => by
  obtain ⟨as, r1⟩ := Dp.reads I _ _ _ (DR.dp r.sub a x (sh_noObj 30 a s1) da) rx
  obtain ⟨bs, r2⟩ := Dp.reads I _ _ _ (DR.dp r.sub b y (sh_noObj 30 b s2) db) ry
  refine PySem.W.lt_data r1 r2 hal hn ?_ ⟨.bl _, H, I, rfl, o _ H F M _ (Same.refl F) r (.bl _) q⟩
  have h1 := (sh_py 30 a s1).2
  have h2 := hu64 hr
  have h3 : min (py a).depth (py b).depth ≤ (py a).depth := Nat.min_le_left _ _
  omega
end
section
open PyProof.Rows PySem.W
theorem sorted_seq {prog : Program} {w : World} {A : Around} {E : Value → Shared → Prop} {s : Shared} {β : Type} {vs : List Value} {bs : List β} {enc : β → PyData} {R : Value → β → Prop} {l : Addr} {Q : Value → Shared → Prop} {T : String} {o : Obj} {n : Nat} (hT : T = "list" ∨ T = "tuple")
    (ho : s.heap.get? l = some o) (hc : o.cls = .type T) (hd : o.data = .seq vs.toArray n) (e : EachIs R vs bs) (er : EachIs (fun v b => ∃ as, Reads s.heap v (enc b) as) vs bs) (hal : AllAlike (bs.map enc)) (hk : Sortable (bs.map enc)) (hL : bs.length ≤ sizeLine)
    (hu : ∀ b, b ∈ bs → A.units + 2 + (enc b).depth < cLine)
    (h : ∀ (h' f : Heap) (out : List Value), (∀ b o, s.heap.get? b = some o → h'.get? b = some o) → (∀ b o, h'.get? b = some o → f.get? b = some o) → (∃ ep, f.get? h'.objs.size = some (seqObj "list" out.toArray ep)) → EachIs R out (bs.mergeSort (dataLe false enc)) → Q (.ref h'.objs.size) { s with heap := f }) :
    wpAny (model prog w) A (call (.builtin "sorted") [.ref l]) Q E s := by
  have hL' : vs.length ≤ sizeLine := by rw [e.length]; exact hL
  refine call_function_entry_kw kind_sorted plain_sorted entry_sorted (args_sorted1 _) ?_
  unfold Builtin.«sorted»
  refine wpAny_bind (m := checkCount "sorted" 1 1 _) (wpAny_pure ?_)
  refine wpAny_bind (wpAny_collect_seq l hT ho hc hd (fun h' keep => ?_) (by rw [List.size_toArray]; exact hL'))
  refine wpAny_bind (wpAny_newList ?_ hL')
  have at2 : (h'.push (seqObj "list" vs.toArray 0)).get? h'.objs.size = some (seqObj "list" vs.toArray 0) := Heap.get?_push_size _ rfl
  have er' : EachIs (fun v b => ∃ as, Reads (sortingHeap (h'.push (seqObj "list" vs.toArray 0)) h'.objs.size vs) v (enc b) as) vs bs := er.mono fun _ _ ⟨as, r⟩ => ⟨as, PyProof.Rows.Reads.keeps (fun b o q => sortingHeap_old (Nat.ne_of_lt (Heap.lt_size (keep b o q))) (Heap.get?_push_of_some _ (keep b o q))) r⟩
  refine wpAny_bind (wpAny_holding (wpAny_call_entry_kw slot_list_sort ⟨_, at2, rfl⟩ entry_list_sort ?body (args_list_sort _)))
  case body =>
    refine list_sort_vals (κ := dataKind (sortingHeap (h'.push (seqObj "list" vs.toArray 0)) h'.objs.size vs) (bs.map enc)) (s := { s with heap := h'.push (seqObj "list" vs.toArray 0) }) at2 (SortsAt.data (s := { s with heap := sortingHeap (h'.push (seqObj "list" vs.toArray 0)) h'.objs.size vs }) (each_map (R := fun v d => ∃ as, Reads (sortingHeap (h'.push (seqObj "list" vs.toArray 0)) h'.objs.size vs) v d as) enc er') hal hk (bound_map hu)) hL' ⟨_, rfl, wpAny_pure ⟨_, rfl, ?_⟩⟩
    exact h h' _ _ keep (fun b o q => by rw [sortedHeap_old (Nat.ne_of_lt (Heap.lt_size q)) (by rw [size_push']; exact Nat.lt_succ_of_lt (Heap.lt_size q))]; exact Heap.get?_push_of_some _ q) (sortedHeap_at at2) (sortVals_data false e er' hal)
end
section
variable {X : Cx}
/-- sorted of alike data -/
def rSortD : VRs
  | [x], M, Q => ∃ ds, asI M x = some ds ∧ (∀ d ∈ ds, Sh 30 d) ∧ PySem.W.AllAlike (ds.map py) ∧ PySem.W.Sortable (ds.map py) ∧ ds.length ≤ sizeLine ∧ Q (.lst (ds.mergeSort (PySem.W.dataLe false py))) M
  | _, _, _ => False
theorem each_of {K : PySem.W.Frag} {F : Hp} : ∀ {ds : List D} {vs : List V} {us : List Value}, Vals vs us → DRs K F vs ds → PySem.W.EachIs (fun u (p : V × D) => RelV p.1 u ∧ DR K F p.1 p.2) us (vs.zip ds)
  | [], _, _, r, h => by cases h; cases r; exact .nil
  | d :: ds, _, _, r, h => by
    cases h with
    | cons a b =>
      cases r with
      | cons r1 r2 => exact .cons ⟨r1, a⟩ (each_of r2 b)
theorem of_each {K : PySem.W.Frag} {F : Hp} : ∀ {ps : List (V × D)} {us : List Value}, PySem.W.EachIs (fun u (p : V × D) => RelV p.1 u ∧ DR K F p.1 p.2) us ps → Vals (ps.map (·.1)) us ∧ DRs K F (ps.map (·.1)) (ps.map (·.2))
  | [], _, h => by cases h; exact ⟨.nil, .nil⟩
  | p :: ps, _, h => by
    cases h with
    | cons a b =>
      obtain ⟨h1, h2⟩ := of_each b
      exact ⟨.cons a.1 h1, .cons a.2 h2⟩
theorem DRs.zip2 {K : PySem.W.Frag} {F : Hp} : ∀ {ds : List D} {vs : List V}, DRs K F vs ds → (vs.zip ds).map (·.2) = ds
  | [], _, h => by cases h; rfl
  | d :: ds, _, h => by
    cases h with
    | cons a b => rw [List.zip_cons_cons, List.map_cons, DRs.zip2 b]
theorem c_sortD {k : Nat} (hr : Room k X.A) : CallR X (.builtin "sorted") (ls X.K rSortD) := by
  intro pins s σ H vs us Q I r ⟨F, M, G, ds, Q', rel, dv, q, o⟩
  unfold rSortD at q
  split at q
  · obtain ⟨v, rfl, z⟩ := one_of dv
    obtain ⟨xs, e, sh, al, so, hL, q⟩ := q
    obtain ⟨u, rfl, ru⟩ := r.one
    obtain ⟨a, ws, rfl, z2, hh⟩ := asI_at rel z e
    cases ru
    have hu := hu64 hr
    have fin : ∀ {T : String} {ob : Obj} {n : Nat} {its : List Value}, (T = "list" ∨ T = "tuple") → s.heap.get? a = some ob → ob.cls = .type T → ob.data = .seq its.toArray n → Vals ws its → wpAny (model X.prog X.w) X.A (call (.builtin "sorted") [.ref a]) (EP X pins σ Q) X.xe s := fun {T ob n its} hT ho hc hd rv => by
      have em : (ws.zip xs).map (fun p => py p.2) = xs.map py := by
        have := congrArg (List.map py) z2.zip2
        rw [List.map_map] at this
        exact this
      refine sorted_seq (R := fun u (p : V × D) => RelV p.1 u ∧ DR X.K F p.1 p.2) (bs := ws.zip xs) (enc := fun p => py p.2) hT ho hc hd (each_of rv z2) ?_ (by rw [em]; exact al) (by rw [em]; exact so) (by rw [List.length_zip, z2.len, Nat.min_self]; exact hL) (fun b hb => ?_) fun h' f out k1 k2 ⟨ep, h3⟩ eo => ?_
      · refine (PySem.W.each_mem (each_of rv z2)).mono fun u p ⟨⟨h1, h2⟩, hp⟩ => ?_
        exact Dp.reads I _ _ _ (DR.dp rel.sub p.2 p.1 (sh_noObj 30 p.2 (sh p.2 (List.of_mem_zip (show (p.1, p.2) ∈ ws.zip xs from hp)).2)) h2) h1
      · have := (sh_py 30 b.2 (sh b.2 (List.of_mem_zip (show (b.1, b.2) ∈ ws.zip xs from hb)).2)).2
        show X.A.units + 2 + (py b.2).depth < cLine
        omega
      · obtain ⟨v1, d1⟩ := of_each eo
        have e3 : ((ws.zip xs).mergeSort (PySem.W.dataLe false fun p => py p.2)).map (·.2) = xs.mergeSort (PySem.W.dataLe false py) := by
          have z := List.map_mergeSort (f := fun (p : V × D) => p.2) (r := PySem.W.dataLe false fun (p : V × D) => py p.2) (s := PySem.W.dataLe false py) (l := ws.zip xs) (fun a _ b _ => rfl)
          rw [z2.zip2] at z
          exact z
        rw [e3] at d1
        have I1 : Inv X pins σ H { s with heap := h' } := I.kept (t' := s.toks) k1
        have hp : H h'.objs.size = none := I1.hok.fresh (Nat.le_refl _)
        refine ⟨.ref h'.objs.size, upd H h'.objs.size (.lst _), I1.laid (t' := s.toks) k2 (Nat.le_refl _) ⟨?_, out, ep, v1, h3⟩, rfl, o.newL rel d1 q _ hp⟩
        rw [List.length_map, List.length_mergeSort, List.length_zip, z2.len, Nat.min_self]
        exact hL
    rcases hh with hl | ⟨ht, _⟩
    · obtain ⟨its, rv, pl, hz⟩ := I.list hl
      obtain ⟨ob, h1, h2, n, h3⟩ := pl.isList
      exact fin (.inl rfl) h1 h2 h3 rv
    · obtain ⟨its, rv, pl, hz⟩ := I.tuple ht
      obtain ⟨ob, h1, h2, n, h3⟩ := pl
      exact fin (.inr rfl) h1 h2 h3 rv
  · exact q.elim
end
end VL
namespace VL
open PySem PySem.Spec L2
open PyProof.Rows (envOfC)

/-- x names this def -/
structure Df (K : PySem.W.Frag) (mg : Str → Option Value) (x : Str) (st : Stmt) : Prop where
  ex : ∃ f fd, mg x = some (.ref f) ∧ FunD K x x (defArgs st) (defBody st) (defScope st) [] [] f fd
/-- x names a def that keeps its promise -/
structure Kn (P : Program) (w : World) (K : PySem.W.Frag) (mg : Str → Option Value) (base : Heap) (k : Nat) (x : Str) (ps : List Str) (φ : VSp) : Prop where
  ex : ∃ f fd, mg x = some (.ref f) ∧ PySem.W.keepIn K (.ref f) = true ∧ Binds K fd ps [] ∧ (∀ (s : Shared) (us : List Value), us.length = ps.length → BindsTo s fd ⟨us, []⟩ (ps.zip us)) ∧ (∃ oc od osl, K.lookup f = some ⟨oc, od, .func fd, osl⟩) ∧ FnG P w K mg base CX0 k f fd ps (lSp K φ)
theorem kn_of {P : Program} {w : World} {K : PySem.W.Frag} {mg : Str → Option Value} {base : Heap} {x : Str} {st : Stmt} {N ps : List Str} {k : Nat} {φ : VSp} (hD : Df K mg x st) (S : FnScope N ps (defScope st))
    (hb : ∀ (kV doc pm : Value) (an : Option Addr) (cdv ct : Value) (us : List Value), us.length = ps.length → bindArgs (PySem.W.fnOf x x (defArgs st) (defBody st) (defScope st) .none kV doc pm an cdv ct) ⟨us, []⟩ = pure (ps.zip us))
    (len : ∀ ds M Q, φ ds M Q → ds.length = ps.length)
    (hbody : ∀ (f : Addr) (cdv : Value) (A : Around) (outer : List Env) (s : Shared) (H : Hp) (E : XK), RmG k (A.deeper (envOfC x (defScope st) s.heap.objs.size f cdv)) →
      ∃ t, VSs (cxOf CX0 P w K mg base N x (defScope st) f cdv A outer s H E).nox (defBody st) t ∧ ∀ ds M Q, φ ds M Q → t { nx := fun _ M' => Q .non M', rt := Q } (vstart N.length ds) M) : Kn P w K mg base (k + 1) x ps φ := by
  obtain ⟨f, fd, hm, F⟩ := hD.ex
  have lk : ∃ oc od osl, K.lookup f = some ⟨oc, od, .func fd, osl⟩ := by
    obtain ⟨oc, od, dV, kV, doc, pm, an, cdv, ct, osl, rfl, lk, hcd, _, _⟩ := F.ex
    exact ⟨oc, od, osl, lk⟩
  exact ⟨f, fd, hm, F.kp, F.bindsN hb, FunD.bindsA F hb, lk, okG F S len fun cdv A outer s H E hr => hbody f cdv A outer s H E hr⟩
theorem kn_ofD {P : Program} {w : World} {K : PySem.W.Frag} {mg : Str → Option Value} {base : Heap} {x : Str} {st : Stmt} {N ps : List Str} {k : Nat} {φ : VSp} (hD : Df K mg x st) (S : FnScope N ps (defScope st))
    (hb : ∀ (kV doc pm : Value) (an : Option Addr) (cdv ct : Value) (us : List Value), us.length = ps.length → bindArgs (PySem.W.fnOf x x (defArgs st) (defBody st) (defScope st) .none kV doc pm an cdv ct) ⟨us, []⟩ = pure (ps.zip us))
    (len : ∀ ds M Q, φ ds M Q → ds.length = ps.length)
    (hbody : ∀ (f : Addr) (cdv : Value) (A : Around) (outer : List Env) (s : Shared) (H : Hp) (E : XK), RmG k (A.deeper (envOfC x (defScope st) s.heap.objs.size f cdv)) →
      ∃ t, VSs (cxOf CX0 P w K mg base N x (defScope st) f cdv A outer s H E).nox (defBody st) t ∧ ∀ ds M Q, φ ds M Q → t { nx := fun _ M' => ∃ M'', Sub M'' M' ∧ Q .non M'', rt := fun d M' => ∃ M'', Sub M'' M' ∧ Q d M'' } (vstart N.length ds) M) : Kn P w K mg base (k + 1) x ps φ := by
  obtain ⟨f, fd, hm, F⟩ := hD.ex
  have lk : ∃ oc od osl, K.lookup f = some ⟨oc, od, .func fd, osl⟩ := by
    obtain ⟨oc, od, dV, kV, doc, pm, an, cdv, ct, osl, rfl, lk, hcd, _, _⟩ := F.ex
    exact ⟨oc, od, osl, lk⟩
  exact ⟨f, fd, hm, F.kp, F.bindsN hb, FunD.bindsA F hb, lk, okGD F S len fun cdv A outer s H E hr => hbody f cdv A outer s H E hr⟩
theorem Kn.imp {P : Program} {w : World} {K : PySem.W.Frag} {mg : Str → Option Value} {base : Heap} {k : Nat} {x : Str} {ps : List Str} {φ ψ : VSp} (h : Kn P w K mg base k x ps φ) (i : ∀ ds M Q, ψ ds M Q → φ ds M Q) : Kn P w K mg base k x ps ψ := by
  obtain ⟨f, fd, hm, kp, b1, b2, lk, F⟩ := h.ex
  refine ⟨f, fd, hm, kp, b1, b2, lk, ⟨fun vs H Q E ⟨F', M, G, ds, Q', dv, r, q, o⟩ => F.len vs H Q E ⟨F', M, G, ds, Q', dv, r, i _ _ _ q, o⟩, fun A outer s H args us vs Q E hr e0 bt rv ⟨F', M, G, ds, Q', dv, r, q, o⟩ => F.run A outer s H args us vs Q E hr e0 bt rv ⟨F', M, G, ds, Q', dv, r, i _ _ _ q, o⟩⟩⟩
section
variable {X : Cx} {e : Expr} {es : List Expr} {t : VTA} {pos p : Pos} {x : Str} {j k : Nat} {ps : List Str} {φ : VSp}
theorem v_callK (F : Kn X.prog X.w X.K X.mg X.base j x ps φ) (hr : RmG k X.A) (ha : VA X (e :: es) t) (hk : j ≤ k := by decide) (hg : Gl X x := by rfl)
    (hdb : (x == ("__debug__" : Str)) = false := by decide) (he : starEach (e :: es) X.env = (false, eval e X.env) :: starEach es X.env := by rfl) (hpl : (backTo pos (starEach es X.env)).any (·.1) = false := by rfl) :
    VE X (.Call (.Name x p) (e :: es) [] pos) (vFn φ t) := by
  obtain ⟨f, fd, hm, kp, b1, b2, lk, F⟩ := F.ex
  exact v_call (F.mono hk) hr hm kp b1 ha hg hdb he hpl
end
def pr1 (f : D → Mem → VK → Prop) : VSp := fun ds M Q => ∃ a, ds = [a] ∧ f a M Q
def pr2 (f : D → D → Mem → VK → Prop) : VSp := fun ds M Q => ∃ a b, ds = [a, b] ∧ f a b M Q
def pr3 (f : D → D → D → Mem → VK → Prop) : VSp := fun ds M Q => ∃ a b c, ds = [a, b, c] ∧ f a b c M Q
theorem pr1_len {f : D → Mem → VK → Prop} {x : Str} : ∀ ds M Q, pr1 f ds M Q → ds.length = [x].length := fun ds M Q ⟨a, e, _⟩ => by rw [e] <;> rfl
theorem pr2_len {f : D → D → Mem → VK → Prop} {x y : Str} : ∀ ds M Q, pr2 f ds M Q → ds.length = [x, y].length := fun ds M Q ⟨a, b, e, _⟩ => by rw [e] <;> rfl
theorem pr3_len {f : D → D → D → Mem → VK → Prop} {x y z : Str} : ∀ ds M Q, pr3 f ds M Q → ds.length = [x, y, z].length := fun ds M Q ⟨a, b, c, e, _⟩ => by rw [e] <;> rfl
/-- names that are built-ins -/
def Fr (mg : Str → Option Value) (bl : List Str) : Prop := ∀ x ∈ bl, mg x = none

theorem walk_K {l : PySem.W.OpenLaw} {n k : Nat} {q : Program} {loose : List Str} {XP : (Str → Option Value) → Heap → Prop} {YP : World → Heap → Prop} {d : DefRec} {x : Str} {φ : VSp}
    (most : l.most = some n) (short : n ≤ sizeLine) (nodef : d.params.defaults = []) (room : Room k callerA) (hφ : ∀ (ns : List Int), ns.length ≤ n → ∀ M : Mem, φ [.rd (ns.map D.int)] M fun d _ => d = .bl true)
    (F : ∀ (w : World) (mg : Str → Option Value) (h : Heap), YP w h → h.Ns mainGlobals mg → ∃ (K : PySem.W.Frag), K.In h ∧ ∀ base : Heap, K.In base → base.Ns mainGlobals mg → Kn l.prog w K mg base k d.name [x] φ) :
    PySem.W.WalkO q loose XP YP l.row.toRowW d [] (fun f vs => PySem.call f vs) :=
  walk_G most short nodef room fun w mg fa h Y G hmg => by
    obtain ⟨K, KX, hK⟩ := F w mg h Y G
    obtain ⟨f, fd, hm, kp, b1, b2, ⟨oc, od, osl, lk⟩, _⟩ := (hK h KX G).ex
    rw [hmg] at hm
    cases hm
    refine ⟨K, fd, φ, KX, fun s u => b2 s [u] rfl, hφ, fun base hb hG => ?_⟩
    obtain ⟨f', fd', hm', kp', b1', b2', ⟨oc', od', osl', lk'⟩, F'⟩ := (hK base hb hG).ex
    rw [hmg] at hm'
    cases hm'
    rw [lk] at lk'
    cases lk'
    exact F'
end VL
namespace VL
open PySem PySem.Spec L2
@[simp] theorem oEq_int {i j : Int} {M : Mem} {Q : VL.VK} : oEq (.int i) (.int j) M Q ↔ Q (.bl (decide (i = j))) M := by
  unfold oEq
  constructor
  · rintro (⟨a, b, e, _⟩ | ⟨_, _, q⟩)
    · cases e
    · rw [fz_int, fz_int, eqD_int] at q; exact q
  · intro q
    exact .inr ⟨sh_int, sh_int, by rw [fz_int, fz_int, eqD_int]; exact q⟩
@[simp] theorem oNe_int {i j : Int} {M : Mem} {Q : VL.VK} : oNe (.int i) (.int j) M Q ↔ Q (.bl (!decide (i = j))) M := by
  unfold oNe
  constructor
  · rintro (⟨a, b, e, _⟩ | ⟨_, _, q⟩)
    · cases e
    · rw [fz_int, fz_int, eqD_int] at q; exact q
  · intro q
    exact .inr ⟨sh_int, sh_int, by rw [fz_int, fz_int, eqD_int]; exact q⟩
@[simp] theorem oNe_str {i j : Str} {M : Mem} {Q : VL.VK} : oNe (.str i) (.str j) M Q ↔ Q (.bl (!decide (i = j))) M := by
  unfold oNe
  constructor
  · rintro (⟨a, b, e, e2, q⟩ | ⟨_, _, q⟩)
    · cases e; cases e2; exact q
    · rw [fz_str, fz_str, eqD_str] at q; exact q
  · intro q
    exact .inl ⟨i, j, rfl, rfl, q⟩
@[simp] theorem oEq_str {i j : Str} {M : Mem} {Q : VL.VK} : oEq (.str i) (.str j) M Q ↔ Q (.bl (decide (i = j))) M := by
  unfold oEq
  constructor
  · rintro (⟨a, b, e, e2, q⟩ | ⟨_, _, q⟩)
    · cases e; cases e2; exact q
    · rw [fz_str, fz_str, eqD_str] at q; exact q
  · intro q
    exact .inl ⟨i, j, rfl, rfl, q⟩
theorem eqDs_nil_iff {xs : List D} : eqDs xs [] = xs.isEmpty := by
  cases xs with
  | nil => rw [eqDs_nil] <;> rfl
  | cons x xs => rw [eqDs_cn] <;> rfl
theorem fz_of {M : Mem} {d : D} {xs : List D} (h : asL M d = some xs) : fz M d = .lst xs := by unfold fz; rw [h]
/-- xs != [] -/
theorem oNe_nil {d : D} {xs : List D} {M : Mem} {Q : VL.VK} (h : asL M d = some xs) (s : ∀ x ∈ xs, Sh 29 x) (q : Q (.bl (!xs.isEmpty)) M) : oNe d (.lst []) M Q :=
  .inr ⟨by rw [fz_of h]; exact s, by rw [fz_lst]; exact (fun _ z => nomatch z), by rw [fz_of h, fz_lst, eqD_lst, eqDs_nil_iff]; exact q⟩
@[simp] theorem asL_lst {M : Mem} {xs : List D} : asL M (.lst xs) = some xs := rfl
@[simp] theorem asL_rd {M : Mem} {xs : List D} : asL M (.rd xs) = some xs := rfl
@[simp] theorem asP_lst {M : Mem} {xs : List D} : asP M (.lst xs) = some xs := rfl
@[simp] theorem asL_tup {M : Mem} {xs : List D} : asL M (.tup xs) = none := rfl
@[simp] theorem mupd_same' {M : Mem} {a : Addr} {o : MO} : mupd M a o a = some o := mupd_same
@[simp] theorem kB_int_int : kitB "int" "int" = some true := by decide +kernel
@[simp] theorem kB_int_bool : kitB "int" "bool" = some false := by decide +kernel
@[simp] theorem kB_tup_tup : kitB "tuple" "tuple" = some true := by decide +kernel
@[simp] theorem fz_int' {M : Mem} {i : Int} : fz M (.int i) = .int i := rfl
@[simp] theorem pr1_at {f : D → Mem → VL.VK → Prop} {a : D} {M : Mem} {Q : VL.VK} : pr1 f [a] M Q ↔ f a M Q := ⟨fun ⟨_, e, h⟩ => by cases e; exact h, fun h => ⟨a, rfl, h⟩⟩
@[simp] theorem pr2_at {f : D → D → Mem → VL.VK → Prop} {a b : D} {M : Mem} {Q : VL.VK} : pr2 f [a, b] M Q ↔ f a b M Q := ⟨fun ⟨_, _, e, h⟩ => by cases e; exact h, fun h => ⟨a, b, rfl, h⟩⟩
@[simp] theorem pr3_at {f : D → D → D → Mem → VL.VK → Prop} {a b c : D} {M : Mem} {Q : VL.VK} : pr3 f [a, b, c] M Q ↔ f a b c M Q := ⟨fun ⟨_, _, _, e, h⟩ => by cases e; exact h, fun h => ⟨a, b, c, rfl, h⟩⟩
@[simp] theorem oSl_tup {xs : List D} {lo hi : Option Int} {M : Mem} {Q : VL.VK} : oSl (.tup xs) lo hi M Q ↔ Q (.tup (cutD xs lo hi)) M := Iff.rfl
@[simp] theorem oSl_lst {xs : List D} {lo hi : Option Int} {M : Mem} {Q : VL.VK} : oSl (.lst xs) lo hi M Q ↔ Q (.lst (cutD xs lo hi)) M := ⟨fun ⟨_, e, q⟩ => by cases e; exact q, fun q => ⟨_, rfl, q⟩⟩
@[simp] theorem oSl_rd {xs : List D} {lo hi : Option Int} {M : Mem} {Q : VL.VK} : oSl (.rd xs) lo hi M Q ↔ Q (.lst (cutD xs lo hi)) M := ⟨fun ⟨_, e, q⟩ => by cases e; exact q, fun q => ⟨_, rfl, q⟩⟩
theorem cut_tail {α : Type} (xs : List α) : cutD xs (some 1) none = xs.tail := by
  unfold cutD
  cases xs with
  | nil => rfl
  | cons x xs =>
    have e1 : HT.sIx (x :: xs).length 0 (some 1) = 1 := by
      show (if (1 : Int) < 0 then ((1 : Int) + ((x :: xs).length : Int)).toNat else min (1 : Int).toNat (x :: xs).length) = 1
      rw [if_neg (by decide)]
      simp
    have e2 : HT.sIx (x :: xs).length (x :: xs).length none = (x :: xs).length := rfl
    rw [e1, e2]
    simp
theorem cut_take {α : Type} (xs : List α) (k : Nat) : cutD xs none (some (k : Int)) = xs.take k := by
  unfold cutD
  have e2 : HT.sIx xs.length xs.length (some (k : Int)) = min k xs.length := HT.sIx_nat _ _ _
  have e1 : HT.sIx xs.length 0 none = 0 := rfl
  rw [e1, e2, List.drop_zero, Nat.sub_zero]
  rcases Nat.le_total k xs.length with h | h
  · rw [Nat.min_eq_left h]
  · rw [Nat.min_eq_right h, List.take_length, List.take_of_length_le h]
@[simp] theorem gMore_cons {t : VTG} {u : VTGs} {d : D} {ds : List D} {e : VEnv} {M : Mem} {Q : VEnv → Mem → Prop} : gMore t u (d :: ds) e M Q ↔ t d e M fun e1 M1 => u ds e1 M1 Q := ⟨fun ⟨_, _, e, q⟩ => by cases e; exact q, fun q => ⟨d, ds, rfl, q⟩⟩
@[simp] theorem gNone_nil {e : VEnv} {M : Mem} {Q : VEnv → Mem → Prop} : gNone [] e M Q ↔ Q e M := ⟨fun q => q.2, fun q => ⟨rfl, q⟩⟩
theorem atI_ge {α : Type} {xs : List α} {i : Int} (h : 0 ≤ i) : L2.atI xs i = xs[i.toNat]? := by
  unfold L2.atI L2.ixN
  rw [if_pos h]
  by_cases h1 : i < xs.length
  · rw [if_pos h1] <;> rfl
  · rw [if_neg h1, List.getElem?_eq_none (by omega)] <;> rfl
@[simp] theorem atI_0 {α : Type} {xs : List α} : L2.atI xs 0 = xs[0]? := atI_ge (by decide)
@[simp] theorem atI_1 {α : Type} {xs : List α} : L2.atI xs 1 = xs[1]? := atI_ge (by decide)
@[simp] theorem atI_2 {α : Type} {xs : List α} : L2.atI xs 2 = xs[2]? := atI_ge (by decide)
theorem atI_k {α : Type} {xs : List α} {k : Nat} : L2.atI xs (k : Int) = xs[k]? := by rw [atI_ge (by omega)]; simp
@[simp] theorem asL_mupd {M : Mem} {a : Addr} {xs : List D} : asL (mupd M a (.lst xs)) (.obj a) = some xs := asL_obj mupd_same
@[simp] theorem asP_mupd {M : Mem} {a : Addr} {xs : List D} : asP (mupd M a (.lst xs)) (.obj a) = some xs := asP_obj mupd_same
@[simp] theorem mupd_mupd' {M : Mem} {a : Addr} {o u : MO} : mupd (mupd M a o) a u = mupd M a u := mupd_mupd
theorem pow3_ok {X : Int} (h0 : 0 ≤ X) (h1 : X < 9223372036854775808) : PowOk X 3 := by
  refine ⟨by decide, by decide, ?_, ?_⟩
  · have : X.natAbs.log2 ≤ 63 := by
      rcases Nat.eq_zero_or_pos X.natAbs with h | h
      · rw [h]; decide
      · have := (Nat.log2_lt (n := X.natAbs) (k := 63) (by omega)).mpr (by omega)
        omega
    omega
  · have : X.natAbs.log2 ≤ 63 := by
      rcases Nat.eq_zero_or_pos X.natAbs with h | h
      · rw [h]; decide
      · have := (Nat.log2_lt (n := X.natAbs) (k := 63) (by omega)).mpr (by omega)
        omega
    omega
theorem take_bd {x n k c : Int} (x1 : 0 ≤ x) (x2 : x < 4611686018427387904) (n1 : 0 ≤ n) (n2 : n ≤ 1000000) (k1 : 0 ≤ k) (k2 : k ≤ 1000000) (c1 : 0 ≤ c) (c2 : c ≤ 1000000) : 0 ≤ x + k * n * n + c ∧ x + k * n * n + c < 9223372036854775808 := by
  have q1 : n * n ≤ 1000000 * 1000000 := Int.mul_le_mul n2 n2 n1 (by decide)
  have q0 : 0 ≤ n * n := Int.mul_nonneg n1 n1
  have q2 : k * (n * n) ≤ 1000000 * (1000000 * 1000000) := Int.mul_le_mul k2 q1 q0 (by decide)
  have q3 : 0 ≤ k * (n * n) := Int.mul_nonneg k1 q0
  rw [Int.mul_assoc]
  omega
theorem log2_small {n : Nat} (h : n ≤ 1000000) : n.log2 < 9000 := by
  rcases Nat.eq_zero_or_pos n with h0 | h0
  · rw [h0]; decide
  · have := (Nat.log2_lt (n := n) (k := 20) (by omega)).mpr (by omega)
    omega
theorem ite01 {p : Prop} [Decidable p] : 0 ≤ (if p then (1 : Int) else 0) := by split <;> decide
theorem ite01a {p : Prop} [Decidable p] : (if p then (1 : Int) else 0).natAbs < 18446744073709551616 := by split <;> decide
theorem mupd3_a {M : Mem} {p a b : Addr} {l l' x y : MO} (h1 : p ≠ a) (h2 : p ≠ b) : mupd (mupd (mupd (mupd M p l) a x) b y) p l' = mupd (mupd (mupd M p l') a x) b y := by
  funext c
  simp only [mupd]
  by_cases e1 : c = p
  · subst e1; simp [h1, h2]
  · simp [e1]
theorem mupd3_b {M : Mem} {a b : Addr} {x y x' : MO} (h : a ≠ b) : mupd (mupd (mupd M a x) b y) a x' = mupd (mupd M a x') b y := by
  funext c
  simp only [mupd]
  by_cases e1 : c = a
  · subst e1; simp [h]
  · simp [e1]
theorem size1000 : 1000 < sizeLine := by decide
/-- for over the items, the body goes on: J i e M holds ahead of the i-th item -/
theorem sFor_by {ti : VTI} {g : VTG} {tb : VTS} {D : VEnds} {e : VEnv} {M : Mem} (w : VIt) (P : Nat → VEnv → Mem → Prop)
    (hi : ∀ R : VIt → Mem → Prop, R w M → ti e M R) (h0 : P 0 e M) (hok : ∀ i e M, i ≤ w.ds.length → P i e M → w.ok M)
    (ht : ∀ i d e M, w.ds[i]? = some d → P i e M → g d e M fun e2 M2 => tb { D with nx := P (i + 1), ct := P (i + 1), bk := D.nx } e2 M2) (hd : ∀ e M, P w.ds.length e M → D.nx e M) : sFor ti g tb D e M :=
  hi _ ⟨P, h0, hok, ht, hd⟩
/-- a comprehension that changes nothing: each item gives a value or nothing -/
def fmap (f : D → Option D) (xs : List D) : List D := xs.filterMap f
theorem vLc_by {ti : VTI} {g : VTG} {tt : VTT} {te : VTE} {vs : List Nat} {e : VEnv} {M : Mem} {Q : VL.VK} (w : VIt) (f : D → Option D) (hi : ∀ R : VIt → Mem → Prop, R w M → ti e M R) (hok : w.ok M) (hl : w.ds.length < sizeLine)
    (ht : ∀ d ∈ w.ds, ∀ (A : D → Mem → Prop) (B : Mem → Prop), (∀ y, f d = some y → A y M) → (f d = none → B M) → g d (vwipe e vs) M fun e2 M2 => tt e2 M2 fun b M3 => if b = true then te e2 M3 A else B M3)
    (q : Q (.lst (w.ds.filterMap f)) M) : vLc ti g tt te vs e M Q := by
  refine hi _ ⟨fun i acc M' => M' = M ∧ i ≤ w.ds.length ∧ acc = (w.ds.take i).filterMap f, ⟨rfl, Nat.zero_le _, by simp⟩, fun i acc M' _ z => by rw [z.1]; exact hok, fun i d acc M' hd ⟨e1, hi, e2⟩ => ?_, fun acc M' ⟨e1, _, e2⟩ => ?_⟩
  · subst e1
    have hlt : i < w.ds.length := by
      rcases Nat.lt_or_ge i w.ds.length with h1 | h1
      · exact h1
      · rw [List.getElem?_eq_none h1] at hd; cases hd
    have hmem : d ∈ w.ds := List.mem_of_getElem? hd
    have htk : w.ds.take (i + 1) = w.ds.take i ++ [d] := by
      rw [List.take_add_one, hd] <;> rfl
    have hal : acc.length < sizeLine := by
      have h1 : acc.length ≤ (w.ds.take i).length := by rw [e2]; exact List.length_filterMap_le ..
      have h2 : (w.ds.take i).length ≤ w.ds.length := by rw [List.length_take]; exact Nat.min_le_right _ _
      omega
    exact ht d hmem (fun y M4 => acc.length < sizeLine ∧ M4 = M' ∧ i + 1 ≤ w.ds.length ∧ acc ++ [y] = (w.ds.take (i + 1)).filterMap f) (fun M3 => M3 = M' ∧ i + 1 ≤ w.ds.length ∧ acc = (w.ds.take (i + 1)).filterMap f)
      (fun y hy => ⟨hal, rfl, hlt, by rw [htk, List.filterMap_append, e2]; simp [hy]⟩) (fun hn => ⟨rfl, hlt, by rw [htk, List.filterMap_append, e2]; simp [hn]⟩)
  · subst e1
    rw [e2, List.take_length]
    exact q
@[simp] theorem sz0 : 0 ≤ sizeLine := by decide
@[simp] theorem sz1 : 1 ≤ sizeLine := by decide
@[simp] theorem sz2 : 2 ≤ sizeLine := by decide
@[simp] theorem sz3 : 3 ≤ sizeLine := by decide
@[simp] theorem sz4 : 4 ≤ sizeLine := by decide
@[simp] theorem sz5 : 5 ≤ sizeLine := by decide
@[simp] theorem sz6 : 6 ≤ sizeLine := by decide
@[simp] theorem sz7 : 7 ≤ sizeLine := by decide
@[simp] theorem sz8 : 8 ≤ sizeLine := by decide
@[simp] theorem sz9 : 9 ≤ sizeLine := by decide
theorem sFor_al {α : Type} {ti : VTI} {g : VTG} {tb : VTS} {D' : VEnds} {e : VEnv} {M : Mem} {w : VIt} (xs : List α) (f : α → D) (P : Nat → VEnv → Mem → Prop)
    (hi : ∀ R : VIt → Mem → Prop, R w M → ti e M R) (hw : w.ds = xs.map f) (h0 : P 0 e M) (hok : ∀ i e M, i ≤ xs.length → P i e M → w.ok M)
    (ht : ∀ i x e M, xs[i]? = some x → i < xs.length → P i e M → g (f x) e M fun e2 M2 => tb { D' with nx := P (i + 1), ct := P (i + 1), bk := D'.nx } e2 M2) (hd : ∀ e M, P xs.length e M → D'.nx e M) : sFor ti g tb D' e M := by
  have hl : w.ds.length = xs.length := by rw [hw, List.length_map]
  refine hi _ ⟨P, h0, fun i e M hi => hok i e M (by rw [← hl]; exact hi), fun i d e M hd' hp => ?_, fun e M hp => hd e M (by rw [← hl]; exact hp)⟩
  rw [hw, List.getElem?_map] at hd'
  cases hx : xs[i]? with
  | none => rw [hx] at hd'; cases hd'
  | some x =>
    rw [hx] at hd'
    cases hd'
    exact ht i x e M hx (by rcases Nat.lt_or_ge i xs.length with h1 | h1; exact h1; rw [List.getElem?_eq_none h1] at hx; cases hx) hp
theorem vLc_alF {α : Type} {ti : VTI} {g : VTG} {tt : VTT} {te : VTE} {vs : List Nat} {e : VEnv} {M : Mem} {Q : VL.VK} {w : VIt} (xs : List α) (f : α → D) (p : α → Bool) (h : α → D) (hi : ∀ R : VIt → Mem → Prop, R w M → ti e M R) (hw : w.ds = xs.map f) (hok : w.ok M) (hl : xs.length < sizeLine)
    (ht : ∀ x ∈ xs, ∀ (A : D → Mem → Prop) (B : Mem → Prop), (p x = true → A (h x) M) → (p x = false → B M) → g (f x) (vwipe e vs) M fun e2 M2 => tt e2 M2 fun b M3 => if b = true then te e2 M3 A else B M3)
    (q : Q (.lst ((xs.filter p).map h)) M) : vLc ti g tt te vs e M Q := by
  have hlw : w.ds.length = xs.length := by rw [hw, List.length_map]
  refine hi _ ⟨fun i acc M' => M' = M ∧ i ≤ xs.length ∧ acc = ((xs.take i).filter p).map h, ⟨rfl, Nat.zero_le _, by simp⟩, fun i acc M' _ z => by rw [z.1]; exact hok, fun i d acc M' hd ⟨e1, hi, e2⟩ => ?_, fun acc M' ⟨e1, _, e2⟩ => ?_⟩
  · subst e1
    rw [hw, List.getElem?_map] at hd
    cases hx : xs[i]? with
    | none => rw [hx] at hd; cases hd
    | some x =>
      rw [hx] at hd
      cases hd
      have hlt : i < xs.length := by
        rcases Nat.lt_or_ge i xs.length with h1 | h1
        · exact h1
        · rw [List.getElem?_eq_none h1] at hx; cases hx
      have htk : xs.take (i + 1) = xs.take i ++ [x] := by
        rw [List.take_add_one, hx] <;> rfl
      have hal : acc.length < sizeLine := by
        have h1 : acc.length ≤ (xs.take i).length := by rw [e2, List.length_map]; exact List.length_filter_le ..
        have h2 : (xs.take i).length ≤ xs.length := by rw [List.length_take]; exact Nat.min_le_right _ _
        omega
      exact ht x (List.mem_of_getElem? hx) (fun y M4 => acc.length < sizeLine ∧ M4 = M' ∧ i + 1 ≤ xs.length ∧ acc ++ [y] = ((xs.take (i + 1)).filter p).map h) (fun M3 => M3 = M' ∧ i + 1 ≤ xs.length ∧ acc = ((xs.take (i + 1)).filter p).map h)
        (fun hp => ⟨hal, rfl, hlt, by rw [htk, List.filter_append, List.map_append, e2]; simp [hp]⟩) (fun hn => ⟨rfl, hlt, by rw [htk, List.filter_append, List.map_append, e2]; simp [hn]⟩)
  · subst e1
    rw [e2, hlw, List.take_length]
    exact q
theorem vLc_al {α : Type} {ti : VTI} {g : VTG} {te : VTE} {vs : List Nat} {e : VEnv} {M : Mem} {Q : VL.VK} {w : VIt} (xs : List α) (f : α → D) (h : α → D) (hi : ∀ R : VIt → Mem → Prop, R w M → ti e M R) (hw : w.ds = xs.map f) (hok : w.ok M) (hl : xs.length < sizeLine)
    (ht : ∀ x ∈ xs, ∀ (A : D → Mem → Prop), A (h x) M → g (f x) (vwipe e vs) M fun e2 M2 => te e2 M2 A)
    (q : Q (.lst (xs.map h)) M) : vLc ti g vYes te vs e M Q := by
  refine vLc_alF xs f (fun _ => true) h hi hw hok hl (fun d hd A B hA _ => ?_) (by rw [List.filter_eq_self.mpr (fun _ _ => rfl)]; exact q)
  have := ht d hd A (hA rfl)
  simpa using this
/-- a list that may change, made item by item, the memory left alone -/
theorem vLcO_al {α : Type} {ti : VTI} {g : VTG} {te : VTE} {vs : List Nat} {e : VEnv} {M : Mem} {Q : VL.VK} {w : VIt} (xs : List α) (f : α → D) (h : α → D) (hi : ∀ R : VIt → Mem → Prop, R w M → ti e M R) (hw : w.ds = xs.map f) (hok : w.ok M) (hl : xs.length < sizeLine)
    (ht : ∀ x ∈ xs, ∀ (A : D → Mem → Prop), A (h x) M → g (f x) (vwipe e vs) M fun e2 M2 => te e2 M2 A)
    (q : ∀ p, M p = none → Q (.obj p) (mupd M p (.lst (xs.map h)))) : vLcO ti g vYes te vs e M Q := by
  have hlw : w.ds.length = xs.length := by rw [hw, List.length_map]
  refine hi _ ⟨fun i acc M' => M' = M ∧ i ≤ xs.length ∧ acc = (xs.take i).map h, ⟨rfl, Nat.zero_le _, by simp⟩, fun i acc M' _ z => by rw [z.1]; exact hok, fun i d acc M' hd ⟨e1, hi, e2⟩ => ?_, fun acc M' ⟨e1, _, e2⟩ => ?_⟩
  · subst e1
    rw [hw, List.getElem?_map] at hd
    cases hx : xs[i]? with
    | none => rw [hx] at hd; cases hd
    | some x =>
      rw [hx] at hd
      cases hd
      have hlt : i < xs.length := by
        rcases Nat.lt_or_ge i xs.length with h1 | h1
        · exact h1
        · rw [List.getElem?_eq_none h1] at hx; cases hx
      have htk : xs.take (i + 1) = xs.take i ++ [x] := by
        rw [List.take_add_one, hx] <;> rfl
      have hal : acc.length < sizeLine := by
        have h2 : acc.length ≤ xs.length := by rw [e2, List.length_map, List.length_take]; exact Nat.min_le_right _ _
        omega
      have := ht x (List.mem_of_getElem? hx) (fun y M4 => acc.length < sizeLine ∧ M4 = M' ∧ i + 1 ≤ xs.length ∧ acc ++ [y] = (xs.take (i + 1)).map h) ⟨hal, rfl, hlt, by rw [htk, List.map_append, e2] <;> rfl⟩
      simpa using this
  · subst e1
    rw [e2, hlw, List.take_length]
    exact q
theorem ixN_lt {n j : Nat} (hj : j < n) : L2.ixN n (j : Int) = some j := by
  unfold L2.ixN
  rw [if_pos (by omega), if_pos (by omega)]
  simp
theorem perm_erase {α : Type} : ∀ (l : List α) (i : Nat) (h : i < l.length), (l[i] :: l.eraseIdx i).Perm l
  | x :: l, 0, _ => .refl _
  | x :: l, i + 1, h => by
    simp only [List.getElem_cons_succ, List.eraseIdx_cons_succ]
    exact (List.Perm.swap _ _ _).trans ((perm_erase l i (by simpa using h)).cons x)
theorem flat_len {α β : Type} (f : α → List β) (b : Nat) : ∀ (xs : List α), (∀ x ∈ xs, (f x).length ≤ b) → ((xs.map f).flatten).length ≤ xs.length * b
  | [], _ => by simp
  | x :: xs, h => by
    have ih := flat_len f b xs fun y hy => h y (List.mem_cons_of_mem _ hy)
    have h0 := h x List.mem_cons_self
    rw [List.map_cons, List.flatten_cons, List.length_append, List.length_cons, Nat.succ_mul]
    omega
theorem vLc_map {ti : VTI} {g : VTG} {te : VTE} {vs : List Nat} {e : VEnv} {M : Mem} {Q : VL.VK} {w : VIt} (f : D → D) (hi : ∀ R : VIt → Mem → Prop, R w M → ti e M R) (hok : w.ok M) (hl : w.ds.length < sizeLine)
    (ht : ∀ d ∈ w.ds, ∀ (A : D → Mem → Prop), A (f d) M → g d (vwipe e vs) M fun e2 M2 => te e2 M2 A)
    (q : Q (.lst (w.ds.map f)) M) : vLc ti g vYes te vs e M Q := by
  refine vLc_by w (fun d => some (f d)) hi hok hl (fun d hd A B hA _ => ?_) (by rw [show (fun d => some (f d)) = some ∘ f from rfl, List.filterMap_eq_map]; exact q)
  have := ht d hd A (hA _ rfl)
  simpa using this
end VL
namespace K52
open PySem PySem.Spec PyProof.Rows L2
def top (i : Nat) : Stmt := PySem.Challenge.pw_everyrowalike_k52_whole_spaces_of_number.main.body.getD i (.Pass ⟨0, 0, 0, 0⟩)
abbrev s_is_integer : Stmt := top 6
abbrev s_is_between : Stmt := top 7
abbrev s_are_between : Stmt := top 8
abbrev s_is_ascending : Stmt := top 9
abbrev s_is_web : Stmt := top 14
abbrev s_check_web : Stmt := top 15
abbrev s_sides_web : Stmt := top 16
abbrev s_full_web : Stmt := top 17
abbrev s_without : Stmt := top 19
abbrev s_rank_of : Stmt := top 20
abbrev s_space : Stmt := top 21
abbrev s__law_pot : Stmt := top 23
abbrev s__law_take : Stmt := top 24
abbrev s__law_of : Stmt := top 25
abbrev s__law_some : Stmt := top 26
abbrev s__law_cells : Stmt := top 27
abbrev s__law_web : Stmt := top 28
abbrev s__law_rank : Stmt := top 29
abbrev s__law_right : Stmt := top 30
abbrev s_law : Stmt := top 31
def d_is_integer : He.DefD := ⟨("is_integer", none), "is_integer", "is_integer", defArgs s_is_integer, defBody s_is_integer, defScope s_is_integer, [], []⟩
def d_is_between : He.DefD := ⟨("is_between", none), "is_between", "is_between", defArgs s_is_between, defBody s_is_between, defScope s_is_between, [], []⟩
def d_are_between : He.DefD := ⟨("are_between", none), "are_between", "are_between", defArgs s_are_between, defBody s_are_between, defScope s_are_between, [], []⟩
def d_is_ascending : He.DefD := ⟨("is_ascending", none), "is_ascending", "is_ascending", defArgs s_is_ascending, defBody s_is_ascending, defScope s_is_ascending, [], []⟩
def d_is_web : He.DefD := ⟨("is_web", none), "is_web", "is_web", defArgs s_is_web, defBody s_is_web, defScope s_is_web, [], []⟩
def d_check_web : He.DefD := ⟨("check_web", none), "check_web", "check_web", defArgs s_check_web, defBody s_check_web, defScope s_check_web, [], []⟩
def d_sides_web : He.DefD := ⟨("sides_web", none), "sides_web", "sides_web", defArgs s_sides_web, defBody s_sides_web, defScope s_sides_web, [], []⟩
def d_full_web : He.DefD := ⟨("full_web", none), "full_web", "full_web", defArgs s_full_web, defBody s_full_web, defScope s_full_web, [], []⟩
def d_without : He.DefD := ⟨("without", none), "without", "without", defArgs s_without, defBody s_without, defScope s_without, [], []⟩
def d_rank_of : He.DefD := ⟨("rank_of", none), "rank_of", "rank_of", defArgs s_rank_of, defBody s_rank_of, defScope s_rank_of, [], []⟩
def d_space : He.DefD := ⟨("space", none), "space", "space", defArgs s_space, defBody s_space, defScope s_space, [], []⟩
def d__law_pot : He.DefD := ⟨("_law_pot", none), "_law_pot", "_law_pot", defArgs s__law_pot, defBody s__law_pot, defScope s__law_pot, [], []⟩
def d__law_take : He.DefD := ⟨("_law_take", none), "_law_take", "_law_take", defArgs s__law_take, defBody s__law_take, defScope s__law_take, [], []⟩
def d__law_of : He.DefD := ⟨("_law_of", none), "_law_of", "_law_of", defArgs s__law_of, defBody s__law_of, defScope s__law_of, [], []⟩
def d__law_some : He.DefD := ⟨("_law_some", none), "_law_some", "_law_some", defArgs s__law_some, defBody s__law_some, defScope s__law_some, [], []⟩
def d__law_cells : He.DefD := ⟨("_law_cells", none), "_law_cells", "_law_cells", defArgs s__law_cells, defBody s__law_cells, defScope s__law_cells, [], []⟩
def d__law_web : He.DefD := ⟨("_law_web", none), "_law_web", "_law_web", defArgs s__law_web, defBody s__law_web, defScope s__law_web, [], []⟩
def d__law_rank : He.DefD := ⟨("_law_rank", none), "_law_rank", "_law_rank", defArgs s__law_rank, defBody s__law_rank, defScope s__law_rank, [], []⟩
def d__law_right : He.DefD := ⟨("_law_right", none), "_law_right", "_law_right", defArgs s__law_right, defBody s__law_right, defScope s__law_right, [], []⟩
def d_law : He.DefD := ⟨("law", none), "law", "law", defArgs s_law, defBody s_law, defScope s_law, [], []⟩
def fn : List He.DefD := [d_is_integer, d_is_between, d_are_between, d_is_ascending, d_is_web, d_check_web, d_sides_web, d_full_web, d_without, d_rank_of, d_space, d__law_pot, d__law_take, d__law_of, d__law_some, d__law_cells, d__law_web, d__law_rank, d__law_right, d_law]
def fa : List He.Fa := [.glo "is_integer", .glo "is_between", .glo "are_between", .glo "is_ascending", .glo "is_web", .glo "check_web", .glo "sides_web", .glo "full_web", .glo "without", .glo "rank_of", .glo "space", .glo "_law_pot", .glo "_law_take", .glo "_law_of", .glo "_law_some", .glo "_law_cells", .glo "_law_web", .glo "_law_rank", .glo "_law_right", .glo "law", .free "ValueError", .free "abs", .free "all", .free "bool", .free "enumerate", .free "int", .free "isinstance", .free "len", .free "list", .free "max", .free "min", .free "range", .free "repr", .free "sorted", .free "sum", .free "super", .free "tuple", .free "zip", .int "MOST_ROOMS" 8, .int "MOST_DOORS" 16, .int "MOST_FULL" 6]
def nm0 : List PySem.Str := ["SquareError", "BadSides", "BadWeb", "TooMany", "is_integer", "is_between", "are_between", "is_ascending", "MOST_ROOMS", "MOST_DOORS", "MOST_FULL", "is_web", "check_web", "sides_web", "full_web", "without", "rank_of", "space", "_law_pot", "_law_take", "_law_of", "_law_some", "_law_cells", "_law_web", "_law_rank", "_law_right"]
def nm : List PySem.Str := nm0
abbrev R : PySem.W.OpenRow := PySem.W.OpenLaw.row PySem.Challenge.rw_everyrowalike_k52_whole_spaces_of_number
abbrev hk : PySem.W.Hook := He.hookD 4 fa fn
def ob (s : PySem.W.SharedT) : He.AlD := He.obsDG 4 fa fn (HandSHeadRun.getT s)
theorem ob_eq (s : PySem.W.SharedT) : ob s = hk.obs s.abs := He.obsDG_eq (HandSHeadRun.getT_eq s)
theorem run (w : World) : HandSHeadRun.RunEq R (PySem.W.view R.prog [31]) hk ob 4000 nm w := by
  intro os
  kernel_rfl
end K52
namespace K52
open PySem PySem.Spec L2 VL
def bl : List Str := ["ValueError", "abs", "all", "bool", "enumerate", "int", "isinstance", "len", "list", "max", "min", "range", "repr", "sorted", "sum", "super", "tuple", "zip"]

abbrev N_is_integer : List Str := ["value"]
abbrev P_is_integer : List Str := ["value"]
theorem sc_is_integer : FnScope N_is_integer P_is_integer (defScope s_is_integer) := ⟨rfl, rfl, rfl, by decide +kernel, rfl, by decide +kernel, by decide +kernel⟩
def p_is_integer : VSp := pr1 fun a M Q => (∃ i, a = .int i) ∧ Q (.bl true) M
theorem ok_is_integer {P : Program} {w : World} {K : PySem.W.Frag} {mg : Str → Option Value} {base : Heap} (hD : Df K mg "is_integer" s_is_integer) (hB : Fr mg bl) : Kn P w K mg base 1 "is_integer" P_is_integer p_is_integer := by
  have S := sc_is_integer
  refine kn_of hD sc_is_integer (fun _ _ _ _ _ _ us hl => match us, hl with | [_], _ => rfl) pr1_len ?_
  intro f cdv A outer s H E hr
  refine ⟨_, (vss_one (vs_ret (v_and (v_isi (T := "int") (hB _ (by decide +kernel)) (hB _ (by decide +kernel)) (v_var (pv 0))) (v_one (v_not (v_isi (T := "bool") (hB _ (by decide +kernel)) (hB _ (by decide +kernel)) (v_var (pv 0)))))))), ?_⟩
  clear hr S
  rintro _ M Q ⟨x0, rfl, h⟩
  rw [show vstart N_is_integer.length [x0] = [some x0] from rfl]
  obtain ⟨⟨i, rfl⟩, h⟩ := h
  simpa using h
abbrev N_is_between : List Str := ["value", "low", "high"]
abbrev P_is_between : List Str := ["value", "low", "high"]
theorem sc_is_between : FnScope N_is_between P_is_between (defScope s_is_between) := ⟨rfl, rfl, rfl, by decide +kernel, rfl, by decide +kernel, by decide +kernel⟩
def p_is_between : VSp := pr3 fun a b c M Q => ∃ i j k, a = .int i ∧ b = .int j ∧ c = .int k ∧ Q (.bl (decide (j ≤ i) && decide (i ≤ k))) M
theorem ok_is_between {P : Program} {w : World} {K : PySem.W.Frag} {mg : Str → Option Value} {base : Heap} (hD : Df K mg "is_between" s_is_between) (hB : Fr mg bl) (k_is_integer : Kn P w K mg base 1 "is_integer" P_is_integer p_is_integer) : Kn P w K mg base 2 "is_between" P_is_between p_is_between := by
  have S := sc_is_between
  refine kn_of hD sc_is_between (fun _ _ _ _ _ _ us hl => match us, hl with | [_, _, _], _ => rfl) pr3_len ?_
  intro f cdv A outer s H E hr
  refine ⟨_, (vss_one (vs_ret (v_and (v_callK k_is_integer hr (va_cons (v_var (pv 0)) va_nil)) (v_one (v_chain o_le o_le (v_var (pv 1)) (v_var (pv 0)) (v_var (pv 2))))))), ?_⟩
  clear hr S
  rintro _ M Q ⟨x0, x1, x2, rfl, h⟩
  rw [show vstart N_is_between.length [x0, x1, x2] = [some x0, some x1, some x2] from rfl]
  obtain ⟨i, j, k, rfl, rfl, rfl, h⟩ := h
  simp [p_is_integer]
  split
  · rename_i z; simpa [z] using h
  · rename_i z; simpa [z] using h
abbrev N_are_between : List Str := ["value", "low", "high", "one"]
abbrev P_are_between : List Str := ["value", "low", "high"]
theorem sc_are_between : FnScope N_are_between P_are_between (defScope s_are_between) := ⟨rfl, rfl, rfl, by decide +kernel, rfl, by decide +kernel, by decide +kernel⟩
def p_are_between : VSp := pr3 fun a b c M Q => ∃ (ns : List Int) (lo hi : Int), a = .tup (ns.map D.int) ∧ b = .int lo ∧ c = .int hi ∧ ns.length ≤ 1000 ∧ Q (.bl (ns.all fun n => decide (lo ≤ n) && decide (n ≤ hi))) M
theorem ok_are_between {P : Program} {w : World} {K : PySem.W.Frag} {mg : Str → Option Value} {base : Heap} (hD : Df K mg "are_between" s_are_between) (hB : Fr mg bl) (k_is_between : Kn P w K mg base 2 "is_between" P_is_between p_is_between) : Kn P w K mg base 3 "are_between" P_are_between p_are_between := by
  have S := sc_are_between
  refine kn_of hD sc_are_between (fun _ _ _ _ _ _ us hl => match us, hl with | [_, _, _], _ => rfl) pr3_len ?_
  intro f cdv A outer s H E hr
  refine ⟨_, (vss_one (vs_ret (v_and (v_isi (T := "tuple") (hB _ (by decide +kernel)) (hB _ (by decide +kernel)) (v_var (pv 0))) (v_one (v_callB (c_all rfl) (hB _ (by decide +kernel)) (va_cons (v_lc (own := [("one", 3)]) rfl S.nd (vi_seq (v_var (pv 0))) (blkOk_by (by first | rfl | kernel_rfl)) (lcg_name (fun _ _ _ _ _ => pg_name (i := 3) S.nd rfl (by first | exact Or.inl rfl | exact Or.inr rfl))) (fun _ _ _ _ _ => vts_nil) (fun _ _ _ _ _ => (v_callK k_is_between hr (va_cons (v_var (pv 3)) (va_cons (v_var (pv 1)) (va_cons (v_var (pv 2)) va_nil)))))) va_nil)))))), ?_⟩
  clear hr S
  rintro _ M Q ⟨x0, x1, x2, rfl, h⟩
  rw [show vstart N_are_between.length [x0, x1, x2] = [some x0, some x1, some x2, none] from rfl]
  obtain ⟨ns, lo, hi, rfl, rfl, rfl, hl, h⟩ := h
  simp
  refine vLc_map (fun d => match d with | .int n => .bl (decide (lo ≤ n) && decide (n ≤ hi)) | _ => .non) (fun R r => ⟨_, rfl, _, rfl, r⟩) rfl (by simp; exact small1000 hl) (fun d hd A hA => ?_) ?_
  · obtain ⟨n, hn, rfl⟩ := List.mem_map.mp hd
    simpa [p_is_between, vwipe] using hA
  · simp [VL.rAll]
    refine ⟨ns.map fun n => decide (lo ≤ n) && decide (n ≤ hi), by simp [Function.comp_def], ?_⟩
    simpa [List.all_map, Function.comp_def] using h

def dD (d : Int × Int) : D := .tup [.int d.1, .int d.2]
def ltP (a b : Int × Int) : Bool := decide (a.1 < b.1 ∨ (a.1 = b.1 ∧ a.2 < b.2))
def asc (ds : List (Int × Int)) : Bool := (ds.zip ds.tail).all fun p => ltP p.1 p.2
def webD (n : Int) (ds : List (Int × Int)) : D := .tup [.int n, .tup (ds.map dD)]
def WebOk (n : Int) (ds : List (Int × Int)) : Prop := 2 ≤ n ∧ n ≤ 8 ∧ 1 ≤ ds.length ∧ ds.length ≤ 16 ∧ (∀ d ∈ ds, 0 ≤ d.1 ∧ d.1 < d.2 ∧ d.2 ≤ n - 1) ∧ asc ds = true
theorem zipD_dD (xs ys : List (Int × Int)) : zipD (xs.map dD) (ys.map dD) = (xs.zip ys).map fun p => .tup [dD p.1, dD p.2] := by
  unfold zipD
  rw [List.zip_map, List.map_map]
  rfl
theorem lt_dD (a b : Int × Int) (M : Mem) (Q : VL.VK) (q : Q (.bl (ltP a b)) M) : oLtD (dD a) (dD b) M Q := by
  have s : ∀ c : Int × Int, Sh 30 (dD c) := fun c x hx => by
    simp at hx
    rcases hx with rfl | rfl <;> exact sh_int
  refine ⟨s a, s b, by simp [dD, py, pys, W.alike, W.alikeAll], by simp [dD, py], ?_⟩
  have e : W.dataLt (py (dD a)) (py (dD b)) = ltP a b := by
    show W.dataLt (.tuple [.int a.1, .int a.2]) (.tuple [.int b.1, .int b.2]) = _
    rw [W.dataLt_ii]
    rfl
  rw [e]; exact q
abbrev N_is_ascending : List Str := ["items", "one", "other"]
abbrev P_is_ascending : List Str := ["items"]
theorem sc_is_ascending : FnScope N_is_ascending P_is_ascending (defScope s_is_ascending) := ⟨rfl, rfl, rfl, by decide +kernel, rfl, by decide +kernel, by decide +kernel⟩
def p_is_ascending : VSp := pr1 fun a M Q => ∃ ds : List (Int × Int), a = .tup (ds.map dD) ∧ ds.length ≤ 1000 ∧ Q (.bl (asc ds)) M
theorem ok_is_ascending {P : Program} {w : World} {K : PySem.W.Frag} {mg : Str → Option Value} {base : Heap} (hD : Df K mg "is_ascending" s_is_ascending) (hB : Fr mg bl) : Kn P w K mg base 1 "is_ascending" P_is_ascending p_is_ascending := by
  have S := sc_is_ascending
  refine kn_of hD sc_is_ascending (fun _ _ _ _ _ _ us hl => match us, hl with | [_], _ => rfl) pr1_len ?_
  intro f cdv A outer s H E hr
  refine ⟨_, (vss_one (vs_ret (v_callB (c_all rfl) (hB _ (by decide +kernel)) (va_cons (v_lc (own := [("one", 1), ("other", 2)]) rfl S.nd (vi_zip (hB _ (by decide +kernel)) (va_cons (v_var (pv 0)) (va_cons (v_sl (v_var (pv 0)) (vo_some v_int) vo_none) va_nil))) (blkOk_by (by first | rfl | kernel_rfl)) (lcg_tup (n := 2) rfl (lcgs_cons (lcg_name (fun _ _ _ _ _ => pg_name (i := 1) S.nd rfl (by first | exact Or.inl rfl | exact Or.inr rfl))) (lcgs_cons (lcg_name (fun _ _ _ _ _ => pg_name (i := 2) S.nd rfl (by first | exact Or.inl rfl | exact Or.inr rfl))) lcgs_nil))) (fun _ _ _ _ _ => vts_nil) (fun _ _ _ _ _ => (v_cmp (o_ltD hr.r) (v_var (pv 1)) (v_var (pv 2)) (nomark _)))) va_nil)))), ?_⟩
  clear hr S
  rintro _ M Q ⟨x0, rfl, h⟩
  rw [show vstart N_is_ascending.length [x0] = [some x0, none, none] from rfl]
  obtain ⟨ds, rfl, hl, h⟩ := h
  simp
  refine vLc_map (fun d => match d with | .tup [.tup [.int a, .int b], .tup [.int a', .int b']] => .bl (ltP (a, b) (a', b')) | _ => .non) (w := ⟨zipD (ds.map dD) (ds.tail.map dD), fun _ => True⟩) (fun R r => ?_) trivial (by rw [zipD_dD]; simp; have := size1000; omega) (fun d hd A hA => ?_) ?_
  · simpa [cut_tail, and_assoc] using r
  · rw [zipD_dD] at hd
    obtain ⟨p, hp, rfl⟩ := List.mem_map.mp hd
    simp [vwipe]
    exact lt_dD _ _ _ _ hA
  · simp only [zipD_dD]
    simp [VL.rAll]
    refine ⟨(ds.zip ds.tail).map fun p => ltP p.1 p.2, by simp [Function.comp_def, dD], ?_⟩
    simpa [List.all_map, Function.comp_def, asc] using h

end K52
namespace K52
open PySem PySem.Spec L2 VL
abbrev N_is_web : List Str := ["value", "door"]
abbrev P_is_web : List Str := ["value"]
theorem sc_is_web : FnScope N_is_web P_is_web (defScope s_is_web) := ⟨rfl, rfl, rfl, by decide +kernel, rfl, by decide +kernel, by decide +kernel⟩
def p_is_web : VSp := pr1 fun a M Q => ∃ n ds, a = webD n ds ∧ WebOk n ds ∧ Q (.bl true) M
theorem ok_is_web {P : Program} {w : World} {K : PySem.W.Frag} {mg : Str → Option Value} {base : Heap} (hD : Df K mg "is_web" s_is_web) (hB : Fr mg bl) {t_MOST_ROOMS : Tok} (i_MOST_ROOMS : mg "MOST_ROOMS" = some (.int 8 t_MOST_ROOMS)) {t_MOST_DOORS : Tok} (i_MOST_DOORS : mg "MOST_DOORS" = some (.int 16 t_MOST_DOORS)) (k_is_between : Kn P w K mg base 2 "is_between" P_is_between p_is_between) (k_are_between : Kn P w K mg base 3 "are_between" P_are_between p_are_between) (k_is_ascending : Kn P w K mg base 1 "is_ascending" P_is_ascending p_is_ascending) : Kn P w K mg base 4 "is_web" P_is_web p_is_web := by
  have S := sc_is_web
  refine kn_of hD sc_is_web (fun _ _ _ _ _ _ us hl => match us, hl with | [_], _ => rfl) pr1_len ?_
  intro f cdv A outer s H E hr
  refine ⟨_, (vss_cons (vs_if (t_pw (t_or (t_not (t_val (v_isi (T := "tuple") (hB _ (by decide +kernel)) (hB _ (by decide +kernel)) (v_var (pv 0))))) (t_or (t_cmp (o_ne hr.r) (v_callB c_len (hB _ (by decide +kernel)) (va_cons (v_var (pv 0)) va_nil)) v_int (nomark _)) (t_or1 (t_not (t_val (v_callK k_is_between hr (va_cons (v_ix (v_var (pv 0)) v_int) (va_cons v_int (va_cons (v_gint i_MOST_ROOMS ⟨_, rfl⟩) va_nil)))))))))) (vss_one (vs_ret v_bl)) vss_nil) (vss_cons (vs_if (t_pw (t_or (t_not (t_val (v_isi (T := "tuple") (hB _ (by decide +kernel)) (hB _ (by decide +kernel)) (v_ix (v_var (pv 0)) v_int)))) (t_or1 (t_not (t_chain o_le o_le v_int (v_callB c_len (hB _ (by decide +kernel)) (va_cons (v_ix (v_var (pv 0)) v_int) va_nil)) (v_gint i_MOST_DOORS ⟨_, rfl⟩)))))) (vss_one (vs_ret v_bl)) vss_nil) (vss_cons (vs_for PassesOwn.never rfl (vi_seq (v_ix (v_var (pv 0)) v_int)) (vg_name (pg_name (i := 1) S.nd rfl (by first | exact Or.inl rfl | exact Or.inr rfl))) (vss_one (vs_if (t_pw (t_or (t_not (t_val (v_callK k_are_between hr (va_cons (v_var (pv 1)) (va_cons v_int (va_cons (v_op o_sub (v_ix (v_var (pv 0)) v_int) v_int) va_nil)))))) (t_or (t_cmp (o_ne hr.r) (v_callB c_len (hB _ (by decide +kernel)) (va_cons (v_var (pv 1)) va_nil)) v_int (nomark _)) (t_or1 (t_cmp o_ge (v_ix (v_var (pv 1)) v_int) (v_ix (v_var (pv 1)) v_int) (nomark _)))))) (vss_one (vs_ret v_bl)) vss_nil))) (vss_one (vs_ret (v_callK k_is_ascending hr (va_cons (v_ix (v_var (pv 0)) v_int) va_nil))))))), ?_⟩
  clear hr S
  rintro _ M Q ⟨x0, rfl, h⟩
  rw [show vstart N_is_web.length [x0] = [some x0, none] from rfl]
  obtain ⟨n, ds, rfl, ⟨h1, h2, h3, h4, h5, h6⟩, h⟩ := h
  have e0 : ¬ (8 < n) := by omega
  simp [webD, p_is_between, h1, h2, e0]
  have e1 : (1 : Int) ≤ (ds.length : Int) := by omega
  have e2 : (ds.length : Int) ≤ 16 := by omega
  simp [e1, e2]
  refine sFor_by ⟨ds.map dD, fun _ => True⟩ (fun i e M' => M' = M ∧ ∃ d, e = [some (webD n ds), d]) (fun R r => ?_) ⟨rfl, _, rfl⟩ (fun _ _ _ _ _ => trivial) (fun i d e M' hd ⟨hM, d0, he⟩ => ?_) (fun e M' ⟨hM, d0, he⟩ => ?_)
  · simpa using r
  · subst hM he
    have hm := List.mem_of_getElem? hd
    obtain ⟨p, hp, rfl⟩ := List.mem_map.mp hm
    obtain ⟨g1, g2, g3⟩ := h5 p hp
    simp [webD, p_are_between, dD]
    refine ⟨[p.1, p.2], rfl, by simp, ?_⟩
    have g4 : 0 ≤ p.2 := by omega
    have g5 : p.1 ≤ n - 1 := by omega
    have g6 : ¬ p.2 ≤ p.1 := by omega
    simp [g1, g3, g4, g5, g6]
  · subst hM he
    simp [webD, p_is_ascending]
    exact ⟨ds, rfl, by omega, by rw [h6]; exact h⟩
abbrev N_check_web : List Str := ["web"]
abbrev P_check_web : List Str := ["web"]
theorem sc_check_web : FnScope N_check_web P_check_web (defScope s_check_web) := ⟨rfl, rfl, rfl, by decide +kernel, rfl, by decide +kernel, by decide +kernel⟩
def p_check_web : VSp := pr1 fun a M Q => ∃ n ds, a = webD n ds ∧ WebOk n ds ∧ Q .non M
theorem ok_check_web {P : Program} {w : World} {K : PySem.W.Frag} {mg : Str → Option Value} {base : Heap} (hD : Df K mg "check_web" s_check_web) (hB : Fr mg bl) (k_is_web : Kn P w K mg base 4 "is_web" P_is_web p_is_web) : Kn P w K mg base 5 "check_web" P_check_web p_check_web := by
  have S := sc_check_web
  refine kn_of hD sc_check_web (fun _ _ _ _ _ _ us hl => match us, hl with | [_], _ => rfl) pr1_len ?_
  intro f cdv A outer s H E hr
  refine ⟨_, (vss_one (vs_if (t_not (t_val (v_callK k_is_web hr (va_cons (v_var (pv 0)) va_nil)))) vss_never vss_nil)), ?_⟩
  clear hr S
  rintro _ M Q ⟨x0, rfl, h⟩
  rw [show vstart N_check_web.length [x0] = [some x0] from rfl]
  obtain ⟨n, ds, rfl, ok, h⟩ := h
  simp [p_is_web]
  exact ⟨n, ds, rfl, ok, by simpa using h⟩
def sideDs (one other : Int) : List (Int × Int) := ((List.range one.toNat).map fun i => (List.range other.toNat).map fun j => (((i : Nat) : Int), one + ((j : Nat) : Int))).flatten
abbrev N_sides_web : List Str := ["one", "other", "side", "doors", "room", "there"]
abbrev P_sides_web : List Str := ["one", "other"]
theorem sc_sides_web : FnScope N_sides_web P_sides_web (defScope s_sides_web) := ⟨rfl, rfl, rfl, by decide +kernel, rfl, by decide +kernel, by decide +kernel⟩
def p_sides_web : VSp := pr2 fun a b M Q => ∃ one other, a = .int one ∧ b = .int other ∧ 1 ≤ one ∧ 1 ≤ other ∧ one + other ≤ 8 ∧ Q (webD (one + other) (sideDs one other)) M
theorem ok_sides_web {P : Program} {w : World} {K : PySem.W.Frag} {mg : Str → Option Value} {base : Heap} (hD : Df K mg "sides_web" s_sides_web) (hB : Fr mg bl) {t_MOST_ROOMS : Tok} (i_MOST_ROOMS : mg "MOST_ROOMS" = some (.int 8 t_MOST_ROOMS)) (k_is_between : Kn P w K mg base 2 "is_between" P_is_between p_is_between) : Kn P w K mg base 3 "sides_web" P_sides_web p_sides_web := by
  have S := sc_sides_web
  refine kn_ofD hD sc_sides_web (fun _ _ _ _ _ _ us hl => match us, hl with | [_, _], _ => rfl) pr2_len ?_
  intro f cdv A outer s H E hr
  refine ⟨_, (vss_cons (vs_for PassesOwn.never rfl (vi_seq (v_tup (va_cons (v_var (pv 0)) (va_cons (v_var (pv 1)) va_nil)))) (vg_name (pg_name (i := 2) S.nd rfl (by first | exact Or.inl rfl | exact Or.inr rfl))) (vss_one (vs_if (t_not (t_val (v_callK k_is_between hr (va_cons (v_var (pv 2)) (va_cons v_int (va_cons (v_op o_sub (v_gint i_MOST_ROOMS ⟨_, rfl⟩) v_int) va_nil)))))) vss_never vss_nil))) (vss_cons (vs_if (t_cmp o_gt (v_op o_add (v_var (pv 0)) (v_var (pv 1))) (v_gint i_MOST_ROOMS ⟨_, rfl⟩) (nomark _)) vss_never vss_nil) (vss_cons (vs_set (i := 3) S.nd rfl (Or.inl rfl) (v_lstO va_nil)) (vss_cons (vs_for PassesOwn.never rfl (vi_range1 (hB _ (by decide +kernel)) (va_cons (v_var (pv 0)) va_nil)) (vg_name (pg_name (i := 4) S.nd rfl (by first | exact Or.inl rfl | exact Or.inr rfl))) (vss_one (vs_expr (v_extend (v_var (pv 3)) (va_cons (v_lc (own := [("there", 5)]) rfl S.nd (vi_range1 (hB _ (by decide +kernel)) (va_cons (v_var (pv 1)) va_nil)) (blkOk_by (by first | rfl | kernel_rfl)) (lcg_name (fun _ _ _ _ _ => pg_name (i := 5) S.nd rfl (by first | exact Or.inl rfl | exact Or.inr rfl))) (fun _ _ _ _ _ => vts_nil) (fun _ _ _ _ _ => (v_tup (va_cons (v_var (pv 4)) (va_cons (v_op o_add (v_var (pv 0)) (v_var (pv 5))) va_nil))))) va_nil))))) (vss_one (vs_ret (v_tup (va_cons (v_op o_add (v_var (pv 0)) (v_var (pv 1))) (va_cons (v_callTy c_tuple (hB _ (by decide +kernel)) (va_cons (v_var (pv 3)) va_nil)) va_nil))))))))), ?_⟩
  clear hr S
  rintro _ M Q ⟨x0, x1, rfl, h⟩
  rw [show vstart N_sides_web.length [x0, x1] = [some x0, some x1, none, none, none, none] from rfl]
  obtain ⟨one, other, rfl, rfl, g1, g2, g3, h⟩ := h
  simp
  refine sFor_al [one, other] D.int (fun i e M' => M' = M ∧ ∃ d, e = [some (.int one), some (.int other), d, none, none, none]) (w := ⟨_, fun _ => True⟩) (fun R r => ?_) rfl ⟨rfl, _, rfl⟩ (fun _ _ _ _ _ => trivial) (fun i d e M' hd _ ⟨hM, d0, he⟩ => ?_) (fun e M' ⟨hM, d0, he⟩ => ?_)
  · simpa using r
  · subst hM he
    have hm := List.mem_of_getElem? hd
    simp at hm
    have b1 : 1 ≤ d ∧ d ≤ 7 := by omega
    simp [p_is_between, b1]
  · subst hM he
    simp [g3]
    intro p hp
    refine sFor_al (List.range one.toNat) (fun i => .int (0 + ((i : Nat) : Int))) (fun i e M1 => Sub M' M1 ∧ M1 p = some (.lst ((((List.range i).map fun i => (List.range other.toNat).map fun j => (((i : Nat) : Int), one + ((j : Nat) : Int))).flatten).map dD)) ∧ ∃ d, e = [some (.int one), some (.int other), d0, some (.obj p), d, none]) (w := ⟨_, fun _ => True⟩) (fun R r => ?_) rfl ⟨Sub.new hp, by simp, _, rfl⟩ (fun _ _ _ _ _ => trivial) (fun i x e M1 hd hlt ⟨hs, hM, d1, he⟩ => ?_) (fun e M1 ⟨hs, hM, d1, he⟩ => ?_)
    · simpa [rgD, show -4611686018427387904 ≤ one by omega, show one < 4611686018427387904 by omega] using r
    · subst he
      simp at hlt
      rw [List.getElem?_range (by simpa using hlt)] at hd
      cases hd
      simp [hM]
      refine vLc_al (List.range other.toNat) (fun i => .int (0 + ((i : Nat) : Int))) (fun j => dD (((i : Nat) : Int), one + ((j : Nat) : Int))) (w := ⟨_, fun _ => True⟩) (fun R r => ?_) rfl trivial ?_ (fun x hx A hA => ?_) ?_
      · simpa [rgD, show -4611686018427387904 ≤ other by omega, show other < 4611686018427387904 by omega] using r
      · simp; have := size1000; omega
      · simpa [vwipe, dD] using hA
      · simp [hM, -List.length_flatten, -List.map_flatten]
        have sz := size1000
        have fl := flat_len (fun i : Nat => (List.range other.toNat).map fun j => (((i : Nat) : Int), one + ((j : Nat) : Int))) 8 (List.range i) (fun x _ => by simp; omega)
        rw [List.length_range] at fl
        exact ⟨by omega, Sub.wr hs hp, by simp [List.range_succ]⟩
    · subst he
      simp [VL.rTuple, asI, asL_obj hM]
      exact ⟨_, hs, by simpa [webD, sideDs] using h⟩
def fullDs (n : Nat) : List (Int × Int) := ((List.range n).map fun i => (List.range (n - 1 - i)).map fun j => (((i : Nat) : Int), ((i : Nat) : Int) + 1 + ((j : Nat) : Int))).flatten
abbrev N_full_web : List Str := ["rooms", "doors", "room", "there"]
abbrev P_full_web : List Str := ["rooms"]
theorem sc_full_web : FnScope N_full_web P_full_web (defScope s_full_web) := ⟨rfl, rfl, rfl, by decide +kernel, rfl, by decide +kernel, by decide +kernel⟩
def p_full_web : VSp := pr1 fun a M Q => ∃ n : Nat, a = .int n ∧ 2 ≤ n ∧ n ≤ 6 ∧ Q (webD n (fullDs n)) M
theorem ok_full_web {P : Program} {w : World} {K : PySem.W.Frag} {mg : Str → Option Value} {base : Heap} (hD : Df K mg "full_web" s_full_web) (hB : Fr mg bl) {t_MOST_FULL : Tok} (i_MOST_FULL : mg "MOST_FULL" = some (.int 6 t_MOST_FULL)) (k_is_between : Kn P w K mg base 2 "is_between" P_is_between p_is_between) : Kn P w K mg base 3 "full_web" P_full_web p_full_web := by
  have S := sc_full_web
  refine kn_ofD hD sc_full_web (fun _ _ _ _ _ _ us hl => match us, hl with | [_], _ => rfl) pr1_len ?_
  intro f cdv A outer s H E hr
  refine ⟨_, (vss_cons (vs_if (t_not (t_val (v_callK k_is_between hr (va_cons (v_var (pv 0)) (va_cons v_int (va_cons (v_gint i_MOST_FULL ⟨_, rfl⟩) va_nil)))))) vss_never vss_nil) (vss_cons (vs_set (i := 1) S.nd rfl (Or.inl rfl) (v_lstO va_nil)) (vss_cons (vs_for PassesOwn.never rfl (vi_range1 (hB _ (by decide +kernel)) (va_cons (v_var (pv 0)) va_nil)) (vg_name (pg_name (i := 2) S.nd rfl (by first | exact Or.inl rfl | exact Or.inr rfl))) (vss_one (vs_expr (v_extend (v_var (pv 1)) (va_cons (v_lc (own := [("there", 3)]) rfl S.nd (vi_range2 (hB _ (by decide +kernel)) (va_cons (v_op o_add (v_var (pv 2)) v_int) (va_cons (v_var (pv 0)) va_nil))) (blkOk_by (by first | rfl | kernel_rfl)) (lcg_name (fun _ _ _ _ _ => pg_name (i := 3) S.nd rfl (by first | exact Or.inl rfl | exact Or.inr rfl))) (fun _ _ _ _ _ => vts_nil) (fun _ _ _ _ _ => (v_tup (va_cons (v_var (pv 2)) (va_cons (v_var (pv 3)) va_nil))))) va_nil))))) (vss_one (vs_ret (v_tup (va_cons (v_var (pv 0)) (va_cons (v_callTy c_tuple (hB _ (by decide +kernel)) (va_cons (v_var (pv 1)) va_nil)) va_nil)))))))), ?_⟩
  clear hr S
  rintro _ M Q ⟨x0, rfl, h⟩
  rw [show vstart N_full_web.length [x0] = [some x0, none, none, none] from rfl]
  obtain ⟨n, rfl, g1, g2, h⟩ := h
  have b1 : (2 : Int) ≤ n ∧ (n : Int) ≤ 6 := by omega
  have b2 : ¬ ((n : Int) < 2 ∨ 6 < (n : Int)) := by omega
  simp [p_is_between, b1]
  intro p hp
  refine sFor_al (List.range n) (fun i => .int (0 + ((i : Nat) : Int))) (fun i e M1 => Sub M M1 ∧ M1 p = some (.lst ((((List.range i).map fun i => (List.range (n - 1 - i)).map fun j => (((i : Nat) : Int), ((i : Nat) : Int) + 1 + ((j : Nat) : Int))).flatten).map dD)) ∧ ∃ d, e = [some (.int n), some (.obj p), d, none]) (w := ⟨_, fun _ => True⟩) (fun R r => ?_) rfl ⟨Sub.new hp, by simp, _, rfl⟩ (fun _ _ _ _ _ => trivial) (fun i x e M1 hd hlt ⟨hs, hM, d1, he⟩ => ?_) (fun e M1 ⟨hs, hM, d1, he⟩ => ?_)
  · simpa [rgD, show -4611686018427387904 ≤ (n : Int) by omega, show (n : Int) < 4611686018427387904 by omega] using r
  · subst he
    simp at hlt
    rw [List.getElem?_range (by simpa using hlt)] at hd
    cases hd
    simp [hM]
    refine vLc_al (List.range (n - 1 - i)) (fun j => .int (((i : Nat) : Int) + 1 + ((j : Nat) : Int))) (fun j => dD (((i : Nat) : Int), ((i : Nat) : Int) + 1 + ((j : Nat) : Int))) (w := ⟨_, fun _ => True⟩) (fun R r => ?_) rfl trivial ?_ (fun x hx A hA => ?_) ?_
    · have e : ((n : Int) - ((i : Int) + 1)).toNat = n - 1 - i := by omega
      simpa [rgD, e, and_assoc, show -4611686018427387904 ≤ (n : Int) by omega, show (n : Int) < 4611686018427387904 by omega, show -4611686018427387904 ≤ (i : Int) + 1 by omega, show (i : Int) + 1 < 4611686018427387904 by omega] using r
    · simp; have := size1000; omega
    · simpa [vwipe, dD] using hA
    · simp [hM, -List.length_flatten, -List.map_flatten]
      have sz := size1000
      have fl := flat_len (fun i : Nat => (List.range (n - 1 - i)).map fun j => (((i : Nat) : Int), ((i : Nat) : Int) + 1 + ((j : Nat) : Int))) 8 (List.range i) (fun x _ => by simp; omega)
      rw [List.length_range] at fl
      exact ⟨by omega, Sub.wr hs hp, by simp [List.range_succ]⟩
  · subst he
    simp [VL.rTuple, asI, asL_obj hM]
    exact ⟨_, hs, by simpa [webD, fullDs] using h⟩
def rowD (r : List Int) : D := .lst (r.map D.int)
def gd (r : List Int) (i : Nat) : Int := r.getD i 0
def wo (row other : List Int) (at' : Nat) : List Int := (row.zip other).map fun p => p.1 * gd other at' - gd row at' * p.2
def Bd (b : Nat) (r : List Int) : Prop := ∀ x ∈ r, x.natAbs ≤ b
theorem zipD_ints (xs ys : List Int) : zipD (xs.map D.int) (ys.map D.int) = (xs.zip ys).map fun p => .tup [.int p.1, .int p.2] := by
  unfold zipD
  rw [List.zip_map, List.map_map]
  rfl
theorem getD_bd {b : Nat} {r : List Int} (h : Bd b r) (i : Nat) : (gd r i).natAbs ≤ b := by
  unfold gd
  rw [List.getD_eq_getElem?_getD]
  cases e : r[i]? with
  | none => simp
  | some x => exact h x (List.mem_of_getElem? e)
theorem at_getD {r : List Int} {i : Nat} (h : i < r.length) : (r.map D.int)[i]? = some (.int (gd r i)) := by
  unfold gd
  rw [List.getElem?_map, List.getD_eq_getElem?_getD, List.getElem?_eq_getElem h] <;> rfl
abbrev N_without : List Str := ["row", "other", "at", "entry", "its"]
abbrev P_without : List Str := ["row", "other", "at"]
theorem sc_without : FnScope N_without P_without (defScope s_without) := ⟨rfl, rfl, rfl, by decide +kernel, rfl, by decide +kernel, by decide +kernel⟩
def p_without : VSp := pr3 fun a b c M Q => ∃ (row other : List Int) (i : Nat), a = rowD row ∧ b = rowD other ∧ c = .int i ∧ i < row.length ∧ i < other.length ∧ row.length ≤ 1000 ∧ Bd 9223372036854775808 row ∧ Bd 9223372036854775808 other ∧ Q (rowD (wo row other i)) M
theorem ok_without {P : Program} {w : World} {K : PySem.W.Frag} {mg : Str → Option Value} {base : Heap} (hD : Df K mg "without" s_without) (hB : Fr mg bl) : Kn P w K mg base 1 "without" P_without p_without := by
  have S := sc_without
  refine kn_of hD sc_without (fun _ _ _ _ _ _ us hl => match us, hl with | [_, _, _], _ => rfl) pr3_len ?_
  intro f cdv A outer s H E hr
  refine ⟨_, (vss_one (vs_ret (v_lc (own := [("entry", 3), ("its", 4)]) rfl S.nd (vi_zip (hB _ (by decide +kernel)) (va_cons (v_var (pv 0)) (va_cons (v_var (pv 1)) va_nil))) (blkOk_by (by first | rfl | kernel_rfl)) (lcg_tup (n := 2) rfl (lcgs_cons (lcg_name (fun _ _ _ _ _ => pg_name (i := 3) S.nd rfl (by first | exact Or.inl rfl | exact Or.inr rfl))) (lcgs_cons (lcg_name (fun _ _ _ _ _ => pg_name (i := 4) S.nd rfl (by first | exact Or.inl rfl | exact Or.inr rfl))) lcgs_nil))) (fun _ _ _ _ _ => vts_nil) (fun _ _ _ _ _ => (v_op o_sub (v_op o_mulI (v_var (pv 3)) (v_ix (v_var (pv 1)) (v_var (pv 2)))) (v_op o_mulI (v_ix (v_var (pv 0)) (v_var (pv 2))) (v_var (pv 4)))))))), ?_⟩
  clear hr S
  rintro _ M Q ⟨x0, x1, x2, rfl, h⟩
  rw [show vstart N_without.length [x0, x1, x2] = [some x0, some x1, some x2, none, none] from rfl]
  obtain ⟨row, other, i, rfl, rfl, rfl, h1, h2, h3, b1, b2, h⟩ := h
  simp
  refine vLc_al (row.zip other) (fun p => .tup [.int p.1, .int p.2]) (fun p => .int (p.1 * gd other i - gd row i * p.2)) (w := ⟨zipD (row.map D.int) (other.map D.int), fun _ => True⟩) (fun R r => ?_) (zipD_ints _ _) trivial ?_ (fun p hp A hA => ?_) ?_
  · simpa [rowD, and_assoc] using r
  · have := size1000; simp; omega
  · have hm := List.of_mem_zip (show (p.1, p.2) ∈ row.zip other from hp)
    have c1 := b1 p.1 hm.1
    have c2 := b2 p.2 hm.2
    have d1 := getD_bd b1 i
    simp [vwipe, rowD, atI_k, at_getD h1, at_getD h2]
    exact ⟨.inl (by omega), .inl (by omega), hA⟩
  · simpa [rowD, wo, Function.comp_def] using h
end K52
namespace K52
open PySem PySem.Spec L2 VL
def nz (r : List Int) : List Nat := (List.range r.length).filter fun i => decide (gd r i ≠ 0)
def rkA : Nat → List (List Int) → Nat
  | 0, _ => 0
  | _ + 1, [] => 0
  | f + 1, head :: rest => match nz head with
    | [] => rkA f rest
    | a :: _ => rkA f (rest.map fun row => wo row head a) + 1
def bd : Nat → Nat
  | 0 => 1
  | k + 1 => 2 * (bd k * bd k)
theorem bd_mono1 (k : Nat) : bd k ≤ bd (k + 1) := by
  show bd k ≤ 2 * (bd k * bd k)
  have h : 1 ≤ bd k ∨ bd k = 0 := by omega
  rcases h with h | h
  · have := Nat.mul_le_mul h (Nat.le_refl (bd k))
    omega
  · omega
theorem bd_mono {i j : Nat} (h : i ≤ j) : bd i ≤ bd j := by
  induction h with
  | refl => exact Nat.le_refl _
  | step _ ih => exact Nat.le_trans ih (bd_mono1 _)
theorem Bd.mono {i j : Nat} {r : List Int} (h : Bd i r) (l : i ≤ j) : Bd j r := fun x hx => Nat.le_trans (h x hx) l
theorem wo_bd {k : Nat} {r o : List Int} {i : Nat} (h1 : Bd (bd k) r) (h2 : Bd (bd k) o) : Bd (bd (k + 1)) (wo r o i) := by
  intro x hx
  obtain ⟨p, hp, rfl⟩ := List.mem_map.mp hx
  have hm := List.of_mem_zip (show (p.1, p.2) ∈ r.zip o from hp)
  have c1 := Nat.mul_le_mul (h1 p.1 hm.1) (getD_bd h2 i)
  have c2 := Nat.mul_le_mul (getD_bd h1 i) (h2 p.2 hm.2)
  rw [← Int.natAbs_mul] at c1 c2
  show _ ≤ 2 * (bd k * bd k)
  omega
theorem wo_len {r o : List Int} {i : Nat} (h : r.length = o.length) : (wo r o i).length = r.length := by
  simp [wo, h]
theorem sh_row {n : Nat} (r : List Int) : Sh (n + 1) (rowD r) := fun x hx => by
  obtain ⟨i, _, rfl⟩ := List.mem_map.mp hx
  exact sh_int
theorem en_row (r : List Int) : enD (r.map D.int) = (List.range r.length).map fun i => .tup [.int ((i : Nat) : Int), .int (gd r i)] := by
  unfold enD
  rw [List.length_map]
  refine List.map_congr_left fun i hi => ?_
  have hi' : i < r.length := List.mem_range.mp hi
  have e : (r.map D.int).getD i .non = .int (gd r i) := by
    rw [List.getD_eq_getElem?_getD, at_getD hi'] <;> rfl
  rw [e]
abbrev N_rank_of : List Str := ["rows", "found", "head", "at", "place", "entry", "row"]
abbrev P_rank_of : List Str := ["rows"]
theorem sc_rank_of : FnScope N_rank_of P_rank_of (defScope s_rank_of) := ⟨rfl, rfl, rfl, by decide +kernel, rfl, by decide +kernel, by decide +kernel⟩
def p_rank_of : VSp := pr1 fun a M Q => ∃ (rows : List (List Int)) (c : Nat), a = .lst (rows.map rowD) ∧ rows.length ≤ 7 ∧ c ≤ 100 ∧ (∀ r ∈ rows, r.length = c ∧ Bd 1 r) ∧ Q (.int (rkA rows.length rows)) M
theorem ok_rank_of {P : Program} {w : World} {K : PySem.W.Frag} {mg : Str → Option Value} {base : Heap} (hD : Df K mg "rank_of" s_rank_of) (hB : Fr mg bl) (k_without : Kn P w K mg base 1 "without" P_without p_without) : Kn P w K mg base 2 "rank_of" P_rank_of p_rank_of := by
  have S := sc_rank_of
  refine kn_of hD sc_rank_of (fun _ _ _ _ _ _ us hl => match us, hl with | [_], _ => rfl) pr1_len ?_
  intro f cdv A outer s H E hr
  refine ⟨_, (vss_cons (vs_set (i := 1) S.nd rfl (Or.inl rfl) v_int) (vss_cons (vs_while PassesOwn.never (t_cmp (o_ne hr.r) (v_var (pv 0)) (v_lst va_nil) (nomark _)) (vss_cons (vs_set (i := 2) S.nd rfl (Or.inr rfl) (v_ix (v_var (pv 0)) v_int)) (vss_cons (vs_set (i := 3) S.nd rfl (Or.inr rfl) (v_lc (own := [("place", 4), ("entry", 5)]) rfl S.nd (vi_enum (hB _ (by decide +kernel)) (va_cons (v_var (pv 2)) va_nil)) (blkOk_by (by first | rfl | kernel_rfl)) (lcg_tup (n := 2) rfl (lcgs_cons (lcg_name (fun _ _ _ _ _ => pg_name (i := 4) S.nd rfl (by first | exact Or.inl rfl | exact Or.inr rfl))) (lcgs_cons (lcg_name (fun _ _ _ _ _ => pg_name (i := 5) S.nd rfl (by first | exact Or.inl rfl | exact Or.inr rfl))) lcgs_nil))) (fun _ _ _ _ _ => (vts_one (t_cmp (o_ne hr.r) (v_var (pv 5)) v_int (nomark _)))) (fun _ _ _ _ _ => (v_var (pv 4))))) (vss_cons (vs_setLc (i := 0) (hc := rfl) (hN := S.nd) (hy := rfl) (hyl := rfl) (hsw := sw_true rfl rfl rfl (by decide +kernel))  (own := [("row", 6)]) (vi_seq (v_sl (v_var (pv 0)) (vo_some v_int) vo_none)) (blkOk_by (by first | rfl | kernel_rfl)) (lcg_name (fun _ _ _ _ _ => pg_name (i := 6) S.nd rfl (by first | exact Or.inl rfl | exact Or.inr rfl))) (fun _ _ _ _ _ => vts_nil) (fun _ _ _ _ _ => (v_if (t_cmp (o_ne hr.r) (v_var (pv 3)) (v_lst va_nil) (nomark _)) (v_callK k_without hr (va_cons (v_var (pv 6)) (va_cons (v_var (pv 2)) (va_cons (v_ix (v_var (pv 3)) v_int) va_nil)))) (v_var (pv 6))))) (vss_one (vs_set (i := 1) S.nd rfl (Or.inl rfl) (v_op o_add (v_var (pv 1)) (v_callTy c_int (hB _ (by decide +kernel)) (va_cons (v_cmp (o_ne hr.r) (v_var (pv 3)) (v_lst va_nil) (nomark _)) va_nil))))))))) (vss_one (vs_ret (v_var (pv 1)))))), ?_⟩
  clear hr S
  rintro _ M Q ⟨x0, rfl, h⟩
  rw [show vstart N_rank_of.length [x0] = [some x0, none, none, none, none, none, none] from rfl]
  obtain ⟨rows0, c, rfl, h7, hc, hr0, h⟩ := h
  simp
  refine ⟨fun m e M' => M' = M ∧ ∃ rows found d2 d3, m = rows.length ∧ rows.length ≤ 7 ∧ (∀ r ∈ rows, r.length = c ∧ Bd (bd (7 - rows.length)) r) ∧ e = [some (.lst (rows.map rowD)), some (.int found), d2, d3, none, none, none] ∧ found + rkA rows.length rows = rkA rows0.length rows0, ⟨_, rfl, rows0, 0, _, _, rfl, h7, fun r hr => ⟨(hr0 r hr).1, (hr0 r hr).2.mono (bd_mono (Nat.zero_le _))⟩, rfl, by simp⟩, ?_⟩
  rintro m e M' ⟨rfl, rows, found, d2, d3, rfl, hl, hr, rfl, ht⟩
  simp
  refine oNe_nil rfl (fun x hx => by obtain ⟨r, _, rfl⟩ := List.mem_map.mp hx; exact sh_row r) ?_
  cases rows with
  | nil =>
    simp
    have e : found = rkA rows0.length rows0 := by
      have : rkA ([] : List (List Int)).length [] = 0 := rfl
      rw [this] at ht; omega
    rw [e]; exact h
  | cons head rest =>
    simp
    obtain ⟨hh1, hh2⟩ := hr head List.mem_cons_self
    have b63 : bd (7 - (head :: rest).length) ≤ 9223372036854775808 := Nat.le_trans (bd_mono (j := 6) (by simp <;> omega)) (by decide)
    refine vLc_alF (List.range head.length) (fun i => .tup [.int ((i : Nat) : Int), .int (gd head i)]) (fun i => decide (gd head i ≠ 0)) (fun i => .int (i : Nat)) (w := ⟨enD (head.map D.int), fun M' => asL M' (rowD head) = some (head.map D.int)⟩) (fun R r => ?_) (en_row head) rfl (by have := size1000; rw [List.length_range]; omega) (fun i hi A B hA hB => ?_) ?_
    · simpa [rowD] using r
    · by_cases z : gd head i = 0
      · simp [z] at hA hB
        simp [vwipe, z]; exact hB
      · simp [z] at hA hB
        simp [vwipe, z]; exact hA
    · show VL.vLc _ _ _ _ _ _ _ _
      rw [show (List.filter (fun i => decide (gd head i ≠ 0)) (List.range head.length)) = nz head from rfl]
      have hrest : ∀ r ∈ rest, r.length = c ∧ Bd (bd (7 - (head :: rest).length)) r := fun r hr' => hr r (List.mem_cons_of_mem _ hr')
      have e7 : 7 - rest.length = 7 - (head :: rest).length + 1 := by simp at hl ⊢; omega
      have shn : ∀ x ∈ (nz head).map fun i => D.int ((i : Nat) : Int), Sh 29 x := fun x hx => by
        obtain ⟨i, _, rfl⟩ := List.mem_map.mp hx; exact sh_int
      cases hz : nz head with
      | nil =>
        refine vLc_al rest rowD rowD (w := ⟨rest.map rowD, fun _ => True⟩) (fun R r => ?_) rfl trivial (by have := size1000; simp at hl; omega) (fun r hr' A hA => ?_) ?_
        · simpa [cut_tail] using r
        · simp [vwipe]
          refine oNe_nil (xs := []) rfl (fun _ z => nomatch z) ?_
          simpa using hA
        · refine oNe_nil (xs := []) rfl (fun _ z => nomatch z) ?_
          simp
          have ek : rkA (head :: rest).length (head :: rest) = rkA rest.length rest := by
            show (match nz head with | [] => rkA rest.length rest | a :: _ => _) = _
            rw [hz]
          rw [ek] at ht
          exact ⟨rest.length, by omega, rest, rfl, by simp at hl; omega, fun r hr' => ⟨(hrest r hr').1, (hrest r hr').2.mono (bd_mono (by simp; omega))⟩, _, ⟨rfl, rfl⟩, by omega⟩
      | cons a as =>
        have ha : a < head.length := by
          have : a ∈ nz head := by rw [hz]; exact List.mem_cons_self
          have := (List.mem_filter.mp this).1
          exact List.mem_range.mp this
        refine vLc_al rest rowD (fun r => rowD (wo r head a)) (w := ⟨rest.map rowD, fun _ => True⟩) (fun R r => ?_) rfl trivial (by have := size1000; simp at hl; omega) (fun r hr' A hA => ?_) ?_
        · simpa [cut_tail] using r
        · simp [vwipe]
          refine oNe_nil (xs := ((a :: as).map fun i => D.int ((i : Nat) : Int))) (by simp) (by rw [← hz]; exact shn) ?_
          simp
          exact pr3_at.mpr ⟨r, head, a, rfl, rfl, rfl, by rw [(hrest r hr').1, ← hh1]; exact ha, ha, by rw [(hrest r hr').1]; omega, (hrest r hr').2.mono b63, hh2.mono b63, hA⟩
        · refine oNe_nil (xs := ((a :: as).map fun i => D.int ((i : Nat) : Int))) (by simp) (by rw [← hz]; exact shn) ?_
          simp
          have ek : rkA (head :: rest).length (head :: rest) = rkA rest.length (rest.map fun row => wo row head a) + 1 := by
            show (match nz head with | [] => rkA rest.length rest | a :: _ => rkA rest.length (rest.map fun row => wo row head a) + 1) = _
            rw [hz]
          rw [ek] at ht
          refine ⟨rest.length, by omega, rest.map fun row => wo row head a, by simp, by simp at hl ⊢; omega, fun r hr' => ?_, _, ⟨by simp [Function.comp_def], rfl⟩, ?_⟩
          · obtain ⟨r0, h0, rfl⟩ := List.mem_map.mp hr'
            rw [List.length_map, e7]
            exact ⟨by rw [wo_len (by rw [(hrest r0 h0).1, hh1])]; exact (hrest r0 h0).1, wo_bd (hrest r0 h0).2 hh2⟩
          · rw [List.length_map]; omega
def inc (r : Int) (d : Int × Int) : Int := if d.1 = r ∨ d.2 = r then 1 else 0
def rowsOf (n : Nat) (ds : List (Int × Int)) : List (List Int) := (List.range (n - 1)).map fun i => ds.map fun d => inc (((i : Nat) : Int) + 1) d - inc 0 d
def spN (n : Nat) (ds : List (Int × Int)) : Int := (ds.length : Int) - (rkA (n - 1) (rowsOf n ds) : Nat)
theorem in_dD (r : Int) (d : Int × Int) (M : Mem) (Q : VL.VK) (q : Q (.bl (decide (d.1 = r ∨ d.2 = r))) M) : oIn (.int r) (dD d) M Q := by
  refine ⟨[.int d.1, .int d.2], rfl, sh_int, fun z hz => ?_, ?_⟩
  · simp at hz
    rcases hz with rfl | rfl <;> exact sh_int
  · have e : inD (.int r) [.int d.1, .int d.2] = decide (d.1 = r ∨ d.2 = r) := by
      simp only [inD, List.any_cons, List.any_nil, eqD_int, Bool.or_false]
      by_cases h1 : d.1 = r <;> by_cases h2 : d.2 = r <;> simp [h1, h2]
    rw [e]; exact q
theorem b2i_inc (r : Int) (d : Int × Int) : (if decide (d.1 = r ∨ d.2 = r) = true then (1 : Int) else 0) = inc r d := by
  unfold inc
  by_cases h : d.1 = r ∨ d.2 = r <;> simp [h]
theorem range_tail (n : Nat) : (List.range n).tail = (List.range (n - 1)).map (· + 1) := by
  cases n with
  | zero => rfl
  | succ n => rw [List.range_succ_eq_map, List.tail_cons, Nat.add_sub_cancel]
theorem inc_bd (a b : Int) (d : Int × Int) : (inc a d - inc b d).natAbs ≤ 1 := by
  unfold inc
  split <;> split <;> decide
abbrev N_space : List Str := ["web", "at", "rows", "room", "door", "row", "here", "first"]
abbrev P_space : List Str := ["web"]
theorem sc_space : FnScope N_space P_space (defScope s_space) := ⟨rfl, rfl, rfl, by decide +kernel, rfl, by decide +kernel, by decide +kernel⟩
def p_space : VSp := pr1 fun a M Q => ∃ (n : Nat) (ds : List (Int × Int)), a = webD n ds ∧ WebOk n ds ∧ Q (.int (spN n ds)) M
theorem ok_space {P : Program} {w : World} {K : PySem.W.Frag} {mg : Str → Option Value} {base : Heap} (hD : Df K mg "space" s_space) (hB : Fr mg bl) (k_check_web : Kn P w K mg base 5 "check_web" P_check_web p_check_web) (k_rank_of : Kn P w K mg base 2 "rank_of" P_rank_of p_rank_of) : Kn P w K mg base 6 "space" P_space p_space := by
  have S := sc_space
  refine kn_of hD sc_space (fun _ _ _ _ _ _ us hl => match us, hl with | [_], _ => rfl) pr1_len ?_
  intro f cdv A outer s H E hr
  refine ⟨_, (vss_cons (vs_expr (v_callK k_check_web hr (va_cons (v_var (pv 0)) va_nil))) (vss_cons (vs_set (i := 1) S.nd rfl (Or.inr rfl) (v_lc (own := [("room", 3)]) rfl S.nd (vi_range1 (hB _ (by decide +kernel)) (va_cons (v_ix (v_var (pv 0)) v_int) va_nil)) (blkOk_by (by first | rfl | kernel_rfl)) (lcg_name (fun _ _ _ _ _ => pg_name (i := 3) S.nd rfl (by first | exact Or.inl rfl | exact Or.inr rfl))) (fun _ _ _ _ _ => vts_nil) (fun _ _ _ _ _ => (v_lc (own := [("door", 4)]) rfl S.nd (vi_seq (v_ix (v_var (pv 0)) v_int)) (blkOk_by (by first | rfl | kernel_rfl)) (lcg_name (fun _ _ _ _ _ => pg_name (i := 4) S.nd rfl (by first | exact Or.inl rfl | exact Or.inr rfl))) (fun _ _ _ _ _ => vts_nil) (fun _ _ _ _ _ => (v_callTy c_int (hB _ (by decide +kernel)) (va_cons (v_cmp (o_in hr.r) (v_var (pv 3)) (v_var (pv 4)) (by with_unfolding_all rfl)) va_nil))))))) (vss_cons (vs_setLc (i := 2) (hc := rfl) (hN := S.nd) (hy := rfl) (hyl := rfl) (hsw := sw_true rfl rfl rfl (by decide +kernel))  (own := [("row", 5)]) (vi_seq (v_sl (v_var (pv 1)) (vo_some v_int) vo_none)) (blkOk_by (by first | rfl | kernel_rfl)) (lcg_name (fun _ _ _ _ _ => pg_name (i := 5) S.nd rfl (by first | exact Or.inl rfl | exact Or.inr rfl))) (fun _ _ _ _ _ => vts_nil) (fun _ _ _ _ _ => (v_lc (own := [("here", 6), ("first", 7)]) rfl S.nd (vi_zip (hB _ (by decide +kernel)) (va_cons (v_var (pv 5)) (va_cons (v_ix (v_var (pv 1)) v_int) va_nil))) (blkOk_by (by first | rfl | kernel_rfl)) (lcg_tup (n := 2) rfl (lcgs_cons (lcg_name (fun _ _ _ _ _ => pg_name (i := 6) S.nd rfl (by first | exact Or.inl rfl | exact Or.inr rfl))) (lcgs_cons (lcg_name (fun _ _ _ _ _ => pg_name (i := 7) S.nd rfl (by first | exact Or.inl rfl | exact Or.inr rfl))) lcgs_nil))) (fun _ _ _ _ _ => vts_nil) (fun _ _ _ _ _ => (v_op o_sub (v_var (pv 6)) (v_var (pv 7))))))) (vss_one (vs_ret (v_op o_sub (v_callB c_len (hB _ (by decide +kernel)) (va_cons (v_ix (v_var (pv 0)) v_int) va_nil)) (v_callK k_rank_of hr (va_cons (v_var (pv 2)) va_nil)))))))), ?_⟩
  clear hr S
  rintro _ M Q ⟨x0, rfl, h⟩
  rw [show vstart N_space.length [x0] = [some x0, none, none, none, none, none, none, none] from rfl]
  obtain ⟨n, ds, rfl, ok, h⟩ := h
  obtain ⟨w1, w2, w3, w4, w5, w6⟩ := id ok
  have sz := size1000
  simp
  refine pr1_at.mpr ⟨n, ds, rfl, ok, ?_⟩
  refine vLc_al (List.range n) (fun i => .int (0 + ((i : Nat) : Int))) (fun i => rowD (ds.map (inc ((i : Nat) : Int)))) (w := ⟨_, fun _ => True⟩) (fun R r => ?_) rfl trivial (by simp; omega) (fun i hi A hA => ?_) ?_
  · simpa [webD, rgD, show -4611686018427387904 ≤ (n : Int) by omega, show (n : Int) < 4611686018427387904 by omega] using r
  · simp [webD, vwipe]
    refine vLc_al ds dD (fun d => .int (inc ((i : Nat) : Int) d)) (w := ⟨ds.map dD, fun _ => True⟩) (fun R r => ?_) rfl trivial (by omega) (fun d hd B hB => ?_) ?_
    · simpa using r
    · simp [vwipe]
      refine in_dD _ _ _ _ ?_
      have := b2i_inc ((i : Nat) : Int) d
      simp at this ⊢
      rw [this]; exact hB
    · simpa [rowD, Function.comp_def] using hA
  · simp [webD]
    refine vLc_al (List.range (n - 1)) (fun i => rowD (ds.map (inc (((i : Nat) : Int) + 1)))) (fun i => rowD (ds.map fun d => inc (((i : Nat) : Int) + 1) d - inc 0 d)) (w := ⟨((List.range n).map fun i => rowD (ds.map (inc ((i : Nat) : Int)))).tail, fun _ => True⟩) (fun R r => ?_) ?_ trivial (by simp; omega) (fun i hi A hA => ?_) ?_
    · simpa [cut_tail] using r
    · show ((List.range n).map fun i => rowD (ds.map (inc ((i : Nat) : Int)))).tail = _
      rw [← List.map_tail, range_tail, List.map_map]
      refine List.map_congr_left fun i _ => ?_
      simp
    · simp [vwipe]
      refine vLc_al ds (fun d => .tup [.int (inc (((i : Nat) : Int) + 1) d), .int (inc 0 d)]) (fun d => .int (inc (((i : Nat) : Int) + 1) d - inc 0 d)) (w := ⟨zipD ((ds.map (inc (((i : Nat) : Int) + 1))).map D.int) ((ds.map (inc 0)).map D.int), fun _ => True⟩) (fun R r => ?_) ?_ trivial (by omega) (fun d hd B hB => ?_) ?_
      · have e0 : ((List.range n).map fun i => rowD (ds.map (inc ((i : Nat) : Int))))[0]? = some (rowD (ds.map (inc 0))) := by
          rw [List.getElem?_map, List.getElem?_range (by omega)] <;> rfl
        have r2 := r
        simp at r2
        have e00 : (List.range n)[0]? = some 0 := List.getElem?_range (by omega)
        simp [e0, e00, rowD, and_assoc]
        exact r2
      · rw [zipD_ints]
        rw [List.zip_map', List.map_map] <;> rfl
      · simpa [vwipe] using hB
      · simpa [rowD, Function.comp_def] using hA
    · have hlen : (rowsOf n ds).length = n - 1 := by simp [rowsOf]
      refine pr1_at.mpr ⟨rowsOf n ds, ds.length, by simp [rowsOf, Function.comp_def], by omega, by omega, fun r hr => ?_, ?_⟩
      · obtain ⟨i, _, rfl⟩ := List.mem_map.mp hr
        refine ⟨by simp, fun x hx => ?_⟩
        obtain ⟨d, _, rfl⟩ := List.mem_map.mp hx
        exact inc_bd _ _ _
      · rw [hlen]
        simpa [spN] using h
end K52
namespace K52
open PySem PySem.Spec L2 VL
/-- the pot: its own digits, a seed, how often it was asked -/
def Pot (B : Nat) (l : List D) : Prop := ∃ own x n : Int, l = [.int own, .int x, .int n] ∧ 0 ≤ own ∧ 0 ≤ x ∧ x < 4611686018427387904 ∧ 0 ≤ n ∧ n ≤ B
theorem pow1 : PowOk 10 60 := by unfold PowOk; decide +kernel
theorem pow18 : PowOk 10 18 := by unfold PowOk; decide +kernel
theorem pow2 : PowOk (10 ^ 60) 5 := by unfold PowOk; decide +kernel
abbrev N__law_pot : List Str := ["script", "place", "cell", "own", "small"]
abbrev P__law_pot : List Str := ["script", "place"]
theorem sc__law_pot : FnScope N__law_pot P__law_pot (defScope s__law_pot) := ⟨rfl, rfl, rfl, by decide +kernel, rfl, by decide +kernel, by decide +kernel⟩
def p__law_pot : VSp := pr2 fun a b M Q => ∃ (ns : List Int) (i : Nat), a = .rd (ns.map D.int) ∧ b = .int i ∧ i < 1000 ∧ ns.length ≤ 100000 ∧ ∀ p l, M p = none → Pot 0 l → Q (.obj p) (mupd M p (.lst l))
theorem ok__law_pot {P : Program} {w : World} {K : PySem.W.Frag} {mg : Str → Option Value} {base : Heap} (hD : Df K mg "_law_pot" s__law_pot) (hB : Fr mg bl) : Kn P w K mg base 1 "_law_pot" P__law_pot p__law_pot := by
  have S := sc__law_pot
  refine kn_of hD sc__law_pot (fun _ _ _ _ _ _ us hl => match us, hl with | [_, _], _ => rfl) pr2_len ?_
  intro f cdv A outer s H E hr
  refine ⟨_, (vss_cons (vs_set (i := 2) S.nd rfl (Or.inl rfl) (v_if (t_cmp o_lt (v_var (pv 1)) (v_callB c_len (hB _ (by decide +kernel)) (va_cons (v_var (pv 0)) va_nil)) (nomark _)) (v_ix (v_var (pv 0)) (v_var (pv 1))) (v_op o_add (v_op o_add (v_op o_mod (v_callB (c_sum rfl) (hB _ (by decide +kernel)) (va_cons (v_sl (v_var (pv 0)) vo_none (vo_some v_int)) va_nil)) v_int) (v_op o_mulI v_int (v_var (pv 1)))) v_int))) (vss_cons (vs_set (i := 3) S.nd rfl (Or.inl rfl) (v_op o_mulI (v_op o_mod (v_callTy c_int (hB _ (by decide +kernel)) (va_cons (v_callB c_abs (hB _ (by decide +kernel)) (va_cons (v_var (pv 2)) va_nil)) va_nil)) (v_op o_pow (v_op o_pow v_int v_int) v_int)) (v_callTy c_int (hB _ (by decide +kernel)) (va_cons (v_cmp o_ge (v_callB c_abs (hB _ (by decide +kernel)) (va_cons (v_var (pv 2)) va_nil)) (v_op o_pow v_int v_int) (nomark _)) va_nil)))) (vss_cons (vs_set (i := 4) S.nd rfl (Or.inl rfl) (v_op o_mod (v_callTy c_int (hB _ (by decide +kernel)) (va_cons (v_var (pv 2)) va_nil)) v_int)) (vss_one (vs_ret (v_lstO (va_cons (v_var (pv 3)) (va_cons (v_op o_mod (v_callTy c_int (hB _ (by decide +kernel)) (va_cons (v_op o_add (v_op o_add (v_op o_mulI (v_var (pv 4)) v_int) (v_op o_mulI (v_op o_mulI v_int (v_var (pv 1))) (v_var (pv 1)))) v_int) va_nil)) v_int) (va_cons v_int va_nil))))))))), ?_⟩
  clear hr S
  rintro _ M Q ⟨x0, x1, rfl, h⟩
  rw [show vstart N__law_pot.length [x0, x1] = [some x0, some x1, none, none, none] from rfl]
  obtain ⟨ns, i, rfl, rfl, hi, hl, h⟩ := h
  rcases Nat.lt_or_ge i ns.length with hc | hc
  · obtain ⟨cell, e⟩ : ∃ cell, (ns.map D.int)[i]? = some (.int cell) := ⟨ns[i], by simp [hc]⟩
    simp [hc, atI_k, e, -List.getElem?_map]
    refine ⟨pow1, by simpa using pow2, pow18, .inr (.inl ite01a), .inr (.inl (by decide)), .inl (by decide), .inr (.inl (by omega)), fun p hp => h p _ hp ⟨_, _, 0, rfl, Int.mul_nonneg (Int.emod_nonneg _ (by decide)) ite01, Int.emod_nonneg _ (by decide), ?_, by omega, by omega⟩⟩
    have := Int.emod_lt_of_pos (cell % 2305843009213693951 * 67651 + 6997 * ↑i * ↑i + 1013) (show (0 : Int) < 2305843009213693921 by decide)
    omega
  · have hc' : ¬ (i < ns.length) := by omega
    have hs : cutD (ns.map D.int) none (some 1) = (ns.take 1).map D.int := by
      have := cut_take (ns.map D.int) 1
      rw [List.map_take] at *
      exact this
    simp [hc', VL.rSum, hs, -List.map_take]
    refine ⟨ns.take 1, rfl, ?_⟩
    generalize (ns.take 1).sum % 1000303 + 5419 * ↑i + 829 = cell
    refine ⟨.inl (by decide), pow1, by simpa using pow2, pow18, .inr (.inl ite01a), .inr (.inl (by decide)), .inl (by decide), .inr (.inl (by omega)), fun p hp => h p _ hp ⟨_, _, 0, rfl, Int.mul_nonneg (Int.emod_nonneg _ (by decide)) ite01, Int.emod_nonneg _ (by decide), ?_, by omega, by omega⟩⟩
    have := Int.emod_lt_of_pos (cell % 2305843009213693951 * 67651 + 6997 * ↑i * ↑i + 1013) (show (0 : Int) < 2305843009213693921 by decide)
    omega
abbrev N__law_take : List Str := ["pot", "upto", "digit", "prime", "blend"]
abbrev P__law_take : List Str := ["pot", "upto"]
theorem sc__law_take : FnScope N__law_take P__law_take (defScope s__law_take) := ⟨rfl, rfl, rfl, by decide +kernel, rfl, by decide +kernel, by decide +kernel⟩
def p__law_take : VSp := pr2 fun a b M Q => ∃ (p : Addr) (l : List D) (B : Nat) (up : Nat), a = .obj p ∧ b = .int up ∧ M p = some (.lst l) ∧ Pot B l ∧ B < 1000000 ∧ 0 < up ∧ up ≤ 1000000 ∧ ∀ (d : Nat) l', d < up → Pot (B + 1) l' → Q (.int d) (mupd M p (.lst l'))
theorem ok__law_take {P : Program} {w : World} {K : PySem.W.Frag} {mg : Str → Option Value} {base : Heap} (hD : Df K mg "_law_take" s__law_take) (hB : Fr mg bl) : Kn P w K mg base 1 "_law_take" P__law_take p__law_take := by
  have S := sc__law_take
  refine kn_ofD hD sc__law_take (fun _ _ _ _ _ _ us hl => match us, hl with | [_, _], _ => rfl) pr2_len ?_
  intro f cdv A outer s H E hr
  refine ⟨_, (vss_cons (vs_if (t_cmp o_gt (v_ix (v_var (pv 0)) v_int) v_int (nomark _)) (vss_cons (vs_set (i := 2) S.nd rfl (Or.inl rfl) (v_op o_mod (v_callTy c_int (hB _ (by decide +kernel)) (va_cons (v_ix (v_var (pv 0)) v_int) va_nil)) (v_var (pv 1)))) (vss_cons (vs_asg (v_op o_fdiv (v_ix (v_var (pv 0)) v_int) (v_var (pv 1))) (vg_subL (v_var (pv 0)) v_int)) (vss_one (vs_ret (v_var (pv 2)))))) vss_nil) (vss_cons (vs_asg (v_op o_add (v_ix (v_var (pv 0)) v_int) v_int) (vg_subL (v_var (pv 0)) v_int)) (vss_cons (vs_set (i := 3) S.nd rfl (Or.inl rfl) (v_ix (v_lst (va_cons v_int (va_cons v_int (va_cons v_int (va_cons v_int (va_cons v_int va_nil)))))) (v_op o_mod (v_callTy c_int (hB _ (by decide +kernel)) (va_cons (v_ix (v_var (pv 0)) v_int) va_nil)) v_int))) (vss_cons (vs_set (i := 4) S.nd rfl (Or.inl rfl) (v_op o_mod (v_callTy c_int (hB _ (by decide +kernel)) (va_cons (v_op o_pow (v_callTy c_int (hB _ (by decide +kernel)) (va_cons (v_op o_add (v_op o_add (v_ix (v_var (pv 0)) v_int) (v_op o_mulI (v_op o_mulI v_int (v_ix (v_var (pv 0)) v_int)) (v_ix (v_var (pv 0)) v_int))) v_int) va_nil)) v_int) va_nil)) (v_var (pv 3)))) (vss_cons (vs_set (i := 4) S.nd rfl (Or.inl rfl) (v_op o_mod (v_callTy c_int (hB _ (by decide +kernel)) (va_cons (v_op o_mulI (v_var (pv 4)) (v_op o_add (v_op o_mod (v_callTy c_int (hB _ (by decide +kernel)) (va_cons (v_var (pv 4)) va_nil)) v_int) (v_op o_mulI v_int (v_ix (v_var (pv 0)) v_int)))) va_nil)) v_int)) (vss_one (vs_ret (v_op o_mod (v_callTy c_int (hB _ (by decide +kernel)) (va_cons (v_op o_fdiv (v_var (pv 4)) v_int) va_nil)) (v_var (pv 1)))))))))), ?_⟩
  clear hr S
  rintro _ M Q ⟨x0, x1, rfl, h⟩
  rw [show vstart N__law_take.length [x0, x1] = [some x0, some x1, none, none, none] from rfl]
  obtain ⟨p, l, B, up, rfl, rfl, hM, ⟨own, x, n, rfl, o1, x1, x2, n1, n2⟩, hB', u1, u2, h⟩ := h
  simp [asL_obj hM, hM, L2.ixN]
  split
  · refine ⟨u1, ⟨u1, log2_small u2⟩, _, Sub.refl, ?_⟩
    have hd := Int.emod_nonneg own (show (up : Int) ≠ 0 by omega)
    have hd2 := Int.emod_lt_of_pos own (show (0 : Int) < up by omega)
    have hd3 := Int.ediv_nonneg o1 (show (0 : Int) ≤ up by omega)
    have := h (own % up).toNat _ (by omega) ⟨own / up, x, n, rfl, hd3, x1, x2, n1, by omega⟩
    rw [Int.toNat_of_nonneg hd] at this
    exact this
  · have h5 : (n + 1) % 5 = 0 ∨ (n + 1) % 5 = 1 ∨ (n + 1) % 5 = 2 ∨ (n + 1) % 5 = 3 ∨ (n + 1) % 5 = 4 := by omega
    obtain ⟨c, hc, c1, c2⟩ : ∃ c : Int, L2.atI [D.int 2147482181, D.int 2147482169, D.int 2147482157, D.int 2147482139, D.int 2147482133] ((n + 1) % 5) = some (.int c) ∧ 0 < c ∧ c < 2147483648 := by
      rcases h5 with z | z | z | z | z <;> rw [z] <;> exact ⟨_, rfl, by decide, by decide⟩
    have n3 : n + 1 ≤ 1000000 := by omega
    obtain ⟨b1, b2⟩ := take_bd (n := n + 1) (k := 72577) (c := 2011) x1 x2 (by omega) n3 (by decide) (by decide) (by decide) (by decide)
    have e1 := Int.emod_nonneg ((x + 72577 * (n + 1) * (n + 1) + 2011) ^ 3) (show c ≠ 0 by omega)
    have e2 := Int.emod_lt_of_pos ((x + 72577 * (n + 1) * (n + 1) + 2011) ^ 3) c1
    refine ⟨_, hc, .inl (by decide), .inr (.inl (by omega)), pow3_ok b1 b2, c, rfl, c1, .inl (by decide), .inl (by omega), by decide +kernel, u1, _, Sub.refl, ?_⟩
    have hd := Int.emod_nonneg ((x + 72577 * (n + 1) * (n + 1) + 2011) ^ 3 % c * ((x + 72577 * (n + 1) * (n + 1) + 2011) ^ 3 % c % 7951 + 257 * (n + 1)) % 2305843009213693907 / 157) (show (up : Int) ≠ 0 by omega)
    have hd2 := Int.emod_lt_of_pos ((x + 72577 * (n + 1) * (n + 1) + 2011) ^ 3 % c * ((x + 72577 * (n + 1) * (n + 1) + 2011) ^ 3 % c % 7951 + 257 * (n + 1)) % 2305843009213693907 / 157) (show (0 : Int) < up by omega)
    have := h _ _ ((Int.toNat_lt hd).mpr hd2) ⟨own, x, n + 1, rfl, o1, x1, x2, by omega, by omega⟩
    rw [Int.toNat_of_nonneg hd] at this
    exact this
abbrev N__law_of : List Str := ["pot", "some"]
abbrev P__law_of : List Str := ["pot", "some"]
theorem sc__law_of : FnScope N__law_of P__law_of (defScope s__law_of) := ⟨rfl, rfl, rfl, by decide +kernel, rfl, by decide +kernel, by decide +kernel⟩
def p__law_of : VSp := pr2 fun a b M Q => ∃ (p q : Addr) (l xs : List D) (B : Nat), a = .obj p ∧ b = .obj q ∧ p ≠ q ∧ M p = some (.lst l) ∧ M q = some (.lst xs) ∧ Pot B l ∧ B < 1000000 ∧ 0 < xs.length ∧ xs.length ≤ 1000000 ∧ ∀ d l', d ∈ xs → Pot (B + 1) l' → Q d (mupd M p (.lst l'))
theorem ok__law_of {P : Program} {w : World} {K : PySem.W.Frag} {mg : Str → Option Value} {base : Heap} (hD : Df K mg "_law_of" s__law_of) (hB : Fr mg bl) (k__law_take : Kn P w K mg base 1 "_law_take" P__law_take p__law_take) : Kn P w K mg base 2 "_law_of" P__law_of p__law_of := by
  have S := sc__law_of
  refine kn_of hD sc__law_of (fun _ _ _ _ _ _ us hl => match us, hl with | [_, _], _ => rfl) pr2_len ?_
  intro f cdv A outer s H E hr
  refine ⟨_, (vss_one (vs_ret (v_ix (v_var (pv 1)) (v_callK k__law_take hr (va_cons (v_var (pv 0)) (va_cons (v_callB c_len (hB _ (by decide +kernel)) (va_cons (v_var (pv 1)) va_nil)) va_nil)))))), ?_⟩
  clear hr S
  rintro _ M Q ⟨x0, x1, rfl, h⟩
  rw [show vstart N__law_of.length [x0, x1] = [some x0, some x1] from rfl]
  obtain ⟨p, q, l, xs, B, rfl, rfl, hpq, hM, hq, hl, hB', u1, u2, h⟩ := h
  simp [hq]
  refine pr2_at.mpr ⟨p, l, B, xs.length, rfl, rfl, hM, hl, hB', u1, u2, fun d l' hd hl' => ?_⟩
  have e : asL (mupd M p (.lst l')) (.obj q) = some xs := asL_obj (by rw [mupd_ne (Ne.symm hpq)]; exact hq)
  simp [e, atI_k]
  exact ⟨xs[d], by simp [hd], h _ _ (List.getElem_mem hd) hl'⟩
abbrev N__law_cells : List Str := ["script", "most"]
abbrev P__law_cells : List Str := ["script", "most"]
theorem sc__law_cells : FnScope N__law_cells P__law_cells (defScope s__law_cells) := ⟨rfl, rfl, rfl, by decide +kernel, rfl, by decide +kernel, by decide +kernel⟩
def p__law_cells : VSp := pr2 fun a b M Q => ∃ (ns : List Int) (k : Nat), a = .rd (ns.map D.int) ∧ b = .int k ∧ k ≤ 1000 ∧ ∀ n : Nat, n ≤ 1000 → n ≤ k ∨ n ≤ 1 → Q (.lst (rgD 0 n)) M
theorem ok__law_cells {P : Program} {w : World} {K : PySem.W.Frag} {mg : Str → Option Value} {base : Heap} (hD : Df K mg "_law_cells" s__law_cells) (hB : Fr mg bl) : Kn P w K mg base 1 "_law_cells" P__law_cells p__law_cells := by
  have S := sc__law_cells
  refine kn_of hD sc__law_cells (fun _ _ _ _ _ _ us hl => match us, hl with | [_, _], _ => rfl) pr2_len ?_
  intro f cdv A outer s H E hr
  refine ⟨_, (vss_one (vs_ret (v_listRg1 rfl (hB _ (by decide +kernel)) (hB _ (by decide +kernel)) (v_callB (c_max2 rfl) (hB _ (by decide +kernel)) (va_cons v_int (va_cons (v_callB (c_min2 rfl) (hB _ (by decide +kernel)) (va_cons (v_var (pv 1)) (va_cons (v_callB c_len (hB _ (by decide +kernel)) (va_cons (v_var (pv 0)) va_nil)) va_nil))) va_nil)))))), ?_⟩
  clear hr S
  rintro _ M Q ⟨x0, x1, rfl, h⟩
  rw [show vstart N__law_cells.length [x0, x1] = [some x0, some x1] from rfl]
  obtain ⟨ns, k, rfl, rfl, hk, h⟩ := h
  simp
  generalize hm : (if 1 < if ns.length < k then (ns.length : Int) else k then if ns.length < k then (ns.length : Int) else k else 1) = m
  have hm2 : 1 ≤ m ∧ (m ≤ k ∨ m ≤ 1) := by
    rw [← hm]
    by_cases c1 : ns.length < k
    · simp only [c1, if_true]
      split <;> omega
    · simp only [c1, if_false]
      split <;> omega
  exact ⟨by omega, by omega, h _ (by omega) (by omega)⟩
abbrev N__law_some : List Str := ["pot", "some", "many", "left", "found", "lap"]
abbrev P__law_some : List Str := ["pot", "some", "many"]
theorem sc__law_some : FnScope N__law_some P__law_some (defScope s__law_some) := ⟨rfl, rfl, rfl, by decide +kernel, rfl, by decide +kernel, by decide +kernel⟩
def p__law_some : VSp := pr3 fun a b c M Q => ∃ (p q : Addr) (l xs : List D) (B k : Nat), a = .obj p ∧ b = .obj q ∧ p ≠ q ∧ c = .int k ∧ M p = some (.lst l) ∧ M q = some (.lst xs) ∧ Pot B l ∧ B + k < 1000000 ∧ k ≤ xs.length ∧ xs.length ≤ 1000000 ∧
  ∀ r l' ys rest, M r = none → Pot (B + k) l' → ys.length = k → (ys ++ rest).Perm xs → Q (.obj r) (mupd (mupd M p (.lst l')) r (.lst ys))
theorem ok__law_some {P : Program} {w : World} {K : PySem.W.Frag} {mg : Str → Option Value} {base : Heap} (hD : Df K mg "_law_some" s__law_some) (hB : Fr mg bl) (k__law_take : Kn P w K mg base 1 "_law_take" P__law_take p__law_take) : Kn P w K mg base 2 "_law_some" P__law_some p__law_some := by
  have S := sc__law_some
  refine kn_ofD hD sc__law_some (fun _ _ _ _ _ _ us hl => match us, hl with | [_, _, _], _ => rfl) pr3_len ?_
  intro f cdv A outer s H E hr
  refine ⟨_, (vss_cons (vs_par (i := 3) (j := 4) rfl S.nd rfl rfl (by decide) rfl rfl (va_cons (v_callTy c_listO (hB _ (by decide +kernel)) (va_cons (v_var (pv 1)) va_nil)) (va_cons (v_lstO va_nil) va_nil)) (by rfl)) (vss_cons (vs_for PassesOwn.never rfl (vi_range1 (hB _ (by decide +kernel)) (va_cons (v_var (pv 2)) va_nil)) (vg_name (pg_name (i := 5) S.nd rfl (by first | exact Or.inl rfl | exact Or.inr rfl))) (vss_one (vs_expr (v_append (v_var (pv 4)) (va_cons (v_popI (v_var (pv 3)) (va_cons (v_callK k__law_take hr (va_cons (v_var (pv 0)) (va_cons (v_callB c_len (hB _ (by decide +kernel)) (va_cons (v_var (pv 3)) va_nil)) va_nil))) va_nil)) va_nil))))) (vss_one (vs_ret (v_var (pv 4)))))), ?_⟩
  clear hr S
  rintro _ M Q ⟨x0, x1, x2, rfl, h⟩
  rw [show vstart N__law_some.length [x0, x1, x2] = [some x0, some x1, some x2, none, none, none] from rfl]
  obtain ⟨p, q, l, xs, B, k, rfl, rfl, hpq, rfl, hM, hq, hl, hB', u1, u2, h⟩ := h
  simp [asI, asL_obj hq, VL.rListO]
  intro p1 h1 p2 h2
  have n1 : p ≠ p1 := fun z => by rw [z, h1] at hM; cases hM
  have n2 : p2 ≠ p1 := fun z => by rw [z, mupd_same] at h2; cases h2
  rw [mupd_ne n2] at h2
  have n3 : p ≠ p2 := fun z => by rw [z, h2] at hM; cases hM
  refine ⟨_, _, ⟨rfl, rfl⟩, ?_⟩
  refine sFor_al (List.range k) (fun i => .int (0 + ((i : Nat) : Int))) (fun i e M1 => ∃ l' ys rest, M1 = mupd (mupd (mupd M p (.lst l')) p1 (.lst rest)) p2 (.lst ys) ∧ Pot (B + i) l' ∧ ys.length = i ∧ (ys ++ rest).Perm xs ∧ ∃ d, e = [some (.obj p), some (.obj q), some (.int k), some (.obj p1), some (.obj p2), d]) (w := ⟨_, fun _ => True⟩) (fun R r => ?_) rfl ⟨l, [], xs, by rw [mupd_self hM], hl, rfl, .refl _, _, rfl⟩ (fun _ _ _ _ _ => trivial) (fun i x e M1 hd hlt ⟨l', ys, rest, hM1, hp, hy, hperm, d1, he⟩ => ?_) (fun e M1 ⟨l', ys, rest, hM1, hp, hy, hperm, d1, he⟩ => ?_)
  · simpa [rgD, show -4611686018427387904 ≤ (k : Int) by omega, show (k : Int) < 4611686018427387904 by omega] using r
  · subst he
    simp at hlt
    have hlen := hperm.length_eq
    rw [List.length_append] at hlen
    have a1 : M1 p1 = some (.lst rest) := by rw [hM1, mupd_ne (Ne.symm n2), mupd_same]
    have a2 : M1 p2 = some (.lst ys) := by rw [hM1, mupd_same]
    have a0 : M1 p = some (.lst l') := by rw [hM1, mupd_ne n3, mupd_ne n1, mupd_same]
    simp [a1, a2]
    refine pr2_at.mpr ⟨p, l', B + i, rest.length, rfl, rfl, a0, hp, by omega, by omega, by omega, fun d l'' hd hl' => ?_⟩
    have b1 : mupd M1 p (.lst l'') = mupd (mupd (mupd M p (.lst l'')) p1 (.lst rest)) p2 (.lst ys) := by rw [hM1, mupd3_a n1 n3]
    have b2 : mupd M1 p (.lst l'') p1 = some (.lst rest) := by rw [b1, mupd_ne (Ne.symm n2), mupd_same]
    have b3 : mupd (mupd M1 p (.lst l'')) p1 (.lst (rest.eraseIdx d)) p2 = some (.lst ys) := by rw [mupd_ne n2, b1, mupd_same]
    have b4 := PySem.seqIndex_of (k := (d : Int)) (n := rest.length) (by omega) (by omega)
    rw [Int.toNat_natCast] at b4
    simp [b2, b3, b4, hd]
    refine ⟨by omega, by have := size1000; have e : sizeLine = 16777216 := sizeLine_eq; omega, l'', ys ++ [rest[d]], rest.eraseIdx d, ?_, by rw [← Nat.add_assoc]; exact hl', by rw [List.length_append, hy] <;> rfl, ?_⟩
    · rw [b1, mupd3_b (Ne.symm n2), mupd_mupd]
    · have z := perm_erase rest d hd
      rw [List.append_assoc]
      exact ((z.append_left ys)).trans hperm
  · subst he
    rw [List.length_range] at hp hy
    simp
    refine ⟨mupd (mupd M p (.lst l')) p2 (.lst ys), ?_, h p2 l' ys rest h2 hp hy hperm⟩
    rw [hM1]
    exact Sub.both (Sub.new (by rw [mupd_ne (Ne.symm n1)]; exact h1))
end K52
namespace K52
open PySem PySem.Spec L2 VL
def swp (g : Nat → List Int) (r a : Nat) : Nat → List Int := fun k => if k = a then g r else if k = r then g a else g k
def elm (g : Nat → List Int) (r j b : Nat) : Nat → List Int := fun k => if r < k ∧ k < b then wo (g k) (g r) j else g k
def cand (n : Nat) (g : Nat → List Int) (r j : Nat) : List Nat := (List.range (n - r)).filter fun i => decide (gd (g (r + i)) j ≠ 0)
def lstep (n : Nat) (s : (Nat → List Int) × Nat) (j : Nat) : (Nat → List Int) × Nat := match cand n s.1 s.2 j with
  | [] => s
  | a :: _ => (elm (swp s.1 s.2 (s.2 + a)) s.2 j n, s.2 + 1)
def lrun (n : Nat) (g : Nat → List Int) : Nat → (Nat → List Int) × Nat
  | 0 => (g, 0)
  | j + 1 => lstep n (lrun n g j) j
def lrk (n c : Nat) (g : Nat → List Int) : Nat := (lrun n g c).2
def rwsD (n : Nat) (g : Nat → List Int) : List D := (List.range n).map fun k => rowD (g k)
theorem rwsD_get {n k : Nat} {g : Nat → List Int} (h : k < n) : (rwsD n g)[k]? = some (rowD (g k)) := by
  unfold rwsD
  rw [List.getElem?_map, List.getElem?_range h] <;> rfl
theorem rwsD_len {n : Nat} {g : Nat → List Int} : (rwsD n g).length = n := by simp [rwsD]
theorem rwsD_set {n k : Nat} {g : Nat → List Int} {v : List Int} : (rwsD n g).set k (rowD v) = rwsD n fun i => if i = k then v else g i := by
  apply List.ext_getElem?
  intro i
  rw [List.getElem?_set, rwsD_len]
  by_cases h : i < n
  · rw [rwsD_get h, rwsD_get h]
    by_cases e : k = i
    · subst e; simp [h]
    · simp [e, Ne.symm e]
  · by_cases e : k = i
    · subst e; simp [h, rwsD]
    · simp [e, h, rwsD]
/-- what holds ahead of the j-th column -/
def LInv (n c : Nat) (s : (Nat → List Int) × Nat) : Prop := s.2 ≤ n ∧ ∀ k, k < n → (s.1 k).length = c ∧ Bd (bd s.2) (s.1 k)
theorem cand_mem {n : Nat} {g : Nat → List Int} {r j a : Nat} (h : a ∈ cand n g r j) : r + a < n ∧ gd (g (r + a)) j ≠ 0 := by
  have h' := List.mem_filter.mp h
  have := List.mem_range.mp h'.1
  exact ⟨by omega, by simpa using h'.2⟩
theorem swp_inv {n c r a : Nat} {g : Nat → List Int} {b : Nat} (h : ∀ k, k < n → (g k).length = c ∧ Bd b (g k)) (hr : r < n) (ha : a < n) : ∀ k, k < n → (swp g r a k).length = c ∧ Bd b (swp g r a k) := fun k hk => by
  unfold swp
  split
  · exact h r hr
  · split
    · exact h a ha
    · exact h k hk
theorem lstep_inv {n c j : Nat} {s : (Nat → List Int) × Nat} (h : LInv n c s) (hj : j < c) : LInv n c (lstep n s j) := by
  unfold lstep
  split
  · exact h
  · rename_i a as hc
    have hm := cand_mem (show a ∈ cand n s.1 s.2 j by rw [hc]; exact List.mem_cons_self)
    have hr : s.2 < n := by omega
    have hs := swp_inv (fun k hk => h.2 k hk) hr hm.1
    refine ⟨by show s.2 + 1 ≤ n; omega, fun k hk => ?_⟩
    obtain ⟨l1, b1⟩ := hs k hk
    obtain ⟨l2, b2⟩ := hs s.2 hr
    show (elm _ _ _ _ k).length = c ∧ Bd (bd (s.2 + 1)) (elm _ _ _ _ k)
    unfold elm
    split
    · exact ⟨by rw [wo_len (by rw [l1, l2])]; exact l1, wo_bd b1 b2⟩
    · exact ⟨l1, b1.mono (bd_mono1 _)⟩
theorem lrun_inv {n c : Nat} {g : Nat → List Int} (h : ∀ k, k < n → (g k).length = c ∧ Bd 1 (g k)) : ∀ j, j ≤ c → LInv n c (lrun n g j)
  | 0, _ => ⟨Nat.zero_le _, h⟩
  | j + 1, hj => lstep_inv (lrun_inv h j (by omega)) (by omega)
abbrev N__law_rank : List Str := ["rows", "rank", "column", "at", "head", "place", "row", "entry", "its"]
abbrev P__law_rank : List Str := ["rows"]
theorem sc__law_rank : FnScope N__law_rank P__law_rank (defScope s__law_rank) := ⟨rfl, rfl, rfl, by decide +kernel, rfl, by decide +kernel, by decide +kernel⟩
def p__law_rank : VSp := pr1 fun a M Q => ∃ (n c : Nat) (g : Nat → List Int), a = .lst (rwsD n g) ∧ 1 ≤ n ∧ n ≤ 7 ∧ c ≤ 100 ∧ (∀ k, k < n → (g k).length = c ∧ Bd 1 (g k)) ∧ Q (.int (lrk n c g)) M
theorem ok__law_rank {P : Program} {w : World} {K : PySem.W.Frag} {mg : Str → Option Value} {base : Heap} (hD : Df K mg "_law_rank" s__law_rank) (hB : Fr mg bl) : Kn P w K mg base 1 "_law_rank" P__law_rank p__law_rank := by
  have S := sc__law_rank
  refine kn_ofD hD sc__law_rank (fun _ _ _ _ _ _ us hl => match us, hl with | [_], _ => rfl) pr1_len ?_
  intro f cdv A outer s H E hr
  refine ⟨_, (vss_cons (vs_asg (v_tup (va_cons (v_lcO (own := [("row", 6)]) rfl S.nd (vi_seq (v_var (pv 0))) (blkOk_by (by first | rfl | kernel_rfl)) (lcg_name (fun _ _ _ _ _ => pg_name (i := 6) S.nd rfl (by first | exact Or.inl rfl | exact Or.inr rfl))) (fun _ _ _ _ _ => vts_nil) (fun _ _ _ _ _ => (v_callTy c_list (hB _ (by decide +kernel)) (va_cons (v_var (pv 6)) va_nil)))) (va_cons v_int va_nil))) (vg_tup (n := 2) rfl (vgs_cons (vg_name (pg_name (i := 0) S.nd rfl (by first | exact Or.inl rfl | exact Or.inr rfl))) (vgs_cons (vg_name (pg_name (i := 1) S.nd rfl (by first | exact Or.inl rfl | exact Or.inr rfl))) vgs_nil)))) (vss_cons (vs_for PassesOwn.never rfl (vi_range1 (hB _ (by decide +kernel)) (va_cons (v_if (t_cmp (o_ne hr.r) (v_var (pv 0)) (v_lst va_nil) (nomark _)) (v_callB c_len (hB _ (by decide +kernel)) (va_cons (v_ix (v_var (pv 0)) v_int) va_nil)) v_int) va_nil)) (vg_name (pg_name (i := 2) S.nd rfl (by first | exact Or.inl rfl | exact Or.inr rfl))) (vss_cons (vs_setLc (i := 3) (hc := rfl) (hN := S.nd) (hy := rfl) (hyl := rfl) (hsw := sw_true rfl rfl rfl (by decide +kernel))  (own := [("place", 5)]) (vi_range2 (hB _ (by decide +kernel)) (va_cons (v_var (pv 1)) (va_cons (v_callB c_len (hB _ (by decide +kernel)) (va_cons (v_var (pv 0)) va_nil)) va_nil))) (blkOk_by (by first | rfl | kernel_rfl)) (lcg_name (fun _ _ _ _ _ => pg_name (i := 5) S.nd rfl (by first | exact Or.inl rfl | exact Or.inr rfl))) (fun _ _ _ _ _ => (vts_one (t_cmp (o_ne hr.r) (v_ix (v_ix (v_var (pv 0)) (v_var (pv 5))) (v_var (pv 2))) v_int (nomark _)))) (fun _ _ _ _ _ => (v_var (pv 5)))) (vss_one (vs_if (t_cmp (o_ne hr.r) (v_var (pv 3)) (v_lst va_nil) (nomark _)) (vss_cons (vs_asg (v_tup (va_cons (v_ix (v_var (pv 0)) (v_ix (v_var (pv 3)) v_int)) (va_cons (v_ix (v_var (pv 0)) (v_var (pv 1))) va_nil))) (vg_tup (n := 2) rfl (vgs_cons (vg_subL (v_var (pv 0)) (v_var (pv 1))) (vgs_cons (vg_subL (v_var (pv 0)) (v_ix (v_var (pv 3)) v_int)) vgs_nil)))) (vss_cons (vs_set (i := 4) S.nd rfl (Or.inr rfl) (v_ix (v_var (pv 0)) (v_var (pv 1)))) (vss_cons (vs_for PassesOwn.never rfl (vi_range2 (hB _ (by decide +kernel)) (va_cons (v_op o_add (v_var (pv 1)) v_int) (va_cons (v_callB c_len (hB _ (by decide +kernel)) (va_cons (v_var (pv 0)) va_nil)) va_nil))) (vg_name (pg_name (i := 5) S.nd rfl (by first | exact Or.inl rfl | exact Or.inr rfl))) (vss_one (vs_asg (v_lc (own := [("entry", 7), ("its", 8)]) rfl S.nd (vi_zip (hB _ (by decide +kernel)) (va_cons (v_ix (v_var (pv 0)) (v_var (pv 5))) (va_cons (v_var (pv 4)) va_nil))) (blkOk_by (by first | rfl | kernel_rfl)) (lcg_tup (n := 2) rfl (lcgs_cons (lcg_name (fun _ _ _ _ _ => pg_name (i := 7) S.nd rfl (by first | exact Or.inl rfl | exact Or.inr rfl))) (lcgs_cons (lcg_name (fun _ _ _ _ _ => pg_name (i := 8) S.nd rfl (by first | exact Or.inl rfl | exact Or.inr rfl))) lcgs_nil))) (fun _ _ _ _ _ => vts_nil) (fun _ _ _ _ _ => (v_op o_sub (v_op o_mulI (v_var (pv 7)) (v_ix (v_var (pv 4)) (v_var (pv 2)))) (v_op o_mulI (v_ix (v_ix (v_var (pv 0)) (v_var (pv 5))) (v_var (pv 2))) (v_var (pv 8)))))) (vg_subL (v_var (pv 0)) (v_var (pv 5)))))) (vss_one (vs_set (i := 1) S.nd rfl (Or.inl rfl) (v_op o_add (v_var (pv 1)) v_int)))))) vss_nil)))) (vss_one (vs_ret (v_var (pv 1)))))), ?_⟩
  clear hr S
  rintro _ M Q ⟨x0, rfl, h⟩
  rw [show vstart N__law_rank.length [x0] = [some x0, none, none, none, none, none, none, none, none] from rfl]
  obtain ⟨n, c, g, rfl, n1, n7, hc, hg, h⟩ := h
  have sz := size1000
  simp
  refine vLcO_al (List.range n) (fun k => rowD (g k)) (fun k => rowD (g k)) (w := ⟨rwsD n g, fun _ => True⟩) (fun R r => ?_) rfl trivial (by simp; omega) (fun k hk A hA => ?_) ?_
  · simpa using r
  · simp [VL.rList, asI, vwipe, rowD] at hA ⊢
    exact hA
  rw [show (List.range n).map (fun k => rowD (g k)) = rwsD n g from rfl]
  intro p hp
  have shR : ∀ x ∈ rwsD n g, Sh 29 x := fun x hx => by
    obtain ⟨k, _, rfl⟩ := List.mem_map.mp hx; exact sh_row _
  have neR : (rwsD n g).isEmpty = false := by
    cases q : rwsD n g with
    | nil => have := rwsD_len (n := n) (g := g); rw [q] at this; simp at this; omega
    | cons _ _ => rfl
  have hg0 := (hg 0 (by omega)).1
  refine sFor_al (List.range c) (fun j => .int (0 + ((j : Nat) : Int))) (fun j e M1 => M1 = mupd M p (.lst (rwsD n (lrun n g j).1)) ∧ ∃ d2 d3 d4 d5, e = [some (.obj p), some (.int (lrun n g j).2), d2, d3, d4, d5, none, none, none]) (w := ⟨rgD 0 c, fun _ => True⟩) (fun R r => ?_) rfl ⟨rfl, _, _, _, _, rfl⟩ (fun _ _ _ _ _ => trivial) (fun j x e M1 hd hj ⟨hM1, d2, d3, d4, d5, he⟩ => ?_) (fun e M1 ⟨hM1, d2, d3, d4, d5, he⟩ => ?_)
  · simp
    refine oNe_nil asL_mupd shR ?_
    rw [neR]
    simp [rwsD_get (show 0 < n by omega), rowD, hg0]
    exact ⟨by omega, r⟩
  · subst hM1 he
    rw [List.length_range] at hj
    rw [List.getElem?_range hj] at hd
    cases hd
    have inv := lrun_inv hg j (by omega)
    have hs : lrun n g (j + 1) = lstep n (lrun n g j) j := rfl
    generalize lrun n g j = s at *
    obtain ⟨i1, i2⟩ := inv
    simp
    refine vLc_alF (List.range (n - s.2)) (fun i => .int ((s.2 : Int) + ((i : Nat) : Int))) (fun i => decide (gd (s.1 (s.2 + i)) j ≠ 0)) (fun i => .int ((s.2 : Int) + ((i : Nat) : Int))) (w := ⟨rgD s.2 (n - s.2), fun _ => True⟩) (fun R r => ?_) rfl trivial (by simp; omega) (fun i hi A B hA hB => ?_) ?_
    · have e : ((n : Int) - (s.2 : Int)).toNat = n - s.2 := by omega
      simp [rwsD_len, and_assoc, e]
      exact ⟨by omega, by omega, r⟩
    · have hi' : s.2 + i < n := by have := List.mem_range.mp hi; omega
      have l1 := (i2 (s.2 + i) hi').1
      have e1 : L2.atI (rwsD n s.1) ((s.2 : Int) + (i : Int)) = some (rowD (s.1 (s.2 + i))) := by
        rw [show (s.2 : Int) + (i : Int) = ((s.2 + i : Nat) : Int) by omega, atI_k, rwsD_get hi']
      have e2 : L2.atI ((s.1 (s.2 + i)).map D.int) (j : Int) = some (.int (gd (s.1 (s.2 + i)) j)) := by
        rw [atI_k, at_getD (by omega)]
      by_cases z : gd (s.1 (s.2 + i)) j = 0
      · simp [z] at hA hB
        simp [vwipe, e1, rowD, e2, z]; exact hB
      · simp [z] at hA hB
        simp [vwipe, e1, rowD, e2, z]; exact hA
    · rw [show List.filter (fun i => decide (gd (s.1 (s.2 + i)) j ≠ 0)) (List.range (n - s.2)) = cand n s.1 s.2 j from rfl]
      cases hcd : cand n s.1 s.2 j with
      | nil =>
        refine oNe_nil (xs := []) rfl (fun _ z => nomatch z) ?_
        have e : lstep n s j = s := by unfold lstep; rw [hcd]
        simp [hs, e]
      | cons a as =>
        have hm := cand_mem (show a ∈ cand n s.1 s.2 j by rw [hcd]; exact List.mem_cons_self)
        have hr : s.2 < n := by omega
        have e : lstep n s j = (elm (swp s.1 s.2 (s.2 + a)) s.2 j n, s.2 + 1) := by unfold lstep; rw [hcd]
        refine oNe_nil (xs := (a :: as).map fun i => D.int ((s.2 : Int) + ((i : Nat) : Int))) rfl (fun x hx => by obtain ⟨k, _, rfl⟩ := List.mem_map.mp hx; exact sh_int) ?_
        have c1 : (s.2 : Int) + (a : Int) = ((s.2 + a : Nat) : Int) := by omega
        have x1 : ∀ h : Nat → List Int, L2.ixN (rwsD n h).length (s.2 : Int) = some s.2 := fun h => by rw [rwsD_len]; exact ixN_lt hr
        have x2 : ∀ h : Nat → List Int, L2.ixN (rwsD n h).length ((s.2 + a : Nat) : Int) = some (s.2 + a) := fun h => by rw [rwsD_len]; exact ixN_lt hm.1
        have y1 : ∀ h : Nat → List Int, (rwsD n h)[s.2]? = some (rowD (h s.2)) := fun h => rwsD_get hr
        have y2 : ∀ h : Nat → List Int, (rwsD n h)[s.2 + a]? = some (rowD (h (s.2 + a))) := fun h => rwsD_get hm.1
        simp only [List.map_cons]
        simp [c1, atI_k, y1, y2, x1, x2, rwsD_set, -Int.natCast_add]
        have hsw0 : (if a = 0 then s.1 s.2 else s.1 (s.2 + a)) = swp s.1 s.2 (s.2 + a) s.2 := by
          unfold swp
          by_cases q : a = 0
          · simp [q]
          · simp [q]
        rw [show (fun i => if i = s.2 + a then s.1 s.2 else if i = s.2 then s.1 (s.2 + a) else s.1 i) = swp s.1 s.2 (s.2 + a) from rfl, hsw0]
        have sw := swp_inv i2 hr hm.1
        have el0 : elm (swp s.1 s.2 (s.2 + a)) s.2 j (s.2 + 1 + 0) = swp s.1 s.2 (s.2 + a) := by
          funext k; unfold elm; rw [if_neg (by omega)]
        generalize swp s.1 s.2 (s.2 + a) = g2 at *
        have bb : bd s.2 ≤ 9223372036854775808 ∨ n = s.2 + 1 := by
          rcases Nat.lt_or_ge s.2 6 with q | q
          · exact .inl (Nat.le_trans (bd_mono (j := 6) (by omega)) (by decide))
          · exact .inr (by omega)
        refine sFor_al (List.range (n - (s.2 + 1))) (fun i => .int (((s.2 : Nat) : Int) + 1 + ((i : Nat) : Int))) (fun i e M2 => M2 = mupd M p (.lst (rwsD n (elm g2 s.2 j (s.2 + 1 + i)))) ∧ ∃ d5, e = [some (D.obj p), some (D.int ↑s.2), some (D.int ↑j), some (D.lst (D.int ↑(s.2 + a) :: List.map (fun i => D.int (↑s.2 + ↑i)) as)), some (rowD (g2 s.2)), d5, none, none, none]) (w := ⟨rgD (((s.2 : Nat) : Int) + 1) (n - (s.2 + 1)), fun _ => True⟩) (fun R r => ?_) rfl ⟨by rw [el0], _, rfl⟩ (fun _ _ _ _ _ => trivial) (fun i x e M2 hd hi ⟨hM2, d5, he⟩ => ?_) (fun e M2 ⟨hM2, d5, he⟩ => ?_)
        · have e : ((n : Int) - ((s.2 : Int) + 1)).toNat = n - (s.2 + 1) := by omega
          simp [rwsD_len, and_assoc, e]
          first | exact r | exact ⟨by omega, r⟩ | exact ⟨by omega, by omega, r⟩ | exact ⟨by omega, by omega, by omega, r⟩ | exact ⟨by omega, by omega, by omega, by omega, r⟩
        · subst hM2 he
          rw [List.length_range] at hi
          rw [List.getElem?_range hi] at hd
          cases hd
          have hk : s.2 + 1 + i < n := by omega
          have k1 : (s.2 : Int) + 1 + (i : Int) = ((s.2 + 1 + i : Nat) : Int) := by omega
          have z1 : ∀ h : Nat → List Int, (rwsD n h)[s.2 + 1 + i]? = some (rowD (h (s.2 + 1 + i))) := fun h => rwsD_get hk
          have z2 : ∀ h : Nat → List Int, L2.ixN (rwsD n h).length ((s.2 + 1 + i : Nat) : Int) = some (s.2 + 1 + i) := fun h => by rw [rwsD_len]; exact ixN_lt hk
          have el1 : elm g2 s.2 j (s.2 + 1 + i) (s.2 + 1 + i) = g2 (s.2 + 1 + i) := by unfold elm; rw [if_neg (by omega)]
          obtain ⟨q1, q2⟩ := sw _ hk
          obtain ⟨q3, q4⟩ := sw _ hr
          have bb' : bd s.2 ≤ 9223372036854775808 := bb.resolve_right (by omega)
          simp [k1, -Int.natCast_add]
          refine vLc_al ((g2 (s.2 + 1 + i)).zip (g2 s.2)) (fun p => .tup [.int p.1, .int p.2]) (fun p => .int (p.1 * gd (g2 s.2) j - gd (g2 (s.2 + 1 + i)) j * p.2)) (w := ⟨zipD ((g2 (s.2 + 1 + i)).map D.int) ((g2 s.2).map D.int), fun _ => True⟩) (fun R r => ?_) (zipD_ints _ _) trivial ?_ (fun y hy A hA => ?_) ?_
          · simp [atI_k, z1, el1, rowD, and_assoc, -Int.natCast_add]
            exact r
          · simp; omega
          · have hm := List.of_mem_zip (show (y.1, y.2) ∈ (g2 (s.2 + 1 + i)).zip (g2 s.2) from hy)
            have t1 := (q2.mono bb') y.1 hm.1
            have t2 := (q4.mono bb') y.2 hm.2
            have t3 := getD_bd (q2.mono bb') j
            simp [vwipe, atI_k, z1, el1, rowD, at_getD (show j < (g2 s.2).length by omega), at_getD (show j < (g2 (s.2 + 1 + i)).length by omega), -Int.natCast_add]
            exact ⟨.inl (by omega), .inl (by omega), hA⟩
          · have ew : (.lst (List.map (fun p => D.int (p.1 * gd (g2 s.2) j - gd (g2 (s.2 + 1 + i)) j * p.2)) ((g2 (s.2 + 1 + i)).zip (g2 s.2))) : D) = rowD (wo (g2 (s.2 + 1 + i)) (g2 s.2) j) := by
              simp [rowD, wo, Function.comp_def]
            rw [ew]
            simp [z2, rwsD_set, -Int.natCast_add]
            have ef : (fun k => if k = s.2 + 1 + i then wo (g2 (s.2 + 1 + i)) (g2 s.2) j else elm g2 s.2 j (s.2 + 1 + i) k) = elm g2 s.2 j (s.2 + 1 + (i + 1)) := by
              funext k
              unfold elm
              by_cases u : k = s.2 + 1 + i
              · subst u; simp; omega
              · by_cases v : s.2 < k ∧ k < s.2 + 1 + i
                · rw [if_neg u, if_pos v, if_pos ⟨v.1, by omega⟩]
                · rw [if_neg u, if_neg v, if_neg (by omega)]
            rw [ef]
        · subst hM2 he
          rw [List.length_range]
          have en : s.2 + 1 + (n - (s.2 + 1)) = n := by omega
          rw [en]
          simp [hs, e]
  · subst hM1 he
    rw [List.length_range]
    simp
    exact ⟨M, Sub.new hp, h⟩
end K52
namespace K52
open PySem PySem.Spec L2 VL
def leP (a b : Int × Int) : Bool := decide (a.1 < b.1 ∨ (a.1 = b.1 ∧ a.2 ≤ b.2))
def srt (ds : List (Int × Int)) : List (Int × Int) := ds.mergeSort leP
theorem leP_eq (a b : Int × Int) : W.dataLe false py (dD a) (dD b) = leP a b := by
  have := congrFun (congrFun (W.dataLe_ii (β := Int × Int) (fun p => p.1) (fun p => p.2)) a) b
  exact this
theorem srt_dD (ds : List (Int × Int)) : (ds.map dD).mergeSort (W.dataLe false py) = (srt ds).map dD := by
  unfold srt
  rw [List.map_mergeSort (f := dD) (r := leP) (s := W.dataLe false py) (l := ds) (fun a _ b _ => (leP_eq a b).symm)]
theorem leP_trans (a b c : Int × Int) (h1 : leP a b = true) (h2 : leP b c = true) : leP a c = true := by
  simp only [leP, decide_eq_true_eq] at *
  omega
theorem leP_total (a b : Int × Int) : (leP a b || leP b a) = true := by
  simp only [leP, Bool.or_eq_true, decide_eq_true_eq]
  omega
theorem srt_perm (ds : List (Int × Int)) : (srt ds).Perm ds := List.mergeSort_perm ..
theorem srt_lt {ds : List (Int × Int)} (h : ds.Nodup) : (srt ds).Pairwise fun a b => ltP a b = true := by
  have h1 := List.pairwise_mergeSort leP_trans leP_total ds
  have h2 : (srt ds).Nodup := (srt_perm ds).nodup_iff.mpr h
  refine (List.Pairwise.and h1 h2).imp ?_
  rintro ⟨a, a'⟩ ⟨b, b'⟩ ⟨q1, q2⟩
  simp only [leP, ltP, decide_eq_true_eq, ne_eq, Prod.mk.injEq] at *
  omega
theorem asc_of {ds : List (Int × Int)} (h : ds.Pairwise fun a b => ltP a b = true) : asc ds = true := by
  induction h with
  | nil => rfl
  | @cons a l h1 h2 ih =>
    cases l with
    | nil => rfl
    | cons b l =>
      have := h1 b List.mem_cons_self
      unfold asc at ih ⊢
      simp only [List.tail_cons, List.zip_cons_cons, List.all_cons, Bool.and_eq_true] at ih ⊢
      exact ⟨this, ih⟩
theorem web_of {n : Int} {ds : List (Int × Int)} (n2 : 2 ≤ n) (n8 : n ≤ 8) (h1 : 1 ≤ ds.length) (hd : ∀ d ∈ ds, 0 ≤ d.1 ∧ d.1 < d.2 ∧ d.2 ≤ n - 1) (nd : ds.Nodup) : WebOk n ((srt ds).take 16) := by
  have hl := (srt_perm ds).length_eq
  refine ⟨n2, n8, by rw [List.length_take]; omega, by rw [List.length_take]; omega, fun d hm => hd d ((srt_perm ds).mem_iff.mp (List.mem_of_mem_take hm)), asc_of ((srt_lt nd).sublist (List.take_sublist _ _))⟩
theorem sort_args (ds : List (Int × Int)) (h : ds.length ≤ 1000) (M : Mem) (Q : VL.VK) (x : D) (hx : asI M x = some (ds.map dD)) (q : Q (.lst ((srt ds).map dD)) M) : VL.rSortD [x] M Q := by
  have s : ∀ d ∈ ds.map dD, Sh 30 d := fun d hd => by
    obtain ⟨p, _, rfl⟩ := List.mem_map.mp hd
    intro x hx
    simp at hx
    rcases hx with rfl | rfl <;> exact sh_int
  refine ⟨ds.map dD, hx, s, ?_, ?_, by rw [List.length_map]; have := size1000; omega, by rw [srt_dD]; exact q⟩
  · rw [List.map_map]
    exact W.AllAlike.of fun a b => by simp [dD, py, pys, W.alike, W.alikeAll]
  · rw [List.map_map]
    exact W.Sortable.tuples fun a => ⟨.int a.1, [.int a.2], by simp [dD, py, pys]⟩
theorem full_mem {n : Nat} {d : Int × Int} (h : d ∈ fullDs n) : 0 ≤ d.1 ∧ d.1 < d.2 ∧ d.2 ≤ (n : Int) - 1 := by
  unfold fullDs at h
  obtain ⟨l, hl, hd⟩ := List.mem_flatten.mp h
  obtain ⟨i, hi, rfl⟩ := List.mem_map.mp hl
  obtain ⟨j, hj, rfl⟩ := List.mem_map.mp hd
  have := List.mem_range.mp hi
  have := List.mem_range.mp hj
  simp only
  omega
theorem full_nd8 : ∀ n : Nat, n ≤ 8 → (fullDs n).Nodup ∧ (fullDs n).length ≤ 28 ∧ (2 ≤ n → 1 ≤ (fullDs n).length) := by
  decide +kernel
def ringDs (n : Nat) : List (Int × Int) := ((List.range (n - 1)).map fun i => (((i : Nat) : Int), ((i : Nat) : Int) + 1)) ++ [(0, (n : Int) - 1)]
theorem ring_ok : ∀ n : Nat, n ≤ 8 → 2 < n → (ringDs n).Nodup ∧ 1 ≤ (ringDs n).length ∧ (ringDs n).length ≤ 28 ∧ ∀ d ∈ ringDs n, 0 ≤ d.1 ∧ d.1 < d.2 ∧ d.2 ≤ (n : Int) - 1 := by
  decide +kernel
def midDs (n : Nat) : List (Int × Int) := (fullDs n).filter fun d => decide (d.1 < (n : Int) / 2) && decide ((n : Int) / 2 ≤ d.2)
theorem mid_ok : ∀ n : Nat, n ≤ 8 → 3 < n → 1 ≤ (midDs n).length := by
  decide +kernel
def uD : D → Int × Int
  | .tup [.int a, .int b] => (a, b)
  | _ => (0, 0)
theorem uD_dD (d : Int × Int) : uD (dD d) = d := rfl
theorem uD_map {ys rest : List D} {xs : List (Int × Int)} (h : (ys ++ rest).Perm (xs.map dD)) : (ys.map uD).map dD = ys ∧ (∀ d ∈ ys.map uD, d ∈ xs) ∧ (xs.Nodup → (ys.map uD).Nodup) := by
  have hx : ∀ y ∈ ys ++ rest, ∃ d ∈ xs, y = dD d := fun y hy => by
    obtain ⟨d, hd, e⟩ := List.mem_map.mp (h.mem_iff.mp hy)
    exact ⟨d, hd, e.symm⟩
  refine ⟨?_, fun d hd => ?_, fun nd => ?_⟩
  · rw [List.map_map]
    have : ∀ y ∈ ys, (dD ∘ uD) y = id y := fun y hy => by
      obtain ⟨d, _, rfl⟩ := hx y (List.mem_append_left _ hy)
      rfl
    rw [List.map_congr_left this, List.map_id]
  · obtain ⟨y, hy, rfl⟩ := List.mem_map.mp hd
    obtain ⟨d, hd', rfl⟩ := hx y (List.mem_append_left _ hy)
    exact hd'
  · have h2 := h.map uD
    rw [List.map_map, show uD ∘ dD = id from funext uD_dD, List.map_id, List.map_append] at h2
    exact (List.nodup_append.mp (h2.nodup_iff.mpr nd)).1
abbrev N__law_web : List Str := ["pot", "rooms", "most", "many", "pairs", "one", "way", "doors", "other", "room", "pair"]
abbrev P__law_web : List Str := ["pot", "rooms", "most"]
theorem sc__law_web : FnScope N__law_web P__law_web (defScope s__law_web) := ⟨rfl, rfl, rfl, by decide +kernel, rfl, by decide +kernel, by decide +kernel⟩
def p__law_web : VSp := pr3 fun a b c M Q => ∃ (p : Addr) (l : List D) (B : Nat), a = .obj p ∧ b = .int 8 ∧ c = .int 16 ∧ M p = some (.lst l) ∧ Pot B l ∧ B < 900000 ∧ ∀ (n : Nat) ds l', WebOk n ds → Pot (B + 40) l' → Q (webD n ds) (mupd M p (.lst l'))
theorem ok__law_web {P : Program} {w : World} {K : PySem.W.Frag} {mg : Str → Option Value} {base : Heap} (hD : Df K mg "_law_web" s__law_web) (hB : Fr mg bl) (k__law_take : Kn P w K mg base 1 "_law_take" P__law_take p__law_take) (k__law_some : Kn P w K mg base 2 "_law_some" P__law_some p__law_some) : Kn P w K mg base 3 "_law_web" P__law_web p__law_web := by
  have S := sc__law_web
  refine kn_ofD hD sc__law_web (fun _ _ _ _ _ _ us hl => match us, hl with | [_, _, _], _ => rfl) pr3_len ?_
  intro f cdv A outer s H E hr
  refine ⟨_, (vss_cons (vs_set (i := 3) S.nd rfl (Or.inr rfl) (v_op o_add v_int (v_callK k__law_take hr (va_cons (v_var (pv 0)) (va_cons (v_op o_sub (v_var (pv 1)) v_int) va_nil))))) (vss_cons (vs_set (i := 4) S.nd rfl (Or.inl rfl) (v_lstO va_nil)) (vss_cons (vs_for PassesOwn.never rfl (vi_range1 (hB _ (by decide +kernel)) (va_cons (v_var (pv 3)) va_nil)) (vg_name (pg_name (i := 5) S.nd rfl (by first | exact Or.inl rfl | exact Or.inr rfl))) (vss_one (vs_expr (v_extend (v_var (pv 4)) (va_cons (v_lc (own := [("other", 8)]) rfl S.nd (vi_range2 (hB _ (by decide +kernel)) (va_cons (v_op o_add (v_var (pv 5)) v_int) (va_cons (v_var (pv 3)) va_nil))) (blkOk_by (by first | rfl | kernel_rfl)) (lcg_name (fun _ _ _ _ _ => pg_name (i := 8) S.nd rfl (by first | exact Or.inl rfl | exact Or.inr rfl))) (fun _ _ _ _ _ => vts_nil) (fun _ _ _ _ _ => (v_tup (va_cons (v_var (pv 5)) (va_cons (v_var (pv 8)) va_nil))))) va_nil))))) (vss_cons (vs_set (i := 6) S.nd rfl (Or.inl rfl) (v_callK k__law_take hr (va_cons (v_var (pv 0)) (va_cons v_int va_nil)))) (vss_cons (vs_if (t_pw (t_and (t_cmp (o_eq hr.r) (v_var (pv 6)) v_int (nomark _)) (t_and1 (t_cmp o_gt (v_var (pv 3)) v_int (nomark _))))) (vss_one (vs_set (i := 7) S.nd rfl (Or.inl rfl) (v_op o_add (v_lc (own := [("room", 9)]) rfl S.nd (vi_range1 (hB _ (by decide +kernel)) (va_cons (v_op o_sub (v_var (pv 3)) v_int) va_nil)) (blkOk_by (by first | rfl | kernel_rfl)) (lcg_name (fun _ _ _ _ _ => pg_name (i := 9) S.nd rfl (by first | exact Or.inl rfl | exact Or.inr rfl))) (fun _ _ _ _ _ => vts_nil) (fun _ _ _ _ _ => (v_tup (va_cons (v_var (pv 9)) (va_cons (v_op o_add (v_var (pv 9)) v_int) va_nil))))) (v_lst (va_cons (v_tup (va_cons v_int (va_cons (v_op o_sub (v_var (pv 3)) v_int) va_nil))) va_nil))))) (vss_one (vs_if (t_pw (t_and (t_cmp (o_eq hr.r) (v_var (pv 6)) v_int (nomark _)) (t_and1 (t_cmp o_gt (v_var (pv 3)) v_int (nomark _))))) (vss_one (vs_setLc (i := 7) (hc := rfl) (hN := S.nd) (hy := rfl) (hyl := rfl) (hsw := sw_true rfl rfl rfl (by decide +kernel))  (own := [("pair", 10)]) (vi_seq (v_var (pv 4))) (blkOk_by (by first | rfl | kernel_rfl)) (lcg_name (fun _ _ _ _ _ => pg_name (i := 10) S.nd rfl (by first | exact Or.inl rfl | exact Or.inr rfl))) (fun _ _ _ _ _ => (vts_one (t_chain o_lt o_le (v_ix (v_var (pv 10)) v_int) (v_op o_fdiv (v_var (pv 3)) v_int) (v_ix (v_var (pv 10)) v_int)))) (fun _ _ _ _ _ => (v_var (pv 10))))) (vss_one (vs_set (i := 7) S.nd rfl (Or.inl rfl) (v_callK k__law_some hr (va_cons (v_var (pv 0)) (va_cons (v_var (pv 4)) (va_cons (v_callB (c_min2 rfl) (hB _ (by decide +kernel)) (va_cons (v_var (pv 2)) (va_cons (v_op o_add v_int (v_callK k__law_take hr (va_cons (v_var (pv 0)) (va_cons (v_callB c_len (hB _ (by decide +kernel)) (va_cons (v_var (pv 4)) va_nil)) va_nil)))) va_nil))) va_nil))))))))) (vss_one (vs_ret (v_tup (va_cons (v_var (pv 3)) (va_cons (v_sl (v_callTy c_tuple (hB _ (by decide +kernel)) (va_cons (v_callB (c_sortD hr.r) (hB _ (by decide +kernel)) (va_cons (v_var (pv 7)) va_nil)) va_nil)) vo_none (vo_some v_int)) va_nil)))))))))), ?_⟩
  clear hr S
  rintro _ M Q ⟨x0, x1, x2, rfl, h⟩
  rw [show vstart N__law_web.length [x0, x1, x2] = [some x0, some x1, some x2, none, none, none, none, none, none, none, none] from rfl]
  obtain ⟨p, l, B, rfl, rfl, rfl, hM, hl, hB', h⟩ := h
  simp
  refine pr2_at.mpr ⟨p, l, B, 7, rfl, rfl, hM, hl, by omega, by decide, by decide, fun m l1 hm hl1 => ?_⟩
  simp
  intro q hq
  have hpq : p ≠ q := fun z => by rw [z, mupd_same] at hq; cases hq
  rw [mupd_ne (Ne.symm hpq)] at hq
  have hn2 : (2 : Int) + (m : Int) = ((m + 2 : Nat) : Int) := by omega
  rw [hn2]
  generalize hnm : m + 2 = n at *
  have n2 : 2 ≤ n := by omega
  have n8 : n ≤ 8 := by omega
  have b64 : -4611686018427387904 ≤ (n : Int) ∧ (n : Int) < 4611686018427387904 := by omega
  obtain ⟨fnd, fl28, fl1⟩ := full_nd8 n n8
  have fl1 := fl1 n2
  refine sFor_al (List.range n) (fun i => .int (0 + ((i : Nat) : Int))) (fun i e M1 => M1 = mupd (mupd M p (.lst l1)) q (.lst ((((List.range i).map fun i => (List.range (n - 1 - i)).map fun j => (((i : Nat) : Int), ((i : Nat) : Int) + 1 + ((j : Nat) : Int))).flatten).map dD)) ∧ ∃ d, e = [some (.obj p), some (.int 8), some (.int 16), some (.int n), some (.obj q), d, none, none, none, none, none]) (w := ⟨_, fun _ => True⟩) (fun R r => ?_) rfl ⟨by simp, _, rfl⟩ (fun _ _ _ _ _ => trivial) (fun i x e M1 hd hlt ⟨hM1, d1, he⟩ => ?_) (fun e M1 ⟨hM1, d1, he⟩ => ?_)
  · simpa [rgD, b64] using r
  · subst he hM1
    simp at hlt
    rw [List.getElem?_range (by simpa using hlt)] at hd
    cases hd
    simp [-List.length_flatten, -List.map_flatten]
    refine vLc_al (List.range (n - 1 - i)) (fun j => .int (((i : Nat) : Int) + 1 + ((j : Nat) : Int))) (fun j => dD (((i : Nat) : Int), ((i : Nat) : Int) + 1 + ((j : Nat) : Int))) (w := ⟨_, fun _ => True⟩) (fun R r => ?_) rfl trivial ?_ (fun x hx A hA => ?_) ?_
    · have e : ((n : Int) - ((i : Int) + 1)).toNat = n - 1 - i := by omega
      simpa [rgD, e, and_assoc, b64, show -4611686018427387904 ≤ (i : Int) + 1 by omega, show (i : Int) + 1 < 4611686018427387904 by omega] using r
    · simp; have := size1000; omega
    · simpa [vwipe, dD] using hA
    · simp [-List.length_flatten, -List.map_flatten]
      have sz := size1000
      have fl := flat_len (fun i : Nat => (List.range (n - 1 - i)).map fun j => (((i : Nat) : Int), ((i : Nat) : Int) + 1 + ((j : Nat) : Int))) 8 (List.range i) (fun x _ => by simp; omega)
      rw [List.length_range] at fl
      exact ⟨by omega, by simp [List.range_succ, Function.comp_def]⟩
  · subst he hM1
    rw [List.length_range, show ((List.range n).map fun i => (List.range (n - 1 - i)).map fun j => (((i : Nat) : Int), ((i : Nat) : Int) + 1 + ((j : Nat) : Int))).flatten = fullDs n from rfl]
    simp
    refine pr2_at.mpr ⟨p, l1, B + 1, 4, rfl, rfl, by rw [mupd_ne hpq, mupd_same], hl1, by omega, by decide, by decide, fun way l2 hw hl2 => ?_⟩
    rw [mupd3_b hpq]
    have fin : ∀ (M' : Mem) (x : D) (ds : List (Int × Int)) (l3 : List D), asI M' x = some (ds.map dD) → ds.length ≤ 1000 → 1 ≤ ds.length → (∀ d ∈ ds, 0 ≤ d.1 ∧ d.1 < d.2 ∧ d.2 ≤ (n : Int) - 1) → ds.Nodup → Sub (mupd M p (.lst l3)) M' → Pot (B + 40) l3 →
        VL.rSortD [x] M' fun y M1 => VL.rTuple [y] M1 fun z M2 => oSl z none (some 16) M2 fun w M3 => ∃ M'', Sub M'' M3 ∧ Q (.tup [.int n, w]) M'' := fun M' x ds l3 hx hl h1 hd nd hs hp => by
      refine sort_args ds hl M' _ x hx ?_
      have ct : cutD ((srt ds).map dD) none (some 16) = ((srt ds).take 16).map dD := by
        have := cut_take ((srt ds).map dD) 16
        rw [← List.map_take] at this
        exact this
      simp [VL.rTuple, asI, ct]
      exact ⟨_, hs, by simpa [webD] using h n _ l3 (web_of (by omega) (by omega) h1 hd nd) hp⟩
    have potUp : ∀ {b b' : Nat} {l : List D}, Pot b l → b ≤ b' → Pot b' l := fun ⟨own, x, k, e, a1, a2, a3, a4, a5⟩ hb => ⟨own, x, k, e, a1, a2, a3, a4, by omega⟩
    have hcase : (way = 0 ∧ 2 < n) ∨ (way = 1 ∧ 3 < n) ∨ (way = 0 ∧ ¬ 2 < n) ∨ (way = 1 ∧ ¬ 3 < n) ∨ (way ≠ 0 ∧ way ≠ 1) := by omega
    have hsub : ∀ l3, Sub (mupd M p (.lst l3)) (mupd (mupd M p (.lst l3)) q (.lst ((fullDs n).map dD))) := fun l3 => Sub.new (by rw [mupd_ne (Ne.symm hpq)]; exact hq)
    rcases hcase with c1 | c1 | c1 | c1 | c1
    · obtain ⟨r1, r2, r3, r4⟩ := ring_ok n n8 c1.2
      have i2 : (2 : Int) < n := by omega
      simp [c1, i2]
      refine vLc_al (List.range (n - 1)) (fun i => .int (0 + ((i : Nat) : Int))) (fun i => dD (((i : Nat) : Int), ((i : Nat) : Int) + 1)) (w := ⟨_, fun _ => True⟩) (fun R r => ?_) rfl trivial ?_ (fun x hx A hA => ?_) ?_
      · have e : ((n : Int) - 1).toNat = n - 1 := by omega
        simpa [rgD, e, show -4611686018427387904 ≤ (n : Int) - 1 by omega, show (n : Int) - 1 < 4611686018427387904 by omega] using r
      · simp; have := size1000; omega
      · simpa [vwipe, dD] using hA
      · have eD : (List.map (fun i : Nat => dD (((i : Nat) : Int), ((i : Nat) : Int) + 1)) (List.range (n - 1)) ++ [.tup [.int 0, .int ((n : Int) - 1)]]) = (ringDs n).map dD := by
          simp [ringDs, dD]
        simp [eD]
        exact ⟨by have := size1000; omega, fin _ _ (ringDs n) l2 rfl (by omega) r2 r4 r1 (hsub l2) (potUp hl2 (by omega))⟩
    · have i2 : (3 : Int) < n := by omega
      have m1 := mid_ok n n8 c1.2
      simp [c1, i2]
      refine vLc_alF (fullDs n) dD (fun d => decide (d.1 < (n : Int) / 2) && decide ((n : Int) / 2 ≤ d.2)) dD (w := ⟨(fullDs n).map dD, fun M' => asI M' (.obj q) = some ((fullDs n).map dD)⟩) (fun R r => ?_) rfl asL_mupd (by have := size1000; omega) (fun d hd A B hA hB => ?_) ?_
      · simpa [asI] using r
      · have e9 : Nat.log2 2 < 9000 := by decide +kernel
        by_cases z1 : d.1 < (n : Int) / 2 <;> by_cases z2 : (n : Int) / 2 ≤ d.2 <;> simp [z1, z2] at hA hB <;> simp [vwipe, dD, e9, z1, z2] <;> first | exact hA | exact hB
      · rw [show (fullDs n).filter (fun d => decide (d.1 < (n : Int) / 2) && decide ((n : Int) / 2 ≤ d.2)) = midDs n from rfl]
        have ml : (midDs n).length ≤ (fullDs n).length := List.length_filter_le ..
        exact fin _ _ (midDs n) l2 rfl (by omega) m1 (fun d hd => full_mem (List.mem_filter.mp hd).1) (List.Pairwise.filter _ fnd) (hsub l2) (potUp hl2 (by omega))
    · have i2 : ¬ (2 : Int) < n := by omega
      · simp [c1, i2]
        refine pr2_at.mpr ⟨p, l2, B + 2, (fullDs n).length, rfl, rfl, by rw [mupd_ne hpq, mupd_same], hl2, by omega, by omega, by omega, fun k l3 hk hl3 => ?_⟩
        rw [mupd3_b hpq]
        have ek : (if 1 + (k : Int) < 16 then 1 + (k : Int) else 16) = ((if 1 + k < 16 then 1 + k else 16 : Nat) : Int) := by
          by_cases z : 1 + k < 16
          · rw [if_pos z, if_pos (by omega)]; omega
          · rw [if_neg z, if_neg (by omega)] <;> rfl
        generalize hkk : (if 1 + k < 16 then 1 + k else 16) = kk at *
        have hk1 : 1 ≤ kk ∧ kk ≤ 16 ∧ kk ≤ (fullDs n).length := by rw [← hkk]; split <;> omega
        simp [ek]
        refine pr3_at.mpr ⟨p, q, l3, (fullDs n).map dD, B + 2 + 1, kk, rfl, rfl, hpq, rfl, by rw [mupd_ne hpq, mupd_same], mupd_same, hl3, by omega, by rw [List.length_map]; omega, by rw [List.length_map]; omega, fun r l4 ys rest hr hl4 hys hperm => ?_⟩
        have hrq : r ≠ q := fun z => by rw [z, mupd_same] at hr; cases hr
        have hrp : r ≠ p := fun z => by rw [z, mupd_ne hpq, mupd_same] at hr; cases hr
        rw [mupd_ne hrq, mupd_ne hrp] at hr
        rw [mupd3_b hpq]
        obtain ⟨u1, u2, u3⟩ := uD_map hperm
        refine fin _ _ (ys.map uD) l4 (by rw [u1]; exact asL_mupd) (by rw [List.length_map]; omega) (by rw [List.length_map]; omega) (fun d hd => full_mem (u2 d hd)) (u3 fnd) (Sub.wr (Sub.new (by rw [mupd_ne (Ne.symm hpq)]; exact hq)) (by rw [mupd_ne hrp]; exact hr)) (potUp hl4 (by omega))
    · have i2 : ¬ (3 : Int) < n := by omega
      · simp [c1, i2]
        refine pr2_at.mpr ⟨p, l2, B + 2, (fullDs n).length, rfl, rfl, by rw [mupd_ne hpq, mupd_same], hl2, by omega, by omega, by omega, fun k l3 hk hl3 => ?_⟩
        rw [mupd3_b hpq]
        have ek : (if 1 + (k : Int) < 16 then 1 + (k : Int) else 16) = ((if 1 + k < 16 then 1 + k else 16 : Nat) : Int) := by
          by_cases z : 1 + k < 16
          · rw [if_pos z, if_pos (by omega)]; omega
          · rw [if_neg z, if_neg (by omega)] <;> rfl
        generalize hkk : (if 1 + k < 16 then 1 + k else 16) = kk at *
        have hk1 : 1 ≤ kk ∧ kk ≤ 16 ∧ kk ≤ (fullDs n).length := by rw [← hkk]; split <;> omega
        simp [ek]
        refine pr3_at.mpr ⟨p, q, l3, (fullDs n).map dD, B + 2 + 1, kk, rfl, rfl, hpq, rfl, by rw [mupd_ne hpq, mupd_same], mupd_same, hl3, by omega, by rw [List.length_map]; omega, by rw [List.length_map]; omega, fun r l4 ys rest hr hl4 hys hperm => ?_⟩
        have hrq : r ≠ q := fun z => by rw [z, mupd_same] at hr; cases hr
        have hrp : r ≠ p := fun z => by rw [z, mupd_ne hpq, mupd_same] at hr; cases hr
        rw [mupd_ne hrq, mupd_ne hrp] at hr
        rw [mupd3_b hpq]
        obtain ⟨u1, u2, u3⟩ := uD_map hperm
        refine fin _ _ (ys.map uD) l4 (by rw [u1]; exact asL_mupd) (by rw [List.length_map]; omega) (by rw [List.length_map]; omega) (fun d hd => full_mem (u2 d hd)) (u3 fnd) (Sub.wr (Sub.new (by rw [mupd_ne (Ne.symm hpq)]; exact hq)) (by rw [mupd_ne hrp]; exact hr)) (potUp hl4 (by omega))
    · have i0 : ¬ ((way : Int) = 0) := by omega
      have i1 : ¬ ((way : Int) = 1) := by omega
      · simp [c1, i0, i1]
        refine pr2_at.mpr ⟨p, l2, B + 2, (fullDs n).length, rfl, rfl, by rw [mupd_ne hpq, mupd_same], hl2, by omega, by omega, by omega, fun k l3 hk hl3 => ?_⟩
        rw [mupd3_b hpq]
        have ek : (if 1 + (k : Int) < 16 then 1 + (k : Int) else 16) = ((if 1 + k < 16 then 1 + k else 16 : Nat) : Int) := by
          by_cases z : 1 + k < 16
          · rw [if_pos z, if_pos (by omega)]; omega
          · rw [if_neg z, if_neg (by omega)] <;> rfl
        generalize hkk : (if 1 + k < 16 then 1 + k else 16) = kk at *
        have hk1 : 1 ≤ kk ∧ kk ≤ 16 ∧ kk ≤ (fullDs n).length := by rw [← hkk]; split <;> omega
        simp [ek]
        refine pr3_at.mpr ⟨p, q, l3, (fullDs n).map dD, B + 2 + 1, kk, rfl, rfl, hpq, rfl, by rw [mupd_ne hpq, mupd_same], mupd_same, hl3, by omega, by rw [List.length_map]; omega, by rw [List.length_map]; omega, fun r l4 ys rest hr hl4 hys hperm => ?_⟩
        have hrq : r ≠ q := fun z => by rw [z, mupd_same] at hr; cases hr
        have hrp : r ≠ p := fun z => by rw [z, mupd_ne hpq, mupd_same] at hr; cases hr
        rw [mupd_ne hrq, mupd_ne hrp] at hr
        rw [mupd3_b hpq]
        obtain ⟨u1, u2, u3⟩ := uD_map hperm
        refine fin _ _ (ys.map uD) l4 (by rw [u1]; exact asL_mupd) (by rw [List.length_map]; omega) (by rw [List.length_map]; omega) (fun d hd => full_mem (u2 d hd)) (u3 fnd) (Sub.wr (Sub.new (by rw [mupd_ne (Ne.symm hpq)]; exact hq)) (by rw [mupd_ne hrp]; exact hr)) (potUp hl4 (by omega))
end K52
namespace K52M
abbrev Vec (I : Type) := I → Int
section
variable {I : Type}
def cmb (a : Int) (v : Vec I) (b : Int) (w : Vec I) : Vec I := fun i => a * v i - b * w i
/-- closed under combinations -/
def Cl (S : Vec I → Prop) : Prop := ∀ a b v w, S v → S w → S (cmb a v b w)
def cut (S : Vec I → Prop) (i : I) : Vec I → Prop := fun v => S v ∧ v i = 0
theorem cut_cl {S : Vec I → Prop} (h : Cl S) (i : I) : Cl (cut S i) := fun a b v w hv hw => ⟨h a b v w hv.1 hw.1, by show a * v i - b * w i = 0; rw [hv.2, hw.2]; simp⟩
inductive Rk : (Vec I → Prop) → Nat → Prop
  | zero {S : Vec I → Prop} : (∀ v, S v → ∀ i, v i = 0) → Rk S 0
  | succ {S : Vec I → Prop} {r : Nat} (h : Vec I) (i : I) : S h → h i ≠ 0 → Rk (cut S i) r → Rk S (r + 1)
theorem Rk.congr {S T : Vec I → Prop} {r : Nat} (h : Rk S r) (e : ∀ v, S v ↔ T v) : Rk T r := by
  have : S = T := funext fun v => propext (e v)
  rw [← this]; exact h
theorem cut_comm {S : Vec I → Prop} {i j : I} (v : Vec I) : cut (cut S i) j v ↔ cut (cut S j) i v := ⟨fun h => ⟨⟨h.1.1, h.2⟩, h.1.2⟩, fun h => ⟨⟨h.1.1, h.2⟩, h.1.2⟩⟩
theorem cl_pivot {S : Vec I → Prop} (hS : Cl S) {g h : Vec I} {i j : I} (hg : S g) (hh : S h) (gi : g i = 0) (gj : g j ≠ 0) (hi : h i ≠ 0) : ∃ e, cut S j e ∧ e i ≠ 0 := by
  refine ⟨cmb (g j) h (h j) g, ⟨hS _ _ _ _ hh hg, ?_⟩, ?_⟩
  · show g j * h j - h j * g j = 0
    rw [Int.mul_comm]; omega
  · show g j * h i - h j * g i ≠ 0
    rw [gi, Int.mul_zero, Int.sub_zero]
    exact Int.mul_ne_zero gj hi
/-- another pivot -/
theorem exch : ∀ (r : Nat) (S : Vec I → Prop), Cl S → Rk S r → ∀ (h : Vec I) (i : I), S h → h i ≠ 0 → ∃ k, r = k + 1 ∧ Rk (cut S i) k := by
  intro r
  induction r with
  | zero =>
    intro S hS hr h i hh hi
    cases hr with
    | zero z => exact absurd (z h hh i) hi
  | succ r ih =>
    intro S hS hr h i hh hi
    cases hr with
    | succ h' j hh' hj' hr' =>
      refine ⟨r, rfl, ?_⟩
      by_cases c : ∃ g, cut S i g ∧ g j ≠ 0
      · obtain ⟨g, hg, gj⟩ := c
        obtain ⟨e, he, ei⟩ := cl_pivot hS hg.1 hh hg.2 gj hi
        obtain ⟨k, rfl, hk⟩ := ih (cut S j) (cut_cl hS j) hr' e i he ei
        exact .succ g j hg gj (hk.congr fun v => cut_comm v)
      · have c' : ∀ g, cut S i g → g j = 0 := fun g hg => by
          by_cases z : g j = 0
          · exact z
          · exact absurd ⟨g, hg, z⟩ c
        have c2 : ∀ e, cut S j e → e i = 0 := fun e he => by
          by_cases z : e i = 0
          · exact z
          · obtain ⟨e', he', z'⟩ := cl_pivot hS he.1 hh' he.2 z hj'
            exact absurd (c' e' he') z'
        exact hr'.congr fun v => ⟨fun hv => ⟨hv.1, c2 v hv⟩, fun hv => ⟨hv.1, c' v hv⟩⟩
theorem Rk.uniq : ∀ (r : Nat) (S : Vec I → Prop), Cl S → Rk S r → ∀ s, Rk S s → r = s := by
  intro r
  induction r with
  | zero =>
    intro S hS hr s hs
    cases hr with
    | zero z =>
      cases hs with
      | zero _ => rfl
      | succ h i hh hi _ => exact absurd (z h hh i) hi
  | succ r ih =>
    intro S hS hr s hs
    cases hr with
    | succ h i hh hi hr' =>
      obtain ⟨k, rfl, hk⟩ := exch s S hS hs h i hh hi
      rw [ih (cut S i) (cut_cl hS i) hr' k hk]
inductive Sp (rows : List (Vec I)) : Vec I → Prop
  | nil : Sp rows fun _ => 0
  | row {v : Vec I} : v ∈ rows → Sp rows v
  | cmb (a b : Int) {v w : Vec I} : Sp rows v → Sp rows w → Sp rows (cmb a v b w)
  | div (k : Int) {v : Vec I} : k ≠ 0 → Sp rows (fun i => k * v i) → Sp rows v
theorem Sp.cl (rows : List (Vec I)) : Cl (Sp rows) := fun a b _ _ hv hw => .cmb a b hv hw
theorem Sp.sub {rows rows' : List (Vec I)} (h : ∀ v ∈ rows, Sp rows' v) : ∀ v, Sp rows v → Sp rows' v := by
  intro v hv
  induction hv with
  | nil => exact .nil
  | row m => exact h _ m
  | cmb a b _ _ i1 i2 => exact .cmb a b i1 i2
  | div k hk _ ih => exact .div k hk ih
theorem Sp.same {rows rows' : List (Vec I)} (h : ∀ v ∈ rows, Sp rows' v) (h' : ∀ v ∈ rows', Sp rows v) (v : Vec I) : Sp rows v ↔ Sp rows' v := ⟨Sp.sub h v, Sp.sub h' v⟩
theorem Sp.zero_iff {rows : List (Vec I)} (i : I) (h : ∀ v ∈ rows, v i = 0) : ∀ v, Sp rows v → v i = 0 := by
  intro v hv
  induction hv with
  | nil => rfl
  | row m => exact h _ m
  | cmb a b _ _ i1 i2 =>
    show a * _ - b * _ = 0
    rw [i1, i2]; simp
  | div k hk _ ih => exact (Int.mul_eq_zero.mp ih).resolve_left hk
def red (h : Vec I) (i : I) (v : Vec I) : Vec I := cmb (h i) v (v i) h
/-- one step of an elimination -/
theorem cut_red (h : Vec I) (i : I) (rest : List (Vec I)) (hi : h i ≠ 0) (v : Vec I) : cut (Sp (h :: rest)) i v ↔ Sp (rest.map (red h i)) v := by
  constructor
  · rintro ⟨hv, vi⟩
    have key : ∀ v, Sp (h :: rest) v → Sp (rest.map (red h i)) (red h i v) := by
      intro v hv
      induction hv with
      | nil =>
        have e : red h i (fun _ => 0) = fun _ => 0 := by
          funext j; show h i * 0 - 0 * h j = 0; simp
        rw [e]; exact .nil
      | @row v m =>
        rcases List.mem_cons.mp m with rfl | m
        · have e : red v i v = fun _ => 0 := by
            funext j; show v i * v j - v i * v j = 0; omega
          rw [e]; exact .nil
        · exact .row (List.mem_map_of_mem m)
      | @cmb a b v w _ _ i1 i2 =>
        have e : red h i (K52M.cmb a v b w) = K52M.cmb a (red h i v) b (red h i w) := by
          funext j
          show h i * (a * v j - b * w j) - (a * v i - b * w i) * h j = a * (h i * v j - v i * h j) - b * (h i * w j - w i * h j)
          simp only [Int.mul_sub, Int.sub_mul, Int.mul_assoc, Int.mul_left_comm (h i), Int.mul_left_comm]
          omega
        rw [e]; exact .cmb a b i1 i2
      | @div k v hk _ ih =>
        refine .div k hk ?_
        have e : (fun j => k * red h i v j) = red h i (fun j => k * v j) := by
          funext j
          show k * (h i * v j - v i * h j) = h i * (k * v j) - (k * v i) * h j
          rw [Int.mul_sub, Int.mul_left_comm, Int.mul_assoc]
        rw [e]; exact ih
    have z := key v hv
    refine .div (h i) hi ?_
    have e : red h i v = fun j => h i * v j := by
      funext j; show h i * v j - v i * h j = _; rw [vi]; simp
    rw [← e]; exact z
  · intro hv
    refine ⟨Sp.sub (fun w hw => ?_) v hv, Sp.zero_iff i (fun w hw => ?_) v hv⟩
    · obtain ⟨u, hu, rfl⟩ := List.mem_map.mp hw
      exact .cmb _ _ (.row (List.mem_cons_of_mem _ hu)) (.row List.mem_cons_self)
    · obtain ⟨u, _, rfl⟩ := List.mem_map.mp hw
      show h i * u i - u i * h i = 0
      rw [Int.mul_comm]; omega
theorem Rk.pivot {h : Vec I} {i : I} {rest : List (Vec I)} {r : Nat} (hi : h i ≠ 0) (hr : Rk (Sp (rest.map (red h i))) r) : Rk (Sp (h :: rest)) (r + 1) :=
  .succ h i (.row List.mem_cons_self) hi (hr.congr fun v => (cut_red h i rest hi v).symm)
theorem Rk.skip {h : Vec I} {rest : List (Vec I)} {r : Nat} (hz : ∀ i, h i = 0) (hr : Rk (Sp rest) r) : Rk (Sp (h :: rest)) r :=
  hr.congr (Sp.same (fun v m => .row (List.mem_cons_of_mem _ m)) fun v m => by
    rcases List.mem_cons.mp m with rfl | m
    · have e : v = fun _ => 0 := funext hz
      rw [e]; exact .nil
    · exact .row m)
section
variable [DecidableEq I]
def off (c : I) (v : Vec I) : Vec I := fun i => if i = c then 0 else v i
theorem more : ∀ (r : Nat) (c : I) (S T : Vec I → Prop), (∀ w, S w → T (off c w)) → (∀ v, T v → ∃ (k : Int) (w : Vec I), k ≠ 0 ∧ S w ∧ off c w = fun i => k * v i) → Rk T r → Rk S r ∨ Rk S (r + 1) := by
  intro r c
  induction r with
  | zero =>
    intro S T h1 h2 hr
    cases hr with
    | zero z =>
      have z' : ∀ w, S w → ∀ i, i ≠ c → w i = 0 := fun w hw i hi => by
        have := z (off c w) (h1 w hw) i
        simpa [off, hi] using this
      by_cases q : ∃ h, S h ∧ h c ≠ 0
      · obtain ⟨h, hh, hc⟩ := q
        refine .inr (.succ h c hh hc (.zero fun v hv i => ?_))
        by_cases e : i = c
        · rw [e]; exact hv.2
        · exact z' v hv.1 i e
      · refine .inl (.zero fun v hv i => ?_)
        by_cases e : i = c
        · rw [e]
          by_cases y : v c = 0
          · exact y
          · exact absurd ⟨v, hv, y⟩ q
        · exact z' v hv i e
  | succ r ih =>
    intro S T h1 h2 hr
    cases hr with
    | succ h i hh hi hr' =>
      obtain ⟨k, w, hk, hw, e⟩ := h2 h hh
      have at' : ∀ {w v : Vec I} {k : Int}, i ≠ c → (off c w = fun i => k * v i) → w i = k * v i := fun {w v k} ic e => by
        have := congrFun e i
        simpa [off, ic] using this
      have ic : i ≠ c := fun z => by
        have q : k * h i = 0 := by
          have := congrFun e i
          rw [z] at this ⊢
          simpa [off] using this.symm
        rcases Int.mul_eq_zero.mp q with q | q
        · exact hk q
        · exact hi q
      have wi : w i ≠ 0 := by
        rw [at' ic e]; exact Int.mul_ne_zero hk hi
      have s1 : ∀ w, cut S i w → cut T i (off c w) := fun w hw => ⟨h1 w hw.1, by simp [off, ic, hw.2]⟩
      have s2 : ∀ v, cut T i v → ∃ (k : Int) (w : Vec I), k ≠ 0 ∧ cut S i w ∧ off c w = fun i => k * v i := fun v hv => by
        obtain ⟨k, w, hk, hw, e⟩ := h2 v hv.1
        exact ⟨k, w, hk, ⟨hw, by rw [at' ic e, hv.2, Int.mul_zero]⟩, e⟩
      rcases ih (cut S i) (cut T i) s1 s2 hr' with q | q
      · exact .inl (.succ w i hw wi q)
      · exact .inr (.succ w i hw wi q)
theorem Sp.off2 {rows : List (Vec I)} (c : I) (v : Vec I) (h : Sp (rows.map (off c)) v) : ∃ (k : Int) (w : Vec I), k ≠ 0 ∧ Sp rows w ∧ off c w = fun i => k * v i := by
  induction h with
  | nil => exact ⟨1, _, by decide, .nil, by funext i; simp [K52M.off]⟩
  | row m =>
    obtain ⟨u, hu, rfl⟩ := List.mem_map.mp m
    exact ⟨1, u, by decide, .row hu, by funext i; simp⟩
  | @cmb a b v w _ _ i1 i2 =>
    obtain ⟨k1, w1, hk1, hw1, e1⟩ := i1
    obtain ⟨k2, w2, hk2, hw2, e2⟩ := i2
    refine ⟨k1 * k2, _, Int.mul_ne_zero hk1 hk2, .cmb (a * k2) (b * k1) hw1 hw2, ?_⟩
    funext i
    have f1 := congrFun e1 i
    have f2 := congrFun e2 i
    by_cases e : i = c
    · simp [K52M.off, e] at f1 f2 ⊢
      have v0 : v c = 0 := (Int.mul_eq_zero.mp f1.symm).resolve_left hk1
      have w0 : w c = 0 := (Int.mul_eq_zero.mp f2.symm).resolve_left hk2
      show 0 = k1 * k2 * (a * v c - b * w c)
      rw [v0, w0]
      simp
    · simp [K52M.off, e] at f1 f2 ⊢
      show a * k2 * w1 i - b * k1 * w2 i = k1 * k2 * (a * v i - b * w i)
      rw [f1, f2]
      simp only [Int.mul_sub]
      congr 1
      · simp only [Int.mul_assoc, Int.mul_left_comm, Int.mul_comm]
      · simp only [Int.mul_assoc, Int.mul_left_comm, Int.mul_comm]
  | @div k' v hk' _ ih =>
    obtain ⟨k, w, hk, hw, e⟩ := ih
    exact ⟨k * k', w, Int.mul_ne_zero hk hk', hw, by rw [e]; funext i; rw [Int.mul_assoc]⟩
theorem Sp.off1 {rows : List (Vec I)} (c : I) (w : Vec I) (hw : Sp rows w) : Sp (rows.map (off c)) (off c w) := by
  · induction hw with
    | nil =>
      have e : K52M.off c (fun _ => 0) = fun _ => (0 : Int) := by funext i; simp [K52M.off]
      rw [e]; exact .nil
    | row m => exact .row (List.mem_map_of_mem m)
    | @cmb a b v w _ _ i1 i2 =>
      have e : K52M.off c (K52M.cmb a v b w) = K52M.cmb a (K52M.off c v) b (K52M.off c w) := by
        funext i
        by_cases e : i = c <;> simp [K52M.off, K52M.cmb, e]
      rw [e]; exact .cmb a b i1 i2
    | @div k v hk _ ih =>
      refine .div k hk ?_
      have e : (fun i => k * K52M.off c v i) = K52M.off c (fun i => k * v i) := by
        funext i
        by_cases e : i = c <;> simp [K52M.off, e]
      rw [e]; exact ih
end
end
end K52M
namespace K52
open PySem PySem.Spec L2 VL
open K52M (Rk Sp red off Cl)
abbrev DV := K52M.Vec (Int × Int)
theorem gd_row {ds : List (Int × Int)} {f : DV} {j : Nat} (h : j < ds.length) : gd (ds.map f) j = f ds[j] := by
  unfold gd
  rw [List.getD_eq_getElem?_getD, List.getElem?_map, List.getElem?_eq_getElem h] <;> rfl
theorem wo_row {ds : List (Int × Int)} {f h : DV} {j : Nat} (hj : j < ds.length) : wo (ds.map f) (ds.map h) j = ds.map (red h ds[j] f) := by
  unfold wo
  rw [gd_row hj, gd_row hj, List.zip_map', List.map_map]
  refine List.map_congr_left fun d _ => ?_
  show f d * h ds[j] - f ds[j] * h d = h ds[j] * f d - f ds[j] * h d
  rw [Int.mul_comm (f d)]
def Van (ds : List (Int × Int)) (f : DV) : Prop := ∀ d, d ∉ ds → f d = 0
theorem van_red {ds : List (Int × Int)} {f h : DV} {i : Int × Int} (hf : Van ds f) (hh : Van ds h) : Van ds (red h i f) := fun d hd => by
  show h i * f d - f i * h d = 0
  rw [hf d hd, hh d hd]; simp
theorem rkA_rk (ds : List (Int × Int)) : ∀ (fs : List DV), (∀ f ∈ fs, Van ds f) → ∀ k, k = fs.length → Rk (Sp fs) (rkA k (fs.map fun f => ds.map f)) := by
  intro fs
  induction hn : fs.length generalizing fs with
  | zero =>
    intro _ k hk
    subst hk
    have e : fs = [] := List.eq_nil_of_length_eq_zero hn
    subst e
    exact .zero fun v hv i => Sp.zero_iff i (fun w hw => absurd hw (by simp)) v hv
  | succ n ih =>
    intro hv k hk
    subst hk
    cases fs with
    | nil => simp at hn
    | cons h rest =>
      simp at hn
      have hr : ∀ f ∈ rest, Van ds f := fun f hf => hv f (List.mem_cons_of_mem _ hf)
      have hh := hv h List.mem_cons_self
      show Rk _ (match nz (ds.map h) with | [] => rkA n (rest.map fun f => ds.map f) | a :: _ => rkA n ((rest.map fun f => ds.map f).map fun row => wo row (ds.map h) a) + 1)
      cases hz : nz (ds.map h) with
      | nil =>
        refine .skip (fun d => ?_) (ih rest hn hr n rfl)
        by_cases m : d ∈ ds
        · obtain ⟨j, hj, rfl⟩ := List.getElem_of_mem m
          by_cases q : h ds[j] = 0
          · exact q
          · have : j ∈ nz (ds.map h) := List.mem_filter.mpr ⟨List.mem_range.mpr (by rw [List.length_map]; exact hj), by rw [gd_row hj]; simpa using q⟩
            rw [hz] at this; cases this
        · exact hh d m
      | cons a as =>
        have ha : a ∈ nz (ds.map h) := by rw [hz]; exact List.mem_cons_self
        have ha' := List.mem_filter.mp ha
        have hj : a < ds.length := by have := List.mem_range.mp ha'.1; rwa [List.length_map] at this
        have hne : h ds[a] ≠ 0 := by have := ha'.2; rw [gd_row hj] at this; simpa using this
        have e : ((rest.map fun f => ds.map f).map fun row => wo row (ds.map h) a) = ((rest.map (red h ds[a])).map fun f => ds.map f) := by
          rw [List.map_map, List.map_map]
          exact List.map_congr_left fun f _ => wo_row hj
        show Rk _ (rkA n ((rest.map fun f => ds.map f).map fun row => wo row (ds.map h) a) + 1)
        rw [e]
        refine .pivot hne (ih (rest.map (red h ds[a])) (by rw [List.length_map]; exact hn) (fun f hf => ?_) n rfl)
        obtain ⟨f0, h0, rfl⟩ := List.mem_map.mp hf
        exact van_red (hr f0 h0) hh
def lgo (n : Nat) (s : (Nat → List Int) × Nat) (j : Nat) : Nat → (Nat → List Int) × Nat
  | 0 => s
  | m + 1 => lgo n (lstep n s j) (j + 1) m
theorem lgo_run (n : Nat) (g : Nat → List Int) : ∀ m j, lgo n (lrun n g j) j m = lrun n g (j + m)
  | 0, j => rfl
  | m + 1, j => by
    show lgo n (lrun n g (j + 1)) (j + 1) m = _
    rw [lgo_run n g m (j + 1)]
    congr 1
    omega
def swG (G : Nat → DV) (r a : Nat) : Nat → DV := fun k => if k = a then G r else if k = r then G a else G k
def tailG (n : Nat) (G : Nat → DV) (r : Nat) : List DV := (List.range (n - r)).map fun i => G (r + i)
theorem mem_tailG {n : Nat} {G : Nat → DV} {r : Nat} {v : DV} : v ∈ tailG n G r ↔ ∃ k, r ≤ k ∧ k < n ∧ G k = v := by
  unfold tailG
  rw [List.mem_map]
  constructor
  · rintro ⟨i, hi, rfl⟩
    have := List.mem_range.mp hi
    exact ⟨r + i, by omega, by omega, rfl⟩
  · rintro ⟨k, h1, h2, rfl⟩
    exact ⟨k - r, List.mem_range.mpr (by omega), by rw [show r + (k - r) = k by omega]⟩
theorem lgo_rk (ds : List (Int × Int)) (n : Nat) : ∀ (m j : Nat) (s : (Nat → List Int) × Nat) (G : Nat → DV), j + m = ds.length → (∀ k, k < n → s.1 k = ds.map (G k)) → (∀ k, k < n → Van ds (G k)) →
    (∀ k, s.2 ≤ k → k < n → ∀ i (hi : i < ds.length), i < j → G k ds[i] = 0) → s.2 ≤ n → ∃ t, (lgo n s j m).2 = s.2 + t ∧ Rk (Sp (tailG n G s.2)) t := by
  intro m
  induction m with
  | zero =>
    intro j s G hj hs hv hz hr
    refine ⟨0, rfl, .zero fun v hv' d => Sp.zero_iff d (fun w hw => ?_) v hv'⟩
    obtain ⟨k, k1, k2, rfl⟩ := mem_tailG.mp hw
    by_cases hm : d ∈ ds
    · obtain ⟨i, hi, rfl⟩ := List.getElem_of_mem hm
      exact hz k k1 k2 i hi (by omega)
    · exact hv k k2 d hm
  | succ m ih =>
    intro j s G hj hs hv hz hr
    have hjl : j < ds.length := by omega
    show ∃ t, (lgo n (lstep n s j) (j + 1) m).2 = s.2 + t ∧ _
    have gdk : ∀ k, k < n → gd (s.1 k) j = G k ds[j] := fun k hk => by rw [hs k hk, gd_row hjl]
    cases hc : cand n s.1 s.2 j with
    | nil =>
      have e : lstep n s j = s := by unfold lstep; rw [hc]
      rw [e]
      refine ih (j + 1) s G (by omega) hs hv (fun k k1 k2 i hi hij => ?_) hr
      by_cases q : i < j
      · exact hz k k1 k2 i hi q
      · have : i = j := by omega
        subst this
        by_cases z : G k ds[i] = 0
        · exact z
        · have : k - s.2 ∈ cand n s.1 s.2 i := List.mem_filter.mpr ⟨List.mem_range.mpr (by omega), by rw [show s.2 + (k - s.2) = k by omega, gdk k k2]; simpa using z⟩
          rw [hc] at this; cases this
    | cons a as =>
      have hm := cand_mem (show a ∈ cand n s.1 s.2 j by rw [hc]; exact List.mem_cons_self)
      have hr' : s.2 < n := by omega
      have e : lstep n s j = (elm (swp s.1 s.2 (s.2 + a)) s.2 j n, s.2 + 1) := by unfold lstep; rw [hc]
      rw [e]
      have hne : G (s.2 + a) ds[j] ≠ 0 := by rw [← gdk _ hm.1]; exact hm.2
      have sws : ∀ k, k < n → swp s.1 s.2 (s.2 + a) k = ds.map (swG G s.2 (s.2 + a) k) := fun k hk => by
        unfold swp swG
        by_cases q1 : k = s.2 + a
        · rw [if_pos q1, if_pos q1]; exact hs _ hr'
        · rw [if_neg q1, if_neg q1]
          by_cases q2 : k = s.2
          · rw [if_pos q2, if_pos q2]; exact hs _ hm.1
          · rw [if_neg q2, if_neg q2]; exact hs k hk
      have swv : ∀ k, k < n → Van ds (swG G s.2 (s.2 + a) k) := fun k hk => by
        unfold swG
        split
        · exact hv _ hr'
        · split
          · exact hv _ hm.1
          · exact hv k hk
      have swz : ∀ k, s.2 ≤ k → k < n → ∀ i (hi : i < ds.length), i < j → swG G s.2 (s.2 + a) k ds[i] = 0 := fun k k1 k2 i hi hij => by
        unfold swG
        split
        · exact hz _ (Nat.le_refl _) hr' i hi hij
        · split
          · exact hz _ (by omega) hm.1 i hi hij
          · exact hz k k1 k2 i hi hij
      have swr : swG G s.2 (s.2 + a) s.2 = G (s.2 + a) := by
        unfold swG
        by_cases q : s.2 = s.2 + a
        · rw [if_pos q, ← q]
        · rw [if_neg q, if_pos rfl]
      have mems : ∀ v, v ∈ tailG n (swG G s.2 (s.2 + a)) s.2 ↔ v ∈ tailG n G s.2 := fun v => by
        rw [mem_tailG, mem_tailG]
        constructor
        · rintro ⟨k, k1, k2, rfl⟩
          unfold swG
          split
          · exact ⟨s.2, Nat.le_refl _, hr', rfl⟩
          · split
            · exact ⟨s.2 + a, by omega, hm.1, rfl⟩
            · exact ⟨k, k1, k2, rfl⟩
        · rintro ⟨k, k1, k2, rfl⟩
          by_cases q1 : k = s.2
          · refine ⟨s.2 + a, by omega, hm.1, ?_⟩
            unfold swG; rw [if_pos rfl, q1]
          · by_cases q2 : k = s.2 + a
            · exact ⟨s.2, Nat.le_refl _, hr', by rw [swr, q2]⟩
            · refine ⟨k, k1, k2, ?_⟩
              unfold swG; rw [if_neg q2, if_neg q1]
      generalize hG2 : swG G s.2 (s.2 + a) = G2 at *
      obtain ⟨t, h1, h2⟩ := ih (j + 1) (elm (swp s.1 s.2 (s.2 + a)) s.2 j n, s.2 + 1) (fun k => if s.2 < k ∧ k < n then red (G2 s.2) ds[j] (G2 k) else G2 k) (by omega)
        (fun k hk => by
          show elm _ _ _ _ k = _
          unfold elm
          by_cases q : s.2 < k ∧ k < n
          · rw [if_pos q, if_pos q, sws k hk, sws s.2 hr', wo_row hjl]
          · rw [if_neg q, if_neg q]; exact sws k hk)
        (fun k hk => by
          by_cases q : s.2 < k ∧ k < n
          · simp only [if_pos q]; exact van_red (swv k hk) (swv _ hr')
          · simp only [if_neg q]; exact swv k hk)
        (fun k k1 k2 i hi hij => by
          have q : s.2 < k ∧ k < n := ⟨k1, k2⟩
          simp only [if_pos q]
          show G2 s.2 ds[j] * G2 k ds[i] - G2 k ds[j] * G2 s.2 ds[i] = 0
          by_cases u : i < j
          · rw [swz k (by omega) k2 i hi u, swz s.2 (Nat.le_refl _) hr' i hi u]; simp
          · have : i = j := by omega
            subst this
            rw [Int.mul_comm]; omega)
        (by show s.2 + 1 ≤ n; omega)
      refine ⟨t + 1, by rw [h1]; show s.2 + 1 + t = s.2 + (t + 1); omega, ?_⟩
      have et : tailG n (fun k => if s.2 < k ∧ k < n then red (G2 s.2) ds[j] (G2 k) else G2 k) (s.2 + 1) = (tailG n G2 (s.2 + 1)).map (red (G2 s.2) ds[j]) := by
        unfold tailG
        rw [List.map_map]
        refine List.map_congr_left fun i hi => ?_
        have := List.mem_range.mp hi
        show (if s.2 < s.2 + 1 + i ∧ s.2 + 1 + i < n then _ else _) = _
        rw [if_pos (by omega)] <;> rfl
      have h2' : Rk (Sp ((tailG n G2 (s.2 + 1)).map (red (G2 s.2) ds[j]))) t := by rw [← et]; exact h2
      have h3 := Rk.pivot (h := G2 s.2) (i := ds[j]) (rest := tailG n G2 (s.2 + 1)) (by rw [swr]; exact hne) h2'
      refine h3.congr (Sp.same (fun v hv' => ?_) fun v hv' => ?_)
      · refine .row ((mems v).mp ?_)
        rcases List.mem_cons.mp hv' with rfl | m'
        · exact mem_tailG.mpr ⟨s.2, Nat.le_refl _, hr', rfl⟩
        · obtain ⟨k, k1, k2, rfl⟩ := mem_tailG.mp m'
          exact mem_tailG.mpr ⟨k, by omega, k2, rfl⟩
      · obtain ⟨k, k1, k2, rfl⟩ := mem_tailG.mp ((mems v).mpr hv')
        by_cases q : k = s.2
        · subst q; exact .row List.mem_cons_self
        · exact .row (List.mem_cons_of_mem _ (mem_tailG.mpr ⟨k, by omega, k2, rfl⟩))
def vecOf (ds : List (Int × Int)) (i : Nat) : DV := fun d => if d ∈ ds then inc (((i : Nat) : Int) + 1) d - inc 0 d else 0
def vecs (n : Nat) (ds : List (Int × Int)) : List DV := (List.range (n - 1)).map (vecOf ds)
theorem vec_row (ds : List (Int × Int)) (i : Nat) : ds.map (vecOf ds i) = ds.map fun d => inc (((i : Nat) : Int) + 1) d - inc 0 d :=
  List.map_congr_left fun d hd => by unfold vecOf; rw [if_pos hd]
theorem van_vec (ds : List (Int × Int)) (i : Nat) : Van ds (vecOf ds i) := fun d hd => by unfold vecOf; rw [if_neg hd]
theorem rows_vecs (n : Nat) (ds : List (Int × Int)) : (vecs n ds).map (fun f => ds.map f) = rowsOf n ds := by
  unfold vecs rowsOf
  rw [List.map_map]
  exact List.map_congr_left fun i _ => vec_row ds i
theorem rk_sp (n : Nat) (ds : List (Int × Int)) : Rk (Sp (vecs n ds)) (rkA (n - 1) (rowsOf n ds)) := by
  rw [← rows_vecs]
  exact rkA_rk ds (vecs n ds) (fun f hf => by obtain ⟨i, _, rfl⟩ := List.mem_map.mp hf; exact van_vec ds i) _ (by simp [vecs])
def rowG (ds : List (Int × Int)) : Nat → List Int := fun i => ds.map fun d => inc (((i : Nat) : Int) + 1) d - inc 0 d
theorem lrk_eq (n : Nat) (ds : List (Int × Int)) : lrk (n - 1) ds.length (rowG ds) = rkA (n - 1) (rowsOf n ds) := by
  obtain ⟨t, h1, h2⟩ := lgo_rk ds (n - 1) ds.length 0 (rowG ds, 0) (vecOf ds) (by omega) (fun k _ => (vec_row ds k).symm) (fun k _ => van_vec ds k) (fun _ _ _ _ _ h => absurd h (Nat.not_lt_zero _)) (Nat.zero_le _)
  have e : lgo (n - 1) (rowG ds, 0) 0 ds.length = lrun (n - 1) (rowG ds) ds.length := by
    have := lgo_run (n - 1) (rowG ds) ds.length 0
    rw [Nat.zero_add] at this
    exact this
  rw [e] at h1
  have e2 : tailG (n - 1) (vecOf ds) 0 = vecs n ds := by
    unfold tailG vecs
    rw [Nat.sub_zero]
    exact List.map_congr_left fun i _ => by rw [Nat.zero_add]
  have h2' : Rk (Sp (vecs n ds)) t := by rw [← e2]; exact h2
  have := Rk.uniq _ _ (Sp.cl _) h2' _ (rk_sp n ds)
  show (lrun (n - 1) (rowG ds) ds.length).2 = _
  rw [h1, ← this]
  exact Nat.zero_add t
theorem more_sp (n : Nat) (ds es : List (Int × Int)) (x : Int × Int) (hx : x ∉ ds) (he : ∀ d, d ∈ es ↔ d ∈ ds ∨ d = x) (hl : es.length = ds.length + 1) : spN n ds ≤ spN n es ∧ spN n es ≤ spN n ds + 1 := by
  have h1 := rk_sp n ds
  have h2 := rk_sp n es
  have e : vecs n ds = (vecs n es).map (off x) := by
    unfold vecs
    rw [List.map_map]
    refine List.map_congr_left fun i _ => ?_
    funext d
    show vecOf ds i d = if d = x then 0 else vecOf es i d
    unfold vecOf
    by_cases q : d = x
    · subst q; rw [if_neg hx, if_pos rfl]
    · rw [if_neg q]
      by_cases m : d ∈ ds
      · rw [if_pos m, if_pos ((he d).mpr (.inl m))]
      · rw [if_neg m, if_neg fun z => ((he d).mp z).elim m q]
  rw [e] at h1
  rcases K52M.more _ x (Sp (vecs n es)) _ (fun w hw => K52M.Sp.off1 x w hw) (fun v hv => K52M.Sp.off2 x v hv) h1 with q | q
  · have := Rk.uniq _ _ (Sp.cl _) q _ h2
    unfold spN
    omega
  · have := Rk.uniq _ _ (Sp.cl _) q _ h2
    unfold spN
    omega
theorem rkA_le : ∀ (k : Nat) (rows : List (List Int)), rkA k rows ≤ k
  | 0, _ => Nat.le_refl _
  | k + 1, [] => Nat.zero_le _
  | k + 1, head :: rest => by
    show (match nz head with | [] => rkA k rest | a :: _ => rkA k (rest.map fun row => wo row head a) + 1) ≤ k + 1
    split
    · exact Nat.le_trans (rkA_le k rest) (Nat.le_succ _)
    · exact Nat.succ_le_succ (rkA_le k _)
end K52
namespace K52
open PySem PySem.Spec L2 VL
theorem potUp {b b' : Nat} {l : List D} (h : Pot b l) (hb : b ≤ b') : Pot b' l := by
  obtain ⟨own, x, k, e, a1, a2, a3, a4, a5⟩ := h
  exact ⟨own, x, k, e, a1, a2, a3, a4, by omega⟩
def restDs (n : Nat) (ds : List (Int × Int)) (i : Nat) : List (Int × Int) := ((List.range (n - 1 - i)).map fun j => (((i : Nat) : Int), ((i : Nat) : Int) + 1 + ((j : Nat) : Int))).filter fun d => decide (d ∉ ds)
theorem notin_dD (d : Int × Int) (ds : List (Int × Int)) (M : Mem) (Q : VL.VK) (q : Q (.bl (decide (d ∉ ds))) M) : oNotIn (dD d) (.tup (ds.map dD)) M Q := by
  have s : ∀ c : Int × Int, Sh 30 (dD c) := fun c x hx => by
    simp at hx
    rcases hx with rfl | rfl <;> exact sh_int
  refine ⟨ds.map dD, rfl, s d, fun z hz => by obtain ⟨c, _, rfl⟩ := List.mem_map.mp hz; exact s c, ?_⟩
  have e : inD (dD d) (ds.map dD) = decide (d ∈ ds) := by
    have h1 : ∀ c : Int × Int, eqD (dD c) (dD d) = decide (c = d) := fun c => by
      show eqD (.tup [.int c.1, .int c.2]) (.tup [.int d.1, .int d.2]) = _
      rw [eqD_tup, eqDs_cons, eqDs_cons, eqDs_nil, eqD_int, eqD_int, Bool.and_true]
      by_cases q1 : c.1 = d.1 <;> by_cases q2 : c.2 = d.2 <;> simp [q1, q2, Prod.ext_iff]
    unfold inD
    rw [List.any_map]
    rw [Bool.eq_iff_iff]
    simp [h1]
  rw [e, ← decide_not]; exact q
theorem log2_20 {n : Nat} (h : n ≤ 1000000) : n.log2 < 1920 := by
  rcases Nat.eq_zero_or_pos n with h0 | h0
  · rw [h0]; decide
  · have := (Nat.log2_lt (n := n) (k := 20) (by omega)).mpr (by omega)
    omega
theorem asc_pw : ∀ {ds : List (Int × Int)}, asc ds = true → ds.Pairwise fun a b => ltP a b = true
  | [], _ => .nil
  | [a], _ => by simp
  | a :: b :: l, h => by
    have h' : (ltP a b && asc (b :: l)) = true := h
    rw [Bool.and_eq_true] at h'
    have ih := asc_pw h'.2
    refine .cons (fun c hc => ?_) ih
    rcases List.mem_cons.mp hc with rfl | hc
    · exact h'.1
    · have h2 := (List.pairwise_cons.mp ih).1 c hc
      have h1 := h'.1
      simp only [ltP, decide_eq_true_eq] at *
      omega
theorem asc_nd {ds : List (Int × Int)} (h : asc ds = true) : ds.Nodup := (asc_pw h).imp fun {a b} q => by
  rintro rfl
  simp [ltP] at q
def restAll (n : Nat) (ds : List (Int × Int)) : List (Int × Int) := ((List.range n).map (restDs n ds)).flatten
theorem rest_mem {n : Nat} {ds : List (Int × Int)} {x : Int × Int} (h : x ∈ restAll n ds) : x ∉ ds ∧ 0 ≤ x.1 ∧ x.1 < x.2 ∧ x.2 ≤ (n : Int) - 1 := by
  obtain ⟨l, hl, hx⟩ := List.mem_flatten.mp h
  obtain ⟨i, hi, rfl⟩ := List.mem_map.mp hl
  obtain ⟨h1, h2⟩ := List.mem_filter.mp hx
  obtain ⟨j, hj, rfl⟩ := List.mem_map.mp h1
  have := List.mem_range.mp hi
  have := List.mem_range.mp hj
  refine ⟨by simpa using h2, ?_⟩
  simp only
  omega
abbrev N__law_right : List Str := ["pot", "web", "rooms", "doors", "at", "rows", "due", "pairs", "one", "more", "room", "door", "row", "here", "there", "other"]
abbrev P__law_right : List Str := ["pot"]
theorem sc__law_right : FnScope N__law_right P__law_right (defScope s__law_right) := ⟨rfl, rfl, rfl, by decide +kernel, rfl, by decide +kernel, by decide +kernel⟩
def p__law_right : VSp := pr1 fun a M Q => ∃ (p : Addr) (l : List D) (B : Nat), a = .obj p ∧ M p = some (.lst l) ∧ Pot B l ∧ B < 800000 ∧ ∀ l', Pot (B + 50) l' → Q (.bl true) (mupd M p (.lst l'))
theorem ok__law_right {P : Program} {w : World} {K : PySem.W.Frag} {mg : Str → Option Value} {base : Heap} (hD : Df K mg "_law_right" s__law_right) (hB : Fr mg bl) (k__law_web : Kn P w K mg base 3 "_law_web" P__law_web p__law_web) (k__law_rank : Kn P w K mg base 1 "_law_rank" P__law_rank p__law_rank) (k_space : Kn P w K mg base 6 "space" P_space p_space) (k__law_of : Kn P w K mg base 2 "_law_of" P__law_of p__law_of) : Kn P w K mg base 7 "_law_right" P__law_right p__law_right := by
  have S := sc__law_right
  refine kn_ofD hD sc__law_right (fun _ _ _ _ _ _ us hl => match us, hl with | [_], _ => rfl) pr1_len ?_
  intro f cdv A outer s H E hr
  refine ⟨_, (vss_cons (vs_set (i := 1) S.nd rfl (Or.inl rfl) (v_callK k__law_web hr (va_cons (v_var (pv 0)) (va_cons v_int (va_cons v_int va_nil))))) (vss_cons (vs_asg (v_var (pv 1)) (vg_tup (n := 2) rfl (vgs_cons (vg_name (pg_name (i := 2) S.nd rfl (by first | exact Or.inl rfl | exact Or.inr rfl))) (vgs_cons (vg_name (pg_name (i := 3) S.nd rfl (by first | exact Or.inl rfl | exact Or.inr rfl))) vgs_nil)))) (vss_cons (vs_set (i := 4) S.nd rfl (Or.inr rfl) (v_lc (own := [("room", 10)]) rfl S.nd (vi_range1 (hB _ (by decide +kernel)) (va_cons (v_var (pv 2)) va_nil)) (blkOk_by (by first | rfl | kernel_rfl)) (lcg_name (fun _ _ _ _ _ => pg_name (i := 10) S.nd rfl (by first | exact Or.inl rfl | exact Or.inr rfl))) (fun _ _ _ _ _ => vts_nil) (fun _ _ _ _ _ => (v_lc (own := [("door", 11)]) rfl S.nd (vi_seq (v_var (pv 3))) (blkOk_by (by first | rfl | kernel_rfl)) (lcg_name (fun _ _ _ _ _ => pg_name (i := 11) S.nd rfl (by first | exact Or.inl rfl | exact Or.inr rfl))) (fun _ _ _ _ _ => vts_nil) (fun _ _ _ _ _ => (v_callTy c_int (hB _ (by decide +kernel)) (va_cons (v_cmp (o_in hr.r) (v_var (pv 10)) (v_var (pv 11)) (by with_unfolding_all rfl)) va_nil))))))) (vss_cons (vs_setLc (i := 5) (hc := rfl) (hN := S.nd) (hy := rfl) (hyl := rfl) (hsw := sw_true rfl rfl rfl (by decide +kernel))  (own := [("row", 12)]) (vi_seq (v_sl (v_var (pv 4)) (vo_some v_int) vo_none)) (blkOk_by (by first | rfl | kernel_rfl)) (lcg_name (fun _ _ _ _ _ => pg_name (i := 12) S.nd rfl (by first | exact Or.inl rfl | exact Or.inr rfl))) (fun _ _ _ _ _ => vts_nil) (fun _ _ _ _ _ => (v_lc (own := [("here", 13), ("there", 14)]) rfl S.nd (vi_zip (hB _ (by decide +kernel)) (va_cons (v_var (pv 12)) (va_cons (v_ix (v_var (pv 4)) v_int) va_nil))) (blkOk_by (by first | rfl | kernel_rfl)) (lcg_tup (n := 2) rfl (lcgs_cons (lcg_name (fun _ _ _ _ _ => pg_name (i := 13) S.nd rfl (by first | exact Or.inl rfl | exact Or.inr rfl))) (lcgs_cons (lcg_name (fun _ _ _ _ _ => pg_name (i := 14) S.nd rfl (by first | exact Or.inl rfl | exact Or.inr rfl))) lcgs_nil))) (fun _ _ _ _ _ => vts_nil) (fun _ _ _ _ _ => (v_op o_sub (v_var (pv 13)) (v_var (pv 14))))))) (vss_cons (vs_set (i := 6) S.nd rfl (Or.inl rfl) (v_op o_sub (v_callB c_len (hB _ (by decide +kernel)) (va_cons (v_var (pv 3)) va_nil)) (v_callK k__law_rank hr (va_cons (v_var (pv 5)) va_nil)))) (vss_cons (vs_if (t_pw (t_or (t_cmp (o_ne hr.r) (v_callB c_reprI (hB _ (by decide +kernel)) (va_cons (v_callK k_space hr (va_cons (v_var (pv 1)) va_nil)) va_nil)) (v_callB c_reprI (hB _ (by decide +kernel)) (va_cons (v_var (pv 6)) va_nil)) (nomark _)) (t_or1 (t_not (t_chain o_le o_le (v_op o_add (v_op o_sub (v_callB c_len (hB _ (by decide +kernel)) (va_cons (v_var (pv 3)) va_nil)) (v_var (pv 2))) v_int) (v_var (pv 6)) (v_callB c_len (hB _ (by decide +kernel)) (va_cons (v_var (pv 3)) va_nil))))))) (vss_one (vs_ret v_bl)) vss_nil) (vss_cons (vs_set (i := 7) S.nd rfl (Or.inl rfl) (v_lstO va_nil)) (vss_cons (vs_for PassesOwn.never rfl (vi_range1 (hB _ (by decide +kernel)) (va_cons (v_var (pv 2)) va_nil)) (vg_name (pg_name (i := 8) S.nd rfl (by first | exact Or.inl rfl | exact Or.inr rfl))) (vss_one (vs_expr (v_extend (v_var (pv 7)) (va_cons (v_lc (own := [("other", 15)]) rfl S.nd (vi_range2 (hB _ (by decide +kernel)) (va_cons (v_op o_add (v_var (pv 8)) v_int) (va_cons (v_var (pv 2)) va_nil))) (blkOk_by (by first | rfl | kernel_rfl)) (lcg_name (fun _ _ _ _ _ => pg_name (i := 15) S.nd rfl (by first | exact Or.inl rfl | exact Or.inr rfl))) (fun _ _ _ _ _ => (vts_one (t_cmp (o_notIn hr.r) (v_tup (va_cons (v_var (pv 8)) (va_cons (v_var (pv 15)) va_nil))) (v_var (pv 3)) (by with_unfolding_all rfl)))) (fun _ _ _ _ _ => (v_tup (va_cons (v_var (pv 8)) (va_cons (v_var (pv 15)) va_nil))))) va_nil))))) (vss_cons (vs_if (t_pw (t_and (t_cmp (o_ne hr.r) (v_var (pv 7)) (v_lst va_nil) (nomark _)) (t_and1 (t_cmp o_lt (v_callB c_len (hB _ (by decide +kernel)) (va_cons (v_var (pv 3)) va_nil)) v_int (nomark _))))) (vss_cons (vs_set (i := 9) S.nd rfl (Or.inl rfl) (v_tup (va_cons (v_var (pv 2)) (va_cons (v_callTy c_tuple (hB _ (by decide +kernel)) (va_cons (v_callB (c_sortD hr.r) (hB _ (by decide +kernel)) (va_cons (v_op o_add (v_var (pv 3)) (v_tup (va_cons (v_callK k__law_of hr (va_cons (v_var (pv 0)) (va_cons (v_var (pv 7)) va_nil))) va_nil))) va_nil)) va_nil)) va_nil)))) (vss_one (vs_if (t_not (t_chain o_le o_le (v_callK k_space hr (va_cons (v_var (pv 1)) va_nil)) (v_callK k_space hr (va_cons (v_var (pv 9)) va_nil)) (v_op o_add (v_callK k_space hr (va_cons (v_var (pv 1)) va_nil)) v_int))) (vss_one (vs_ret v_bl)) vss_nil))) vss_nil) (vss_one (vs_ret v_bl))))))))))), ?_⟩
  clear hr S
  rintro _ M Q ⟨x0, rfl, h⟩
  rw [show vstart N__law_right.length [x0] = [some x0, none, none, none, none, none, none, none, none, none, none, none, none, none, none, none] from rfl]
  obtain ⟨p, l, B, rfl, hM, hl, hB', h⟩ := h
  have sz := size1000
  simp
  refine pr3_at.mpr ⟨p, l, B, rfl, rfl, rfl, hM, hl, by omega, fun n ds l1 ok hl1 => ?_⟩
  obtain ⟨w1, w2, w3, w4, w5, w6⟩ := id ok
  have n2 : 2 ≤ n := by omega
  have n8 : n ≤ 8 := by omega
  simp [webD]
  refine vLc_al (List.range n) (fun i => .int (0 + ((i : Nat) : Int))) (fun i => rowD (ds.map (inc ((i : Nat) : Int)))) (w := ⟨_, fun _ => True⟩) (fun R r => ?_) rfl trivial (by simp; omega) (fun i hi A hA => ?_) ?_
  · simpa [rgD, show -4611686018427387904 ≤ (n : Int) by omega, show (n : Int) < 4611686018427387904 by omega] using r
  · simp [vwipe]
    refine vLc_al ds dD (fun d => .int (inc ((i : Nat) : Int) d)) (w := ⟨ds.map dD, fun _ => True⟩) (fun R r => ?_) rfl trivial (by omega) (fun d hd B hB => ?_) ?_
    · simpa using r
    · simp [vwipe]
      refine in_dD _ _ _ _ ?_
      have := b2i_inc ((i : Nat) : Int) d
      simp at this ⊢
      rw [this]; exact hB
    · simpa [rowD, Function.comp_def] using hA
  · refine vLc_al (List.range (n - 1)) (fun i => rowD (ds.map (inc (((i : Nat) : Int) + 1)))) (fun i => rowD (ds.map fun d => inc (((i : Nat) : Int) + 1) d - inc 0 d)) (w := ⟨((List.range n).map fun i => rowD (ds.map (inc ((i : Nat) : Int)))).tail, fun _ => True⟩) (fun R r => ?_) ?_ trivial (by simp; omega) (fun i hi A hA => ?_) ?_
    · simpa [cut_tail] using r
    · show ((List.range n).map fun i => rowD (ds.map (inc ((i : Nat) : Int)))).tail = _
      rw [← List.map_tail, range_tail, List.map_map]
      refine List.map_congr_left fun i _ => ?_
      simp
    · simp [vwipe]
      refine vLc_al ds (fun d => .tup [.int (inc (((i : Nat) : Int) + 1) d), .int (inc 0 d)]) (fun d => .int (inc (((i : Nat) : Int) + 1) d - inc 0 d)) (w := ⟨zipD ((ds.map (inc (((i : Nat) : Int) + 1))).map D.int) ((ds.map (inc 0)).map D.int), fun _ => True⟩) (fun R r => ?_) ?_ trivial (by omega) (fun d hd B hB => ?_) ?_
      · have e0 : ((List.range n).map fun i => rowD (ds.map (inc ((i : Nat) : Int))))[0]? = some (rowD (ds.map (inc 0))) := by
          rw [List.getElem?_map, List.getElem?_range (by omega)] <;> rfl
        have r2 := r
        simp at r2
        have e00 : (List.range n)[0]? = some 0 := List.getElem?_range (by omega)
        simp [e0, e00, rowD, and_assoc]
        exact r2
      · rw [zipD_ints]
        rw [List.zip_map', List.map_map] <;> rfl
      · simpa [vwipe] using hB
      · simpa [rowD, Function.comp_def] using hA
    · have hR := rkA_le (n - 1) (rowsOf n ds)
      refine pr1_at.mpr ⟨n - 1, ds.length, rowG ds, rfl, by omega, by omega, by omega, fun k hk => ⟨by simp [rowG], fun x hx => ?_⟩, ?_⟩
      · obtain ⟨d, _, rfl⟩ := List.mem_map.mp hx
        exact inc_bd _ _ _
      rw [lrk_eq]
      have hsp : spN n ds = (ds.length : Int) - (rkA (n - 1) (rowsOf n ds) : Nat) := rfl
      refine ⟨_, rfl, pr1_at.mpr ⟨n, ds, rfl, ok, ?_⟩⟩
      rw [← hsp]
      have f1 : (ds.length : Int) - n + 1 ≤ spN n ds := by omega
      have f2 : spN n ds ≤ ds.length := by omega
      have f3 : (spN n ds).natAbs.log2 < 1920 := log2_20 (by omega)
      simp [f1, f2, f3]
      intro q hq
      have hpq : p ≠ q := fun z => by rw [z, mupd_same] at hq; cases hq
      rw [mupd_ne (Ne.symm hpq)] at hq
      have b64 : -4611686018427387904 ≤ (n : Int) ∧ (n : Int) < 4611686018427387904 := by omega
      refine sFor_al (List.range n) (fun i => .int (0 + ((i : Nat) : Int))) (fun i e M1 => M1 = mupd (mupd M p (.lst l1)) q (.lst ((((List.range i).map (restDs n ds)).flatten).map dD)) ∧ ∃ d d4 d5, e = [some (D.obj p), some (D.tup [D.int ↑n, D.tup (List.map dD ds)]), some (D.int ↑n), some (D.tup (List.map dD ds)), d4, d5, some (D.int (spN n ds)), some (D.obj q), d, none, none, none, none, none, none, none]) (w := ⟨_, fun _ => True⟩) (fun R r => ?_) rfl ⟨by simp, _, _, _, rfl⟩ (fun _ _ _ _ _ => trivial) (fun i x e M1 hd hlt ⟨hM1, d1, d4, d5, he⟩ => ?_) (fun e M1 ⟨hM1, d1, d4, d5, he⟩ => ?_)
      · simpa [rgD, b64] using r
      · subst he hM1
        simp at hlt
        rw [List.getElem?_range (by simpa using hlt)] at hd
        cases hd
        simp [-List.length_flatten, -List.map_flatten]
        refine vLc_alF (List.range (n - 1 - i)) (fun j => .int (((i : Nat) : Int) + 1 + ((j : Nat) : Int))) (fun j => decide ((((i : Nat) : Int), ((i : Nat) : Int) + 1 + ((j : Nat) : Int)) ∉ ds)) (fun j => dD (((i : Nat) : Int), ((i : Nat) : Int) + 1 + ((j : Nat) : Int))) (w := ⟨_, fun _ => True⟩) (fun R r => ?_) rfl trivial ?_ (fun j hj A B' hA hB => ?_) ?_
        · have e : ((n : Int) - ((i : Int) + 1)).toNat = n - 1 - i := by omega
          simpa [rgD, e, and_assoc, b64, show -4611686018427387904 ≤ (i : Int) + 1 by omega, show (i : Int) + 1 < 4611686018427387904 by omega] using r
        · simp; omega
        · simp [vwipe]
          refine notin_dD (((i : Nat) : Int), ((i : Nat) : Int) + 1 + ((j : Nat) : Int)) ds _ _ ?_
          by_cases z : (((i : Nat) : Int), ((i : Nat) : Int) + 1 + ((j : Nat) : Int)) ∈ ds
          · simp [z] at hA hB ⊢; exact hB
          · simp [z] at hA hB ⊢; exact hA
        · have el : ((List.range (n - 1 - i)).filter fun j : Nat => decide ((((i : Nat) : Int), ((i : Nat) : Int) + 1 + ((j : Nat) : Int)) ∉ ds)).map (fun j => dD (((i : Nat) : Int), ((i : Nat) : Int) + 1 + ((j : Nat) : Int))) = (restDs n ds i).map dD := by
            unfold restDs
            rw [List.filter_map, List.map_map]
            rfl
          rw [el]
          have fl := flat_len (restDs n ds) 8 (List.range i) (fun x _ => by
            have h1 : (restDs n ds x).length ≤ _ := List.length_filter_le ..
            simp at h1
            omega)
          have fl2 : (restDs n ds i).length ≤ 8 := by
            have h1 : (restDs n ds i).length ≤ _ := List.length_filter_le ..
            simp at h1
            omega
          rw [List.length_range] at fl
          simp [-List.length_flatten, -List.map_flatten]
          exact ⟨by omega, by simp [List.range_succ]⟩
      · subst he hM1
        rw [List.length_range, show ((List.range n).map (restDs n ds)).flatten = restAll n ds from rfl]
        have fin : ∀ M' l3, Sub (mupd M p (.lst l3)) M' → Pot (B + 50) l3 → ∃ M'', Sub M'' M' ∧ Q (.bl true) M'' := fun M' l3 hs hp => ⟨_, hs, h l3 hp⟩
        have hsub : ∀ l3, Sub (mupd M p (.lst l3)) (mupd (mupd M p (.lst l3)) q (.lst ((restAll n ds).map dD))) := fun l3 => Sub.new (by rw [mupd_ne (Ne.symm hpq)]; exact hq)
        have rl : (restAll n ds).length ≤ 64 := by
          have fl := flat_len (restDs n ds) 8 (List.range n) (fun x _ => by
            have h1 : (restDs n ds x).length ≤ _ := List.length_filter_le ..
            simp at h1
            omega)
          rw [List.length_range] at fl
          unfold restAll
          omega
        simp
        refine oNe_nil asL_mupd (fun x hx => by obtain ⟨d, _, rfl⟩ := List.mem_map.mp hx; intro y hy; simp at hy; rcases hy with rfl | rfl <;> exact sh_int) ?_
        by_cases c1 : restAll n ds = []
        · simp [c1]
          exact fin _ l1 (by have := hsub l1; rw [c1] at this; exact this) (potUp hl1 (by omega))
        · by_cases c2 : ds.length < 16
          · have c2' : (ds.length : Int) < 16 := by omega
            have c1' : (List.map dD (restAll n ds)).isEmpty = false := by
              cases z : restAll n ds with
              | nil => exact absurd z c1
              | cons _ _ => rfl
            simp [c1', c2', -List.isEmpty_map]
            refine pr2_at.mpr ⟨p, q, l1, (restAll n ds).map dD, B + 40, rfl, rfl, hpq, by rw [mupd_ne hpq, mupd_same], mupd_same, hl1, by omega, by rw [List.length_map]; exact List.length_pos_iff.mpr c1, by rw [List.length_map]; omega, fun d l2 hd hl2 => ?_⟩
            obtain ⟨x, hx, rfl⟩ := List.mem_map.mp hd
            obtain ⟨x0, x1, x2, x3⟩ := rest_mem hx
            rw [mupd3_b hpq]
            refine ⟨by omega, sort_args (ds ++ [x]) (by simp; omega) _ _ _ (by simp) ?_⟩
            have el : (srt (ds ++ [x])).length = ds.length + 1 := by rw [(srt_perm _).length_eq]; simp
            have nd2 : (ds ++ [x]).Nodup := List.nodup_append.mpr ⟨asc_nd w6, by simp, fun a ha b hb => by simp at hb; subst hb; intro z; subst z; exact x0 ha⟩
            have ok2 : WebOk n (srt (ds ++ [x])) := by
              have := web_of (n := (n : Int)) (ds := ds ++ [x]) (by omega) (by omega) (by simp) (fun d hd => by
                rcases List.mem_append.mp hd with hd | hd
                · exact w5 d hd
                · simp at hd; subst hd; exact ⟨x1, x2, x3⟩) nd2
              rwa [List.take_of_length_le (by omega)] at this
            have ms := more_sp n ds (srt (ds ++ [x])) x x0 (fun d => by rw [(srt_perm _).mem_iff]; simp) el
            simp [VL.rTuple, asI]
            refine pr1_at.mpr ⟨n, ds, rfl, ok, pr1_at.mpr ⟨n, _, rfl, ok2, ?_⟩⟩
            simp [ms.1]
            refine pr1_at.mpr ⟨n, ds, rfl, ok, ?_⟩
            simp [ms.2]
            exact fin _ l2 (hsub l2) (potUp hl2 (by omega))
          · have c2' : ¬ (ds.length : Int) < 16 := by omega
            have c1' : (List.map dD (restAll n ds)).isEmpty = false := by
              cases z : restAll n ds with
              | nil => exact absurd z c1
              | cons _ _ => rfl
            simp [c1', c2', -List.isEmpty_map]
            exact fin _ l1 (hsub l1) (potUp hl1 (by omega))
instance {n : Int} {ds : List (Int × Int)} : Decidable (WebOk n ds) := by unfold WebOk; infer_instance
theorem side_ok : ∀ i, i < 4 → ∀ j, j < 4 → WebOk ((2 + i + j : Nat) : Int) (sideDs (1 + (i : Int)) (1 + (j : Int))) ∧ spN (2 + i + j) (sideDs (1 + (i : Int)) (1 + (j : Int))) = (i : Int) * (j : Int) + (if i = j then 1 else 0) := by
  decide +kernel
theorem fullw_ok : ∀ i, i < 5 → WebOk ((2 + i : Nat) : Int) (fullDs (2 + i)) := by
  decide +kernel
theorem full_ok : ((List.range 5).map fun i => spN (2 + i) (fullDs (2 + i))) = [1, 1, 3, 6, 10] := by
  decide +kernel
abbrev N_law : List Str := ["script", "one", "other", "place", "pot", "rooms", "lap"]
abbrev P_law : List Str := ["script"]
theorem sc_law : FnScope N_law P_law (defScope s_law) := ⟨rfl, rfl, rfl, by decide +kernel, rfl, by decide +kernel, by decide +kernel⟩
def p_law : VSp := pr1 fun a M Q => ∃ ns : List Int, a = .rd (ns.map D.int) ∧ ns.length ≤ 100000 ∧ Q (.bl true) M
theorem ok_law {P : Program} {w : World} {K : PySem.W.Frag} {mg : Str → Option Value} {base : Heap} (hD : Df K mg "law" s_law) (hB : Fr mg bl) (k_space : Kn P w K mg base 6 "space" P_space p_space) (k_sides_web : Kn P w K mg base 3 "sides_web" P_sides_web p_sides_web) (k_full_web : Kn P w K mg base 3 "full_web" P_full_web p_full_web) (k__law_cells : Kn P w K mg base 1 "_law_cells" P__law_cells p__law_cells) (k__law_pot : Kn P w K mg base 1 "_law_pot" P__law_pot p__law_pot) (k__law_right : Kn P w K mg base 7 "_law_right" P__law_right p__law_right) : Kn P w K mg base 8 "law" P_law p_law := by
  have S := sc_law
  refine kn_ofD hD sc_law (fun _ _ _ _ _ _ us hl => match us, hl with | [_], _ => rfl) pr1_len ?_
  intro f cdv A outer s H E hr
  refine ⟨_, (vss_cons (vs_for PassesOwn.never rfl (vi_range2 (hB _ (by decide +kernel)) (va_cons v_int (va_cons v_int va_nil))) (vg_name (pg_name (i := 1) S.nd rfl (by first | exact Or.inl rfl | exact Or.inr rfl))) (vss_one (vs_for PassesOwn.never rfl (vi_range2 (hB _ (by decide +kernel)) (va_cons v_int (va_cons v_int va_nil))) (vg_name (pg_name (i := 2) S.nd rfl (by first | exact Or.inl rfl | exact Or.inr rfl))) (vss_one (vs_if (t_cmp (o_ne hr.r) (v_callK k_space hr (va_cons (v_callK k_sides_web hr (va_cons (v_var (pv 1)) (va_cons (v_var (pv 2)) va_nil))) va_nil)) (v_op o_add (v_op o_mulI (v_op o_sub (v_var (pv 1)) v_int) (v_op o_sub (v_var (pv 2)) v_int)) (v_callTy c_int (hB _ (by decide +kernel)) (va_cons (v_cmp (o_eq hr.r) (v_var (pv 1)) (v_var (pv 2)) (nomark _)) va_nil))) (nomark _)) (vss_one (vs_ret v_bl)) vss_nil))))) (vss_cons (vs_if (t_cmp (o_ne hr.r) (v_lc (own := [("rooms", 5)]) rfl S.nd (vi_range2 (hB _ (by decide +kernel)) (va_cons v_int (va_cons v_int va_nil))) (blkOk_by (by first | rfl | kernel_rfl)) (lcg_name (fun _ _ _ _ _ => pg_name (i := 5) S.nd rfl (by first | exact Or.inl rfl | exact Or.inr rfl))) (fun _ _ _ _ _ => vts_nil) (fun _ _ _ _ _ => (v_callK k_space hr (va_cons (v_callK k_full_web hr (va_cons (v_var (pv 5)) va_nil)) va_nil)))) (v_lst (va_cons v_int (va_cons v_int (va_cons v_int (va_cons v_int (va_cons v_int va_nil)))))) (nomark _)) (vss_one (vs_ret v_bl)) vss_nil) (vss_cons (vs_for PassesOwn.never rfl (vi_seq (v_callK k__law_cells hr (va_cons (v_var (pv 0)) (va_cons v_int va_nil)))) (vg_name (pg_name (i := 3) S.nd rfl (by first | exact Or.inl rfl | exact Or.inr rfl))) (vss_cons (vs_set (i := 4) S.nd rfl (Or.inr rfl) (v_callK k__law_pot hr (va_cons (v_var (pv 0)) (va_cons (v_var (pv 3)) va_nil)))) (vss_one (vs_if (t_not (t_val (v_callB (c_all rfl) (hB _ (by decide +kernel)) (va_cons (v_lc (own := [("lap", 6)]) rfl S.nd (vi_range1 (hB _ (by decide +kernel)) (va_cons v_int va_nil)) (blkOk_by (by first | rfl | kernel_rfl)) (lcg_name (fun _ _ _ _ _ => pg_name (i := 6) S.nd rfl (by first | exact Or.inl rfl | exact Or.inr rfl))) (fun _ _ _ _ _ => vts_nil) (fun _ _ _ _ _ => (v_callK k__law_right hr (va_cons (v_var (pv 4)) va_nil)))) va_nil)))) (vss_one (vs_ret v_bl)) vss_nil)))) (vss_one (vs_ret v_bl))))), ?_⟩
  clear hr S
  rintro _ M Q ⟨x0, rfl, h⟩
  rw [show vstart N_law.length [x0] = [some x0, none, none, none, none, none, none] from rfl]
  obtain ⟨ns, rfl, hn, h⟩ := h
  have sz := size1000
  simp
  refine sFor_al (List.range 4) (fun i => .int (1 + ((i : Nat) : Int))) (fun i e M1 => M1 = M ∧ ∃ d1 d2, e = [some (D.rd (List.map D.int ns)), d1, d2, none, none, none, none]) (w := ⟨rgD 1 4, fun _ => True⟩) (fun R r => by simpa [and_assoc] using r) rfl ⟨rfl, _, _, rfl⟩ (fun _ _ _ _ _ => trivial) (fun i x e M1 hd hi ⟨hM1, d1, d2, he⟩ => ?_) (fun e M1 ⟨hM1, d1, d2, he⟩ => ?_)
  · subst hM1 he
    rw [List.length_range] at hi
    rw [List.getElem?_range hi] at hd
    cases hd
    simp
    refine sFor_al (List.range 4) (fun j => .int (1 + ((j : Nat) : Int))) (fun j e M2 => M2 = M1 ∧ ∃ d2, e = [some (D.rd (List.map D.int ns)), some (.int (1 + (i : Int))), d2, none, none, none, none]) (w := ⟨rgD 1 4, fun _ => True⟩) (fun R r => by simpa [and_assoc] using r) rfl ⟨rfl, _, rfl⟩ (fun _ _ _ _ _ => trivial) (fun j x e M2 hd hj ⟨hM2, d2, he⟩ => ?_) (fun e M2 ⟨hM2, d2, he⟩ => ?_)
    · subst hM2 he
      rw [List.length_range] at hj
      rw [List.getElem?_range hj] at hd
      cases hd
      obtain ⟨s1, s2⟩ := side_ok i hi j hj
      simp
      refine pr2_at.mpr ⟨1 + i, 1 + j, rfl, rfl, by omega, by omega, by omega, ?_⟩
      have en : 1 + (i : Int) + (1 + (j : Int)) = ((2 + i + j : Nat) : Int) := by omega
      rw [en]
      refine pr1_at.mpr ⟨2 + i + j, _, rfl, s1, ?_⟩
      rw [s2]
      have ei : (1 + (i : Int) = 1 + (j : Int)) ↔ i = j := by omega
      have em : 1 + (i : Int) - 1 = i := by omega
      have em2 : 1 + (j : Int) - 1 = j := by omega
      simp [em, em2]
      refine ⟨.inl (by omega), .inl ?_⟩
      by_cases q : i = j
      · simp [q]
      · have q' : ¬ (i : Int) = (j : Int) := by omega
        simp [q, q']
    · subst hM2 he
      exact ⟨rfl, _, _, rfl⟩
  · subst hM1 he
    simp
    refine vLc_al (List.range 5) (fun i => .int (2 + ((i : Nat) : Int))) (fun i => .int (spN (2 + i) (fullDs (2 + i)))) (w := ⟨rgD 2 5, fun _ => True⟩) (fun R r => by simpa [and_assoc] using r) rfl trivial (by simp; omega) (fun i hi A hA => ?_) ?_
    · have hi' := List.mem_range.mp hi
      simp [vwipe]
      refine pr1_at.mpr ⟨2 + i, by simp, by omega, by omega, ?_⟩
      exact pr1_at.mpr ⟨2 + i, _, rfl, fullw_ok i hi', hA⟩
    · have ef : ((List.range 5).map fun i => (D.int (spN (2 + i) (fullDs (2 + i))))) = [1, 1, 3, 6, 10].map D.int := by
        have := congrArg (List.map D.int) full_ok
        rw [List.map_map] at this
        exact this
      rw [ef]
      have shI : ∀ xs : List Int, Sh 30 (.lst (xs.map D.int)) := fun xs x hx => by
        obtain ⟨y, _, rfl⟩ := List.mem_map.mp hx; exact sh_int
      refine .inr ⟨shI _, shI [1, 1, 3, 6, 10], ?_⟩
      rw [fz_lst, fz_lst, eqD_lst, show ([D.int 1, D.int 1, D.int 3, D.int 6, D.int 10] : List D) = [1, 1, 3, 6, 10].map D.int from rfl, eqDs_ints]
      simp
      unfold sFor
      simp
      refine pr2_at.mpr ⟨ns, 3, rfl, rfl, by decide, fun n hn1 hn2 => ?_⟩
      simp
      refine ⟨fun i e M2 => Sub M1 M2 ∧ ∃ d3 d4, e = [some (D.rd (List.map D.int ns)), d1, d2, d3, d4, none, none], ⟨Sub.refl, _, _, rfl⟩, ?_, ?_⟩
      · intro i d e M2 hd hp
        obtain ⟨hs, d3, d4, rfl⟩ := hp
        have hi : i < n := by
          rcases Nat.lt_or_ge i n with q | q
          · exact q
          · rw [List.getElem?_eq_none (by rw [rgD_len]; exact q)] at hd; cases hd
        rw [rgD_get hi] at hd
        cases hd
        simp
        refine pr2_at.mpr ⟨ns, i, rfl, rfl, by omega, hn, fun p l hp hl => ?_⟩
        unfold vLc
        simp
        refine ⟨fun k acc M3 => ∃ l, M3 = mupd M2 p (.lst l) ∧ Pot (50 * k) l ∧ k ≤ 6 ∧ acc = List.replicate k (.bl true), ⟨l, rfl, hl, by decide, rfl⟩, ?_, ?_⟩
        · intro k d acc M3 hd3 hp3
          obtain ⟨l3, rfl, q1, q2, rfl⟩ := hp3
          have hk : k < 6 := by
            rcases Nat.lt_or_ge k 6 with q | q
            · exact q
            · rw [List.getElem?_eq_none (by rw [rgD_len]; exact q)] at hd3; cases hd3
          simp [vwipe]
          refine pr1_at.mpr ⟨p, l3, 50 * k, rfl, mupd_same, q1, by omega, fun l4 hl4 => ?_⟩
          simp
          exact ⟨by omega, l4, rfl, by rw [show 50 * (k + 1) = 50 * k + 50 by omega]; exact hl4, by omega, by first | rfl | rw [List.replicate_succ']⟩
        · intro acc M3 hp3
          obtain ⟨l3, rfl, q1, q2, rfl⟩ := hp3
          rw [rgD_len]
          refine ⟨List.replicate 6 true, by simp, ?_⟩
          simp
          exact hs.trans (Sub.new hp)
      · intro e M2 hp
        obtain ⟨hs, _⟩ := hp
        exact ⟨M1, hs, h⟩
end K52
namespace K52
open PySem PySem.Spec L2 VL
theorem phi_ok (ns : List Int) (h : ns.length ≤ 63) (M : Mem) : p_law [.rd (ns.map D.int)] M fun d _ => d = .bl true := pr1_at.mpr ⟨ns, rfl, by omega, rfl⟩
theorem fr_ok {K : PySem.W.Frag} {h : Heap} {mg : Str → Option Value} (X : K.In h) (G : h.Ns mainGlobals mg) (c : He.SaysD fa fn K) : Fr mg bl := fun x hx => by
  have m : He.Fa.free x ∈ fa := by
    have e : fa = (fa.take 20) ++ (bl.map He.Fa.free ++ fa.drop 38) := rfl
    rw [e]
    exact List.mem_append_right _ (List.mem_append_left _ (List.mem_map_of_mem hx))
  obtain ⟨i, hi, e⟩ := List.getElem_of_mem m
  exact He.free_ok X G (c.fact i (f := .free x) (by rw [List.getElem?_eq_getElem hi, e]))
theorem law_ok {P : Program} {w : World} {K : PySem.W.Frag} {h : Heap} {mg : Str → Option Value} {base : Heap} (X : K.In h) (G : h.Ns mainGlobals mg) (c : He.SaysD fa fn K) : Kn P w K mg base 8 "law" P_law p_law := by
  have hB := fr_ok X G c
  obtain ⟨fd_is_integer, F_is_integer⟩ := c.def_ 0 (d := d_is_integer) rfl
  have k_is_integer := ok_is_integer (P := P) (w := w) (base := base) ⟨_, fd_is_integer, He.glo_ok X G (c.fact 0 (f := .glo "is_integer") rfl), F_is_integer⟩ hB
  obtain ⟨fd_is_between, F_is_between⟩ := c.def_ 1 (d := d_is_between) rfl
  have k_is_between := ok_is_between (P := P) (w := w) (base := base) ⟨_, fd_is_between, He.glo_ok X G (c.fact 1 (f := .glo "is_between") rfl), F_is_between⟩ hB k_is_integer
  obtain ⟨fd_are_between, F_are_between⟩ := c.def_ 2 (d := d_are_between) rfl
  have k_are_between := ok_are_between (P := P) (w := w) (base := base) ⟨_, fd_are_between, He.glo_ok X G (c.fact 2 (f := .glo "are_between") rfl), F_are_between⟩ hB k_is_between
  obtain ⟨fd_is_ascending, F_is_ascending⟩ := c.def_ 3 (d := d_is_ascending) rfl
  have k_is_ascending := ok_is_ascending (P := P) (w := w) (base := base) ⟨_, fd_is_ascending, He.glo_ok X G (c.fact 3 (f := .glo "is_ascending") rfl), F_is_ascending⟩ hB
  obtain ⟨t_MOST_ROOMS, i_MOST_ROOMS⟩ := He.int_ok X G (c.fact 38 (f := .int "MOST_ROOMS" 8) rfl)
  obtain ⟨t_MOST_DOORS, i_MOST_DOORS⟩ := He.int_ok X G (c.fact 39 (f := .int "MOST_DOORS" 16) rfl)
  obtain ⟨fd_is_web, F_is_web⟩ := c.def_ 4 (d := d_is_web) rfl
  have k_is_web := ok_is_web (P := P) (w := w) (base := base) ⟨_, fd_is_web, He.glo_ok X G (c.fact 4 (f := .glo "is_web") rfl), F_is_web⟩ hB i_MOST_ROOMS i_MOST_DOORS k_is_between k_are_between k_is_ascending
  obtain ⟨fd_check_web, F_check_web⟩ := c.def_ 5 (d := d_check_web) rfl
  have k_check_web := ok_check_web (P := P) (w := w) (base := base) ⟨_, fd_check_web, He.glo_ok X G (c.fact 5 (f := .glo "check_web") rfl), F_check_web⟩ hB k_is_web
  obtain ⟨fd_without, F_without⟩ := c.def_ 8 (d := d_without) rfl
  have k_without := ok_without (P := P) (w := w) (base := base) ⟨_, fd_without, He.glo_ok X G (c.fact 8 (f := .glo "without") rfl), F_without⟩ hB
  obtain ⟨fd_rank_of, F_rank_of⟩ := c.def_ 9 (d := d_rank_of) rfl
  have k_rank_of := ok_rank_of (P := P) (w := w) (base := base) ⟨_, fd_rank_of, He.glo_ok X G (c.fact 9 (f := .glo "rank_of") rfl), F_rank_of⟩ hB k_without
  obtain ⟨fd_space, F_space⟩ := c.def_ 10 (d := d_space) rfl
  have k_space := ok_space (P := P) (w := w) (base := base) ⟨_, fd_space, He.glo_ok X G (c.fact 10 (f := .glo "space") rfl), F_space⟩ hB k_check_web k_rank_of
  obtain ⟨fd_sides_web, F_sides_web⟩ := c.def_ 6 (d := d_sides_web) rfl
  have k_sides_web := ok_sides_web (P := P) (w := w) (base := base) ⟨_, fd_sides_web, He.glo_ok X G (c.fact 6 (f := .glo "sides_web") rfl), F_sides_web⟩ hB i_MOST_ROOMS k_is_between
  obtain ⟨t_MOST_FULL, i_MOST_FULL⟩ := He.int_ok X G (c.fact 40 (f := .int "MOST_FULL" 6) rfl)
  obtain ⟨fd_full_web, F_full_web⟩ := c.def_ 7 (d := d_full_web) rfl
  have k_full_web := ok_full_web (P := P) (w := w) (base := base) ⟨_, fd_full_web, He.glo_ok X G (c.fact 7 (f := .glo "full_web") rfl), F_full_web⟩ hB i_MOST_FULL k_is_between
  obtain ⟨fd__law_cells, F__law_cells⟩ := c.def_ 15 (d := d__law_cells) rfl
  have k__law_cells := ok__law_cells (P := P) (w := w) (base := base) ⟨_, fd__law_cells, He.glo_ok X G (c.fact 15 (f := .glo "_law_cells") rfl), F__law_cells⟩ hB
  obtain ⟨fd__law_pot, F__law_pot⟩ := c.def_ 11 (d := d__law_pot) rfl
  have k__law_pot := ok__law_pot (P := P) (w := w) (base := base) ⟨_, fd__law_pot, He.glo_ok X G (c.fact 11 (f := .glo "_law_pot") rfl), F__law_pot⟩ hB
  obtain ⟨fd__law_take, F__law_take⟩ := c.def_ 12 (d := d__law_take) rfl
  have k__law_take := ok__law_take (P := P) (w := w) (base := base) ⟨_, fd__law_take, He.glo_ok X G (c.fact 12 (f := .glo "_law_take") rfl), F__law_take⟩ hB
  obtain ⟨fd__law_some, F__law_some⟩ := c.def_ 14 (d := d__law_some) rfl
  have k__law_some := ok__law_some (P := P) (w := w) (base := base) ⟨_, fd__law_some, He.glo_ok X G (c.fact 14 (f := .glo "_law_some") rfl), F__law_some⟩ hB k__law_take
  obtain ⟨fd__law_web, F__law_web⟩ := c.def_ 16 (d := d__law_web) rfl
  have k__law_web := ok__law_web (P := P) (w := w) (base := base) ⟨_, fd__law_web, He.glo_ok X G (c.fact 16 (f := .glo "_law_web") rfl), F__law_web⟩ hB k__law_take k__law_some
  obtain ⟨fd__law_rank, F__law_rank⟩ := c.def_ 17 (d := d__law_rank) rfl
  have k__law_rank := ok__law_rank (P := P) (w := w) (base := base) ⟨_, fd__law_rank, He.glo_ok X G (c.fact 17 (f := .glo "_law_rank") rfl), F__law_rank⟩ hB
  obtain ⟨fd__law_of, F__law_of⟩ := c.def_ 13 (d := d__law_of) rfl
  have k__law_of := ok__law_of (P := P) (w := w) (base := base) ⟨_, fd__law_of, He.glo_ok X G (c.fact 13 (f := .glo "_law_of") rfl), F__law_of⟩ hB k__law_take
  obtain ⟨fd__law_right, F__law_right⟩ := c.def_ 18 (d := d__law_right) rfl
  have k__law_right := ok__law_right (P := P) (w := w) (base := base) ⟨_, fd__law_right, He.glo_ok X G (c.fact 18 (f := .glo "_law_right") rfl), F__law_right⟩ hB k__law_web k__law_rank k_space k__law_of
  obtain ⟨fd_law, F_law⟩ := c.def_ 19 (d := d_law) rfl
  have k_law := ok_law (P := P) (w := w) (base := base) ⟨_, fd_law, He.glo_ok X G (c.fact 19 (f := .glo "law") rfl), F_law⟩ hB k_space k_sides_web k_full_web k__law_cells k__law_pot k__law_right
  exact k_law
end K52
open PySem PySem.W PySem.Calls PyProof.Rows
theorem PySem.Challenge.cw_everyrowalike_k52_whole_spaces_of_number_holds : PySem.Challenge.rw_everyrowalike_k52_whole_spaces_of_number.Holds := by
  w_on; o_law
  refine HandSHeadRun.head_any (r := OpenLaw.row PySem.Challenge.rw_everyrowalike_k52_whole_spaces_of_number) (q := view (OpenLaw.row PySem.Challenge.rw_everyrowalike_k52_whole_spaces_of_number).prog [31]) (H := K52.hk) (ob := K52.ob) (M := 4000) (loose := K52.nm) (d := HandSHeadRun.topDef (OpenLaw.row PySem.Challenge.rw_everyrowalike_k52_whole_spaces_of_number).prog 31) (kwd := []) K52.ob_eq
    (by kernel_rfl) (fun s => by kernel_rfl) K52.run (by kernel_rfl) (by kernel_rfl) (by kernel_rfl) (by rfl) (by first | assumption | decide +kernel) (by decide +kernel) ⟨rfl, rfl, rfl, rfl, rfl, by decide +kernel⟩ ?hw ?hc
  case hw => w_witness2
  case hc =>
    refine VL.walk_K (l := PySem.Challenge.rw_everyrowalike_k52_whole_spaces_of_number) (n := 63) (k := 8) (x := "script") (φ := K52.p_law) rfl (by decide) (by kernel_rfl) ⟨rfl, by decide, by decide⟩ K52.phi_ok ?F
    intro w mg h Y G
    obtain ⟨K, KX, c⟩ := Y
    refine ⟨K, KX, fun base _ _ => ?_⟩
    have e : (HandSHeadRun.topDef (OpenLaw.row PySem.Challenge.rw_everyrowalike_k52_whole_spaces_of_number).prog 31).name = ("law" : PySem.Str) := by kernel_rfl
    rw [e]
    exact K52.law_ok KX G c
