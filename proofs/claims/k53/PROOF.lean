import PyProof.Rows.All
import Wide.All
import OpenK.AllK
import Wide.FinOn
import KE.KStateDown
import HandS.ForMost
import HandS.Walk
import HandS.Defaults
import HandS.Flow
import HandS.IsInst
import HandS.Lambda
import HandS.ExcInit
import HandS.ExcField
import HandS.TupAny
import HandS.Deep
import HandS.SortInts
import HandS.Wide
import HandS.Conv
import HandS.TupLen
import HandS.DictComp
import HandS.Zip
import KE.SortData
import KE.DatumIndex
import KE.DataCmp
import HandS.RaiseMore
import HandS.Words
import HandS.HeadHook1
import HandS.HeadHook2
import HandS.Style
import PyProof.ReprRoads
import HandS.IterVal
import HandS.Star
import HandS.TupMul
import HandS.Small
import KE.KExcSuper
import HandS.Nested
import HandS.ExcIs
import HandS.NestedK
import HandS.HeadHook4
import HandS.EndTab
import Lean
import HandS.Head0
import HandS.Head1
import HandS.Head2
import HandS.WordsExc
import HandS.HeadEnd
import PySem.Challenge.RW_everyrowalike_k53_webs_and_numbers_refus
import PyProof.Rows.RegStrFacts
import HandS.Text
import HandS.TryOnly
import KE.GoesMore
import KE.GoesZip
import HandS.TupSets
import KE.KDictPairs
import HandS.SetFor
set_option Elab.async false
set_option linter.all false
set_option maxRecDepth 100000
set_option maxHeartbeats 0
namespace VL
open PySem PySem.Spec L2

/-- a value as data; obj: an object that may change, by its address -/
inductive D where
  | non | bl (b : Bool) | int (i : Int) | str (x : Str) | lst (xs : List D) | tup (xs : List D) | obj (a : Addr)
  /-- a list that is only read: the script -/
  | rd (xs : List D)
  /-- an error of an own class, made with one value, no longer in the air -/
  | exc (C : Addr) (d : D)

/-- the error's own object at a; dx: its dict -/
def exF (a C dx : Addr) : HO := .ext fun h => ∃ (oe : Obj) (fv : Array Value), h.get? a = some oe ∧ oe.cls = .ref C ∧ oe.dict = some dx ∧ oe.data = .fields fv

mutual
/-- v is the data d, what it leans on stands in F -/
inductive DR (K : PySem.W.Frag) (F : Hp) : V → D → Prop
  | non : DR K F .non .non
  | bl (b : Bool) : DR K F (.bl b) (.bl b)
  | int (i : Int) : DR K F (.int i) (.int i)
  | str (x : Str) : DR K F (.str x) (.str x)
  | lst {a : Addr} {vs : List V} {ds : List D} : F a = some (.lst vs) → DRs K F vs ds → DR K F (.ref a) (.lst ds)
  | tup {a : Addr} {vs : List V} {ds : List D} : SqT K F a vs → DRs K F vs ds → DR K F (.ref a) (.tup ds)
  | obj (a : Addr) : DR K F (.ref a) (.obj a)
  | rd {a : Addr} {vs : List V} {ds : List D} : SqL K F a vs → DRs K F vs ds → DR K F (.ref a) (.rd ds)
  | exc {a C dx : Addr} {v : V} {d : D} : F a = some (exF a C dx) → F dx = some (.xd [("value", v)]) → DR K F v d → DR K F (.ref a) (.exc C d)
inductive DRs (K : PySem.W.Frag) (F : Hp) : List V → List D → Prop
  | nil : DRs K F [] []
  | cons {v : V} {vs : List V} {d : D} {ds : List D} : DR K F v d → DRs K F vs ds → DRs K F (v :: vs) (d :: ds)
end

theorem same_tup {K : PySem.W.Frag} {H H' : Hp} {a : Addr} {xs : List V} (e : Same H H') (h : SqT K H a xs) : SqT K H' a xs := by
  rcases h with (h | ⟨o, h⟩) | h
  · exact .inl (.inl (e _ _ h))
  · exact .inl (.inr ⟨o, e _ _ h⟩)
  · exact .inr h
section
variable {K : PySem.W.Frag} {F F' : Hp}
mutual
theorem DR.mono (s : Same F F') : ∀ (d : D) (v : V), DR K F v d → DR K F' v d
  | .non, _, h => by cases h; exact .non
  | .bl b, _, h => by cases h; exact .bl b
  | .int i, _, h => by cases h; exact .int i
  | .str x, _, h => by cases h; exact .str x
  | .obj a, _, h => by cases h; exact .obj a
  | .lst ds, _, h => by
    cases h with
    | lst q r => exact .lst (s _ _ q) (DRs.mono s ds _ r)
  | .tup ds, _, h => by
    cases h with
    | tup q r => exact .tup (same_tup s q) (DRs.mono s ds _ r)
  | .rd ds, _, h => by
    cases h with
    | rd q r => exact .rd (s.seq q) (DRs.mono s ds _ r)
  | .exc C d, _, h => by
    cases h with
    | exc q r z => exact .exc (s _ _ q) (s _ _ r) (DR.mono s d _ z)
theorem DRs.mono (s : Same F F') : ∀ (ds : List D) (vs : List V), DRs K F vs ds → DRs K F' vs ds
  | [], _, h => by cases h; exact .nil
  | d :: ds, _, h => by
    cases h with
    | cons q r => exact .cons (DR.mono s d _ q) (DRs.mono s ds _ r)
end
theorem DR.up {v : V} {d : D} (h : DR K F v d) (s : Same F F') : DR K F' v d := DR.mono s d v h
theorem DRs.up {vs : List V} {ds : List D} (h : DRs K F vs ds) (s : Same F F') : DRs K F' vs ds := DRs.mono s ds vs h
theorem DRs.len : ∀ {vs : List V} {ds : List D}, DRs K F vs ds → vs.length = ds.length
  | _, [], h => by cases h; rfl
  | _, d :: ds, h => by
    cases h with
    | cons _ r => rw [List.length_cons, List.length_cons, DRs.len r]
theorem DRs.app : ∀ {vs ws : List V} {ds es : List D}, DRs K F vs ds → DRs K F ws es → DRs K F (vs ++ ws) (ds ++ es)
  | _, _, [], _, h, q => by cases h; exact q
  | _, _, d :: ds, _, h, q => by
    cases h with
    | cons a r => exact .cons a (DRs.app r q)
theorem DRs.get : ∀ {vs : List V} {ds : List D} {i : Nat} {v : V}, DRs K F vs ds → vs[i]? = some v → ∃ d, ds[i]? = some d ∧ DR K F v d
  | _, [], i, v, h, e => by cases h; simp at e
  | _, d :: ds, 0, v, h, e => by
    cases h with
    | cons a r =>
      simp only [List.getElem?_cons_zero, Option.some.injEq] at e
      subst e
      exact ⟨d, rfl, a⟩
  | _, d :: ds, i + 1, v, h, e => by
    cases h with
    | cons a r =>
      simp only [List.getElem?_cons_succ] at e ⊢
      exact DRs.get r e
theorem DRs.geti : ∀ {vs : List V} {ds : List D} {i : Nat} {d : D}, DRs K F vs ds → ds[i]? = some d → ∃ v, vs[i]? = some v ∧ DR K F v d
  | _, [], i, v, h, e => by simp at e
  | _, d :: ds, 0, v, h, e => by
    cases h with
    | cons a r =>
      simp only [List.getElem?_cons_zero, Option.some.injEq] at e
      subst e
      exact ⟨_, rfl, a⟩
  | _, d :: ds, i + 1, v, h, e => by
    cases h with
    | cons a r =>
      simp only [List.getElem?_cons_succ] at e ⊢
      exact DRs.geti r e
theorem DRs.set : ∀ {vs : List V} {ds : List D} {v : V} {d : D} (i : Nat), DRs K F vs ds → DR K F v d → DRs K F (vs.set i v) (ds.set i d)
  | _, [], _, _, i, h, _ => by cases h; exact .nil
  | _, d :: ds, _, _, 0, h, q => by
    cases h with
    | cons a r => exact .cons q r
  | _, d :: ds, _, _, i + 1, h, q => by
    cases h with
    | cons a r => exact .cons a (DRs.set i r q)
theorem DRs.take : ∀ {vs : List V} {ds : List D} (n : Nat), DRs K F vs ds → DRs K F (vs.take n) (ds.take n)
  | _, _, 0, _ => .nil
  | _, [], n + 1, h => by cases h; exact .nil
  | _, d :: ds, n + 1, h => by
    cases h with
    | cons a r => exact .cons a (DRs.take n r)
theorem DRs.drop : ∀ {vs : List V} {ds : List D} (n : Nat), DRs K F vs ds → DRs K F (vs.drop n) (ds.drop n)
  | _, _, 0, h => h
  | _, [], n + 1, h => by cases h; exact .nil
  | _, d :: ds, n + 1, h => by
    cases h with
    | cons a r => exact DRs.drop n r
theorem DRs.rev {vs : List V} {ds : List D} (h : DRs K F vs ds) : DRs K F vs.reverse ds.reverse := by
  induction ds generalizing vs with
  | nil => cases h; exact .nil
  | cons d ds ih =>
    cases h with
    | cons a r =>
      rw [List.reverse_cons, List.reverse_cons]
      exact (ih r).app (.cons a .nil)
theorem DRs.ints : ∀ (ns : List Int), DRs K F (ns.map V.int) (ns.map D.int)
  | [] => .nil
  | n :: ns => .cons (.int n) (DRs.ints ns)
end

inductive MO where
  | lst (xs : List D)
  | dk (kvs : List (Key × D))
  | dt (kvs : List (List Key × D))
  /-- any other thing, by what is true of its object; a tuple's iterator at p, not yet moved -/
  | ex (φ : Heap → Prop)
  | ti (b p : Addr) (us : List D)
  /-- a table of code objects of the name q -/
  | tb (q : Str)
  /-- a tuple that is a key -/
  | kt (ks : List Key)
  /-- a dict at a whose keys are tuples of ints, made at once -/
  | dq (P : Program) (w : World) (a : Addr) (kvs : List (List Int × D))
  /-- a lambda at f -/
  | lam (f : Addr) (q : Str) (params : Arguments) (body : Expr) (scope : Scope) (cl : List (Str × Addr))
abbrev Mem := Addr → Option MO
def mupd (M : Mem) (a : Addr) (o : MO) : Mem := fun b => if b = a then some o else M b
theorem mupd_same {M : Mem} {a : Addr} {o : MO} : mupd M a o a = some o := by unfold mupd; rw [if_pos rfl]
theorem mupd_ne {M : Mem} {a b : Addr} {o : MO} (h : b ≠ a) : mupd M a o b = M b := by unfold mupd; rw [if_neg h]
theorem mupd_mupd {M : Mem} {a : Addr} {o u : MO} : mupd (mupd M a o) a u = mupd M a u := by funext b; unfold mupd; split <;> rfl
theorem mupd_self {M : Mem} {a : Addr} {o : MO} (h : M a = some o) : mupd M a o = M := by
  funext b; unfold mupd; split
  · rename_i e; rw [e, h]
  · rfl
theorem mupd_comm {M : Mem} {a b : Addr} {o u : MO} (h : a ≠ b) : mupd (mupd M a o) b u = mupd (mupd M b u) a o := by
  funext c; unfold mupd
  by_cases h1 : c = a <;> by_cases h2 : c = b
  · exact absurd (h1.symm.trans h2) h
  · simp [h1, h2, h]
  · subst h2; simp [h1]
  · simp [h1, h2]
/-- the entries of a dict by tuples of ints, as they stand -/
def DTab (P : Program) (w : World) (a : Addr) (xs : List (List Int × Addr × Value)) (h : Heap) : Prop := (a == sysModules) = false ∧ ∃ o es ep, h.get? a = some o ∧ o.ExactDict ∧ o.data = .dict es ep ∧ es.toList = xs.map (entryOfKey (tupleKind (intKind P w))) ∧ (xs.map (·.1)).Nodup
def QP (K : PySem.W.Frag) (F : Hp) (kv : List Int × D) (x : List Int × Addr × Value) : Prop := kv.1 = x.1 ∧ SqT K F x.2.1 (x.1.map V.int) ∧ ∃ v, DR K F v kv.2 ∧ RelV v x.2.2
theorem pairs_imp {α β : Type} {R S : α → β → Prop} (h : ∀ a b, R a b → S a b) {xs : List α} {ys : List β} (p : Paired R xs ys) : Paired S xs ys := by
  induction p with
  | nil => exact .nil
  | cons a _ ih => exact .cons (h _ _ a) ih
def MR (K : PySem.W.Frag) (F : Hp) : MO → HO → Prop
  | .lst ds, o => ∃ vs, o = .lst vs ∧ DRs K F vs ds
  | .dk kvs, o => ∃ kws : List (Key × V), o = .dK kws ∧ kws.map (·.1) = kvs.map (·.1) ∧ DRs K F (kws.map (·.2)) (kvs.map (·.2))
  | .dt kvs, o => ∃ kws : List (List Key × V), o = .dT kws ∧ kws.map (·.1) = kvs.map (·.1) ∧ DRs K F (kws.map (·.2)) (kvs.map (·.2))
  | .ex φ, o => o = .ext φ
  | .ti b p us, o => ∃ a, o = .ext (fun h => a < b ∧ h.IsTupleIter p a 0) ∧ DR K F (.ref a) (.tup us)
  | .kt ks, o => o = .tup (ks.map kV)
  | .dq P w a kvs, o => ∃ xs : List (List Int × Addr × Value), o = .ext (DTab P w a xs) ∧ Paired (QP K F) kvs xs
  | .lam f q params body scope cl, o => ∃ (pm ctv : Value) (c' : Addr), o = .ext (fun h => h.get? f = some (PySem.W.kla_obj "<lambda>" q params body scope cl pm c' ctv)) ∧ F c' = some (LamX.CodeO c' q)
  | .tb q, o => ∃ ps : Array Value, o = .tbl ps ∧ TriplesOk ps.toList ∧ ∀ (pos : Pos) (cv : Value), codeAmong pos ps.toList = some cv → ∃ c, cv = .ref c ∧ F c = some (LamX.CodeO c q)
theorem MR.up {K : PySem.W.Frag} {F F' : Hp} {m : MO} {o : HO} (h : MR K F m o) (s : Same F F') : MR K F' m o := by
  cases m with
  | lst ds => obtain ⟨vs, e, r⟩ := h; exact ⟨vs, e, r.up s⟩
  | dk kvs => obtain ⟨kws, e, a, r⟩ := h; exact ⟨kws, e, a, r.up s⟩
  | dt kvs => obtain ⟨kws, e, a, r⟩ := h; exact ⟨kws, e, a, r.up s⟩
  | ex φ => exact h
  | kt ks => exact h
  | dq P w a kvs => obtain ⟨xs, e, p⟩ := h; exact ⟨xs, e, pairs_imp (fun kv x ⟨h1, h2, v, h3, h4⟩ => ⟨h1, same_tup s h2, v, h3.up s, h4⟩) p⟩
  | lam f q params body scope cl => obtain ⟨pm, ctv, c', e, r⟩ := h; exact ⟨pm, ctv, c', e, s _ _ r⟩
  | ti b p us => obtain ⟨a, e, r⟩ := h; exact ⟨a, e, r.up s⟩
  | tb q =>
    obtain ⟨ps, e, t, r⟩ := h
    exact ⟨ps, e, t, fun pos cv z => let ⟨c, e1, e2⟩ := r pos cv z; ⟨c, e1, s _ _ e2⟩⟩

/-- F: what stands for good; M: what may change; G: what is kept by others; H: the heap of the hand layer -/
structure Rel (K : PySem.W.Frag) (F : Hp) (M : Mem) (G H : Hp) : Prop where
  sub : Same F H
  hid : Same G H
  ob : ∀ a o, M a = some o → F a = none ∧ G a = none ∧ ∃ ho, H a = some ho ∧ MR K F o ho
  dis : ∀ a o, G a = some o → F a = none
theorem upd_frz {F : Hp} {p : Addr} {o : HO} (h : F p = none) : Same F (upd F p o) := fun b x e => by
  rw [upd_ne (ne_of_none e h)]; exact e
section
variable {K : PySem.W.Frag} {F G H : Hp} {M : Mem} {p : Addr} {o : HO} {m : MO}
theorem Rel.f0 (r : Rel K F M G H) (h : H p = none) : F p = none := r.sub.free h
theorem Rel.g0 (r : Rel K F M G H) (h : H p = none) : G p = none := r.hid.free h
theorem Rel.m0 (r : Rel K F M G H) (h : H p = none) : M p = none := by
  cases e : M p with
  | none => rfl
  | some q =>
    obtain ⟨_, _, ho, e2, _⟩ := r.ob p q e
    rw [h] at e2; cases e2
theorem Rel.newF (r : Rel K F M G H) (h : H p = none) : Rel K (upd F p o) M G (upd H p o) where
  sub := fun b x e => by
    by_cases hb : b = p
    · subst hb; rw [upd_same] at e ⊢; exact e
    · rw [upd_ne hb] at e ⊢; exact r.sub b x e
  hid := fun b x e => by
    rw [upd_ne (ne_of_none e (r.g0 h))]; exact r.hid b x e
  ob := fun a x e => by
    obtain ⟨f, g, ho, e2, q⟩ := r.ob a x e
    have ne : a ≠ p := ne_of_none e2 h
    refine ⟨by rw [upd_ne ne]; exact f, g, ho, by rw [upd_ne ne]; exact e2, q.up (upd_frz (r.f0 h))⟩
  dis := fun a x e => by
    rw [upd_ne (ne_of_none e (r.g0 h))]; exact r.dis a x e
theorem Rel.sF (r : Rel K F M G H) (h : H p = none) : Same F (upd F p o) := upd_frz (r.f0 h)
theorem Rel.newM (r : Rel K F M G H) (h : H p = none) (q : MR K F m o) : Rel K F (mupd M p m) G (upd H p o) where
  sub := fun b x e => by
    rw [upd_ne (ne_of_none e (r.f0 h))]; exact r.sub b x e
  hid := fun b x e => by
    rw [upd_ne (ne_of_none e (r.g0 h))]; exact r.hid b x e
  ob := fun a x e => by
    by_cases ha : a = p
    · subst ha
      rw [mupd_same] at e; cases e
      exact ⟨r.f0 h, r.g0 h, o, upd_same, q⟩
    · rw [mupd_ne ha] at e
      obtain ⟨f, g, ho, e2, q⟩ := r.ob a x e
      exact ⟨f, g, ho, by rw [upd_ne ha]; exact e2, q⟩
  dis := r.dis
theorem Rel.wr {m0 : MO} (r : Rel K F M G H) (h : M p = some m0) (q : MR K F m o) : Rel K F (mupd M p m) G (upd H p o) where
  sub := fun b x e => by
    have z := (r.ob p m0 h).1
    rw [upd_ne (ne_of_none e z)]; exact r.sub b x e
  hid := fun b x e => by
    have z := (r.ob p m0 h).2.1
    rw [upd_ne (ne_of_none e z)]; exact r.hid b x e
  ob := fun a x e => by
    by_cases ha : a = p
    · subst ha
      rw [mupd_same] at e; cases e
      obtain ⟨f, g, _⟩ := r.ob a m0 h
      exact ⟨f, g, o, upd_same, q⟩
    · rw [mupd_ne ha] at e
      obtain ⟨f, g, ho, e2, q⟩ := r.ob a x e
      exact ⟨f, g, ho, by rw [upd_ne ha]; exact e2, q⟩
  dis := r.dis
theorem Rel.drop {M' : Mem} (r : Rel K F M G H) (h : ∀ a o, M' a = some o → M a = some o) : Rel K F M' G H :=
  ⟨r.sub, r.hid, fun a o e => r.ob a o (h a o e), r.dis⟩
/-- an object of ours is shut: it changes no more -/
def mdel (M : Mem) (a : Addr) : Mem := fun b => if b = a then none else M b
theorem mdel_same {a : Addr} : mdel M a a = none := by unfold mdel; rw [if_pos rfl]
theorem mdel_ne {a b : Addr} (h : b ≠ a) : mdel M a b = M b := by unfold mdel; rw [if_neg h]
theorem mdel_mupd {a : Addr} (h : M a = none) : mdel (mupd M a m) a = M := by
  funext b; unfold mdel mupd
  by_cases e : b = a
  · rw [if_pos e, e, h]
  · rw [if_neg e, if_neg e]
theorem Rel.shut {a : Addr} {ds : List D} (r : Rel K F M G H) (h : M a = some (.lst ds)) : ∃ vs, H a = some (.lst vs) ∧ DRs K F vs ds ∧ Same F (upd F a (.lst vs)) ∧ Rel K (upd F a (.lst vs)) (mdel M a) G H := by
  obtain ⟨f, g, ho, e, vs, rfl, q⟩ := r.ob a _ h
  have s : Same F (upd F a (.lst vs)) := upd_frz f
  refine ⟨vs, e, q, s, fun b x z => ?_, r.hid, fun b x z => ?_, fun b x z => ?_⟩
  · by_cases hb : b = a
    · subst hb; rw [upd_same] at z; rw [← z]; exact e
    · rw [upd_ne hb] at z; exact r.sub b x z
  · by_cases hb : b = a
    · subst hb; rw [mdel_same] at z; cases z
    · rw [mdel_ne hb] at z
      obtain ⟨f', g', ho', e', q'⟩ := r.ob b x z
      exact ⟨by rw [upd_ne hb]; exact f', g', ho', e', q'.up s⟩
  · rw [upd_ne (ne_of_none z g)]; exact r.dis b x z
/-- what we keep for ourselves -/
theorem Rel.hide (r : Rel K F M G H) (h : H p = none) : Rel K F M (upd G p o) (upd H p o) where
  sub := fun b x e => by rw [upd_ne (ne_of_none e (r.f0 h))]; exact r.sub b x e
  hid := fun b x e => by
    by_cases hb : b = p
    · subst hb; rw [upd_same] at e ⊢; exact e
    · rw [upd_ne hb] at e ⊢; exact r.hid b x e
  ob := fun a x e => by
    obtain ⟨f, g, ho, e2, q⟩ := r.ob a x e
    have ne : a ≠ p := ne_of_none e2 h
    exact ⟨f, by rw [upd_ne ne]; exact g, ho, by rw [upd_ne ne]; exact e2, q⟩
  dis := fun a x e => by
    by_cases ha : a = p
    · subst ha; exact r.f0 h
    · rw [upd_ne ha] at e; exact r.dis a x e
theorem Rel.hwr {u : HO} (r : Rel K F M G H) (h : G p = some u) : Rel K F M (upd G p o) (upd H p o) where
  sub := fun b x e => by rw [upd_ne (ne_of_none e (r.dis p u h))]; exact r.sub b x e
  hid := fun b x e => by
    by_cases hb : b = p
    · subst hb; rw [upd_same] at e ⊢; exact e
    · rw [upd_ne hb] at e ⊢; exact r.hid b x e
  ob := fun a x e => by
    obtain ⟨f, g, ho, e2, q⟩ := r.ob a x e
    have ne : a ≠ p := fun z => by rw [z, h] at g; cases g
    exact ⟨f, by rw [upd_ne ne]; exact g, ho, by rw [upd_ne ne]; exact e2, q⟩
  dis := fun a x e => by
    by_cases ha : a = p
    · subst ha; exact r.dis a u h
    · rw [upd_ne ha] at e; exact r.dis a x e
/-- what we kept is shut, and given -/
theorem Rel.give {G0 : Hp} (r : Rel K F M (upd G0 p o) H) (h : G0 p = none) : Same F (upd F p o) ∧ Rel K (upd F p o) M G0 H := by
  have fp : F p = none := r.dis p o upd_same
  have s : Same F (upd F p o) := upd_frz fp
  refine ⟨s, fun b x e => ?_, fun b x e => r.hid b x (by rw [upd_ne (ne_of_none e h)]; exact e), fun a x e => ?_, fun a x e => ?_⟩
  · by_cases hb : b = p
    · subst hb; rw [upd_same] at e; rw [← e]; exact r.hid b o upd_same
    · rw [upd_ne hb] at e; exact r.sub b x e
  · obtain ⟨f, g, ho, e2, q⟩ := r.ob a x e
    have ne : a ≠ p := fun z => by rw [z, upd_same] at g; cases g
    exact ⟨by rw [upd_ne ne]; exact f, by rw [upd_ne ne] at g; exact g, ho, e2, q.up s⟩
  · have ne : a ≠ p := ne_of_none e h
    rw [upd_ne ne]; exact r.dis a x (by rw [upd_ne ne]; exact e)
/-- .. into the memory -/
theorem Rel.giveM {G0 : Hp} (r : Rel K F M (upd G0 p o) H) (h : G0 p = none) (q : MR K F m o) (hm : M p = none) : Rel K F (mupd M p m) G0 H := by
  refine ⟨r.sub, fun b x e => r.hid b x (by rw [upd_ne (ne_of_none e h)]; exact e), fun a x e => ?_, fun a x e => ?_⟩
  · by_cases ha : a = p
    · subst ha
      rw [mupd_same] at e; cases e
      exact ⟨r.dis a o upd_same, h, o, r.hid a o upd_same, q⟩
    · rw [mupd_ne ha] at e
      obtain ⟨f, g, ho, e2, q⟩ := r.ob a x e
      exact ⟨f, by rw [upd_ne ha] at g; exact g, ho, e2, q⟩
  · have ne : a ≠ p := ne_of_none e h
    exact r.dis a x (by rw [upd_ne ne]; exact e)
end

abbrev VEnv := List (Option D)
def SR (K : PySem.W.Frag) (F : Hp) : St → VEnv → Prop
  | [], [] => True
  | o :: σ, x :: e => (∀ d, x = some d → ∃ v, o = some v ∧ DR K F v d) ∧ SR K F σ e
  | _, _ => False
section
variable {K : PySem.W.Frag} {F F' : Hp}
theorem SR.up (s : Same F F') : ∀ {σ : St} {e : VEnv}, SR K F σ e → SR K F' σ e
  | [], [], _ => trivial
  | o :: σ, x :: e, h => ⟨fun d q => let ⟨v, a, b⟩ := h.1 d q; ⟨v, a, b.up s⟩, SR.up s h.2⟩
  | [], _ :: _, h => h.elim
  | _ :: _, [], h => h.elim
theorem SR.get : ∀ {σ : St} {e : VEnv} {i : Nat} {d : D}, SR K F σ e → e[i]? = some (some d) → ∃ v, σ[i]? = some (some v) ∧ DR K F v d
  | [], [], i, d, _, q => by simp at q
  | o :: σ, x :: e, 0, d, h, q => by
    simp only [List.getElem?_cons_zero, Option.some.injEq] at q
    obtain ⟨v, a, b⟩ := h.1 d q
    exact ⟨v, by simp [a], b⟩
  | o :: σ, x :: e, i + 1, d, h, q => by
    simp only [List.getElem?_cons_succ] at q ⊢
    exact SR.get h.2 q
  | [], _ :: _, _, _, h, _ => h.elim
  | _ :: _, [], _, _, h, _ => h.elim
theorem SR.put {v : V} {d : D} (r : DR K F v d) : ∀ {σ : St} {e : VEnv} (i : Nat), SR K F σ e → SR K F (σ.set i (some v)) (e.set i (some d))
  | [], [], i, _ => trivial
  | o :: σ, x :: e, 0, h => ⟨fun d' q => by cases q; exact ⟨v, rfl, r⟩, h.2⟩
  | o :: σ, x :: e, i + 1, h => ⟨h.1, SR.put r i h.2⟩
  | [], _ :: _, _, h => h.elim
  | _ :: _, [], _, h => h.elim
theorem SR.non : ∀ {σ : St} {e : VEnv} (i : Nat), SR K F σ e → SR K F (σ.set i none) (e.set i none)
  | [], [], i, _ => trivial
  | o :: σ, x :: e, 0, h => ⟨(fun d' q => nomatch q), h.2⟩
  | o :: σ, x :: e, i + 1, h => ⟨h.1, SR.non i h.2⟩
  | [], _ :: _, _, h => h.elim
  | _ :: _, [], _, h => h.elim
def vwipe (e : VEnv) : List Nat → VEnv
  | [] => e
  | v :: vs => (vwipe e vs).set v none
theorem SR.wiped {σ : St} {e : VEnv} (h : SR K F σ e) : ∀ vs : List Nat, SR K F (wipe σ vs) (vwipe e vs)
  | [] => h
  | v :: vs => by
    unfold wipe vwipe
    exact SR.non v (SR.wiped h vs)
def vstart (n : Nat) (ds : List D) : VEnv := ds.map some ++ List.replicate (n - ds.length) none
theorem SR.none : ∀ (n : Nat), SR K F (List.replicate n Option.none) (List.replicate n Option.none)
  | 0 => trivial
  | n + 1 => ⟨(fun d q => nomatch q), SR.none n⟩
theorem SR.start {N : List Str} : ∀ {vs : List V} {ds : List D}, DRs K F vs ds → SR K F (start N vs) (vstart N.length ds) := by
  intro vs ds h
  have go : ∀ (m : Nat) {vs : List V} {ds : List D}, DRs K F vs ds → SR K F (vs.map some ++ List.replicate m Option.none) (ds.map some ++ List.replicate m Option.none) := by
    intro m vs ds h
    induction ds generalizing vs with
    | nil => cases h; exact SR.none m
    | cons d ds ih =>
      cases h with
      | cons a r => exact ⟨fun d' q => by cases q; exact ⟨_, rfl, a⟩, ih r⟩
  have hl := h.len
  unfold L2.start vstart
  rw [← hl]
  exact go _ h
end
end VL
namespace VL
open PySem PySem.Spec L2

abbrev VK := D → Mem → Prop
abbrev VTE := VEnv → Mem → VK → Prop
abbrev VTT := VEnv → Mem → (Bool → Mem → Prop) → Prop
abbrev VTA := VEnv → Mem → (List D → Mem → Prop) → Prop
abbrev VTO := VEnv → Mem → (Option Int → Mem → Prop) → Prop
abbrev VTG := D → VEnv → Mem → (VEnv → Mem → Prop) → Prop
abbrev VTGs := List D → VEnv → Mem → (VEnv → Mem → Prop) → Prop
structure VEnds where
  nx : VEnv → Mem → Prop
  rt : VK
  bk : VEnv → Mem → Prop := fun _ _ => False
  ct : VEnv → Mem → Prop := fun _ _ => False
abbrev VTS := VEnds → VEnv → Mem → Prop
abbrev VR2 := D → D → Mem → VK → Prop
abbrev VR1 := D → Mem → VK → Prop
abbrev VRs := List D → Mem → VK → Prop

/-- what follows a value -/
def OutE (K : PySem.W.Frag) (F G : Hp) (Q' : VK) (Q : L2.VK) : Prop := ∀ v H F' M d, Same F F' → Rel K F' M G H → DR K F' v d → Q' d M → Q v H
def OutT (K : PySem.W.Frag) (F G : Hp) (Q' : Bool → Mem → Prop) (Q : Bool → Hp → Prop) : Prop := ∀ b H F' M, Same F F' → Rel K F' M G H → Q' b M → Q b H
def OutA (K : PySem.W.Frag) (F G : Hp) (Q' : List D → Mem → Prop) (Q : List V → Hp → Prop) : Prop := ∀ vs H F' M ds, Same F F' → Rel K F' M G H → DRs K F' vs ds → Q' ds M → Q vs H
def OutO (K : PySem.W.Frag) (F G : Hp) (Q' : Option Int → Mem → Prop) (Q : Option Int → Hp → Prop) : Prop := ∀ b H F' M, Same F F' → Rel K F' M G H → Q' b M → Q b H
def OutS (K : PySem.W.Frag) (F G : Hp) (Q' : VEnv → Mem → Prop) (Q : L2.St → Hp → Prop) : Prop := ∀ σ H F' M e, Same F F' → Rel K F' M G H → SR K F' σ e → Q' e M → Q σ H
structure OutD (K : PySem.W.Frag) (F G : Hp) (D' : VEnds) (D : Ends) : Prop where
  nx : OutS K F G D'.nx D.nx
  rt : OutE K F G D'.rt D.rt
  bk : OutS K F G D'.bk D.bk
  ct : OutS K F G D'.ct D.ct
section
variable {K : PySem.W.Frag} {F F' G : Hp}
theorem OutE.up {Q' : VK} {Q : L2.VK} (o : OutE K F G Q' Q) (s : Same F F') : OutE K F' G Q' Q := fun v H F1 M d s1 => o v H F1 M d (s.trans s1)
theorem OutT.up {Q' : Bool → Mem → Prop} {Q : Bool → Hp → Prop} (o : OutT K F G Q' Q) (s : Same F F') : OutT K F' G Q' Q := fun b H F1 M s1 => o b H F1 M (s.trans s1)
theorem OutA.up {Q' : List D → Mem → Prop} {Q : List V → Hp → Prop} (o : OutA K F G Q' Q) (s : Same F F') : OutA K F' G Q' Q := fun v H F1 M d s1 => o v H F1 M d (s.trans s1)
theorem OutO.up {Q' : Option Int → Mem → Prop} {Q : Option Int → Hp → Prop} (o : OutO K F G Q' Q) (s : Same F F') : OutO K F' G Q' Q := fun b H F1 M s1 => o b H F1 M (s.trans s1)
theorem OutS.up {Q' : VEnv → Mem → Prop} {Q : L2.St → Hp → Prop} (o : OutS K F G Q' Q) (s : Same F F') : OutS K F' G Q' Q := fun v H F1 M d s1 => o v H F1 M d (s.trans s1)
theorem OutD.up {D' : VEnds} {D : Ends} (o : OutD K F G D' D) (s : Same F F') : OutD K F' G D' D := ⟨o.nx.up s, o.rt.up s, o.bk.up s, o.ct.up s⟩
end
def lE (K : PySem.W.Frag) (t : VTE) : TE := fun σ H Q => ∃ F M G e Q', SR K F σ e ∧ Rel K F M G H ∧ t e M Q' ∧ OutE K F G Q' Q
def lT (K : PySem.W.Frag) (t : VTT) : TT := fun σ H Q => ∃ F M G e Q', SR K F σ e ∧ Rel K F M G H ∧ t e M Q' ∧ OutT K F G Q' Q
def lA (K : PySem.W.Frag) (t : VTA) : TA := fun σ H Q => ∃ F M G e Q', SR K F σ e ∧ Rel K F M G H ∧ t e M Q' ∧ OutA K F G Q' Q
def lO (K : PySem.W.Frag) (t : VTO) : TO := fun σ H Q => ∃ F M G e Q', SR K F σ e ∧ Rel K F M G H ∧ t e M Q' ∧ OutO K F G Q' Q
def lG (K : PySem.W.Frag) (t : VTG) : TG := fun v σ H Q => ∃ F M G e d Q', SR K F σ e ∧ Rel K F M G H ∧ DR K F v d ∧ t d e M Q' ∧ OutS K F G Q' Q
def lGs (K : PySem.W.Frag) (t : VTGs) : TGs := fun vs σ H Q => ∃ F M G e ds Q', SR K F σ e ∧ Rel K F M G H ∧ DRs K F vs ds ∧ t ds e M Q' ∧ OutS K F G Q' Q
def lS (K : PySem.W.Frag) (t : VTS) : TS := fun D σ H => ∃ F M G e D', SR K F σ e ∧ Rel K F M G H ∧ t D' e M ∧ OutD K F G D' D
def l2 (K : PySem.W.Frag) (r : VR2) : R2 := fun x y H Q => ∃ F M G a b Q', Rel K F M G H ∧ DR K F x a ∧ DR K F y b ∧ r a b M Q' ∧ OutE K F G Q' Q
def l1 (K : PySem.W.Frag) (r : VR1) : V → Hp → L2.VK → Prop := fun x H Q => ∃ F M G a Q', Rel K F M G H ∧ DR K F x a ∧ r a M Q' ∧ OutE K F G Q' Q
def ls (K : PySem.W.Frag) (r : VRs) : List V → Hp → L2.VK → Prop := fun xs H Q => ∃ F M G as Q', Rel K F M G H ∧ DRs K F xs as ∧ r as M Q' ∧ OutE K F G Q' Q

def VE (X : Cx) (e : Expr) (t : VTE) : Prop := PE X e (lE X.K t)
def VT (X : Cx) (e : Expr) (t : VTT) : Prop := PT X e (lT X.K t)
def VW (X : Cx) (e : Expr) (t : VTT) : Prop := PW X e (lT X.K t)
def VA (X : Cx) (es : List Expr) (t : VTA) : Prop := PA X es (lA X.K t)
def VO (X : Cx) (e : Option Expr) (t : VTO) : Prop := PO X e (lO X.K t)
def VG (X : Cx) (e : Expr) (t : VTG) : Prop := PG X e (lG X.K t)
def VGs (X : Cx) (e : List Expr) (t : VTGs) : Prop := PGs X e (lGs X.K t)
def VS (X : Cx) (e : Stmt) (t : VTS) : Prop := PS X e (lS X.K t)
def VSs (X : Cx) (e : List Stmt) (t : VTS) : Prop := PSs X e (lS X.K t)

section
variable {X : Cx}
theorem PE_imp {e : Expr} {t t' : TE} (h : PE X e t) (i : ∀ σ H Q, t' σ H Q → t σ H Q) : PE X e t' := ⟨fun p s σ H Q I w => h.run p s σ H Q I (i _ _ _ w)⟩
theorem PT_imp {e : Expr} {t t' : TT} (h : PT X e t) (i : ∀ σ H Q, t' σ H Q → t σ H Q) : PT X e t' := ⟨fun p s σ H Q I w => h.run p s σ H Q I (i _ _ _ w)⟩
theorem PW_imp {e : Expr} {t t' : TT} (h : PW X e t) (i : ∀ σ H Q, t' σ H Q → t σ H Q) : PW X e t' := ⟨fun wh p s σ H Q I w => h.run wh p s σ H Q I (i _ _ _ w)⟩
theorem PA_imp {e : List Expr} {t t' : TA} (h : PA X e t) (i : ∀ σ H Q, t' σ H Q → t σ H Q) : PA X e t' := ⟨fun po p s σ H Q I w => h.run po p s σ H Q I (i _ _ _ w)⟩
theorem PO_imp {e : Option Expr} {t t' : TO} (h : PO X e t) (i : ∀ σ H Q, t' σ H Q → t σ H Q) : PO X e t' := ⟨fun p s σ H Q I w => h.run p s σ H Q I (i _ _ _ w)⟩
theorem PG_imp {e : Expr} {t t' : TG} (h : PG X e t) (i : ∀ v σ H Q, t' v σ H Q → t v σ H Q) : PG X e t' := ⟨fun p s σ H v u Q I r w => h.run p s σ H v u Q I r (i _ _ _ _ w)⟩
theorem PGs_imp {e : List Expr} {t t' : TGs} (h : PGs X e t) (i : ∀ v σ H Q, t' v σ H Q → t v σ H Q) : PGs X e t' := ⟨fun p s σ H v u Q I r w => h.run p s σ H v u Q I r (i _ _ _ _ w)⟩
theorem PS_imp {e : Stmt} {t t' : TS} (h : PS X e t) (i : ∀ D σ H, t' D σ H → t D σ H) : PS X e t' := ⟨fun p s σ H D I w => h.run p s σ H D I (i _ _ _ w)⟩
theorem PSs_imp {e : List Stmt} {t t' : TS} (h : PSs X e t) (i : ∀ D σ H, t' D σ H → t D σ H) : PSs X e t' := ⟨fun p s σ H D I w => h.run p s σ H D I (i _ _ _ w)⟩
theorem OpR_imp {f : Value → Value → Sem Value} {r r' : R2} (h : OpR X f r) (i : ∀ x y H Q, r' x y H Q → r x y H Q) : OpR X f r' := fun p s σ H x y v u Q I rx ry w => h p s σ H x y v u Q I rx ry (i _ _ _ _ w)
theorem UnR_imp {f : Value → Sem Value} {r r' : V → Hp → L2.VK → Prop} (h : UnR X f r) (i : ∀ x H Q, r' x H Q → r x H Q) : UnR X f r' := fun p s σ H x v Q I rx w => h p s σ H x v Q I rx (i _ _ _ w)
theorem CallR_imp {f : Value} {r r' : List V → Hp → L2.VK → Prop} (h : CallR X f r) (i : ∀ x H Q, r' x H Q → r x H Q) : CallR X f r' := fun p s σ H x v Q I rx w => h p s σ H x v Q I rx (i _ _ _ w)
theorem MtR_imp {id : String} {r r' : V → List V → Hp → L2.VK → Prop} (h : MtR X id r) (i : ∀ x xs H Q, r' x xs H Q → r x xs H Q) : MtR X id r' := fun p s σ H x xs v us Q I rx rs w => h p s σ H x xs v us Q I rx rs (i _ _ _ _ w)
theorem IxR_imp {r r' : R2} (h : IxR X r) (i : ∀ x y H Q, r' x y H Q → r x y H Q) : IxR X r' := fun a b p s σ H x y v u Q I rx ry w => h a b p s σ H x y v u Q I rx ry (i _ _ _ _ w)
theorem SlR_imp {r r' : V → Option Int → Option Int → Hp → L2.VK → Prop} (h : SlR X r) (i : ∀ x y z H Q, r' x y z H Q → r x y z H Q) : SlR X r' := fun p s σ H x v vl vu lo hi sl Q I rx a b c w => h p s σ H x v vl vu lo hi sl Q I rx a b c (i _ _ _ _ _ w)

@[simp] def vVar (i : Nat) : VTE := fun e M Q => ∃ d, e[i]? = some (some d) ∧ Q d M
@[simp] def vC (d : D) : VTE := fun _ M Q => Q d M
theorem v_pe {e : Expr} {te : TE} {t : VTE} (h : PE X e te) (i : ∀ F M G σ H e Q' Q, SR X.K F σ e → Rel X.K F M G H → t e M Q' → OutE X.K F G Q' Q → te σ H Q) : VE X e t :=
  PE_imp h fun σ H Q ⟨F, M, G, e, Q', h1, h2, h3, h4⟩ => i F M G σ H e Q' Q h1 h2 h3 h4
theorem v_var {i : Nat} {e : Expr} (h : PE X e (tVar i)) : VE X e (vVar i) := v_pe h fun F M G σ H e Q' Q hs hr ⟨d, hd, q⟩ o => by
  obtain ⟨v, a, b⟩ := hs.get hd
  exact ⟨v, a, o v H F M d (Same.refl F) hr b q⟩
theorem v_c {e : Expr} {v : V} {d : D} (h : PE X e (tC v)) (hd : ∀ F, DR X.K F v d) : VE X e (vC d) := v_pe h fun F M G σ H e Q' Q hs hr q o => o v H F M d (Same.refl F) hr (hd F) q
theorem v_int {i : Int} {j pos} : VE X (.Constant (.int i) j pos) (vC (.int i)) := v_c pe_int fun _ => .int i
theorem v_bl {b : Bool} {j pos} : VE X (.Constant (.bool b) j pos) (vC (.bl b)) := v_c pe_bl fun _ => .bl b
theorem v_non {j pos} : VE X (.Constant .none j pos) (vC .non) := v_c pe_non fun _ => .non
theorem v_str {x : Str} {j pos} : VE X (.Constant (.str x) j pos) (vC (.str x)) := v_c pe_str fun _ => .str x

def asL (M : Mem) : D → Option (List D)
  | .lst xs => some xs
  | .rd xs => some xs
  | .obj a => match M a with
    | some (.lst xs) => some xs
    | _ => none
  | _ => none
/-- a list that is not locked -/
def asP (M : Mem) : D → Option (List D)
  | .lst xs => some xs
  | .obj a => match M a with
    | some (.lst xs) => some xs
    | _ => none
  | _ => none
theorem asL_obj {M : Mem} {a : Addr} {xs : List D} (h : M a = some (.lst xs)) : asL M (.obj a) = some xs := by unfold asL; simp [h]
theorem asP_obj {M : Mem} {a : Addr} {xs : List D} (h : M a = some (.lst xs)) : asP M (.obj a) = some xs := by unfold asP; simp [h]
theorem asP_at {K : PySem.W.Frag} {F G H : Hp} {M : Mem} {v : V} {d : D} {xs : List D} (r : Rel K F M G H) (h : DR K F v d) (e : asP M d = some xs) : ∃ a vs, v = .ref a ∧ H a = some (.lst vs) ∧ DRs K F vs xs := by
  cases h with
  | lst q z => cases e; exact ⟨_, _, rfl, r.sub _ _ q, z⟩
  | obj a =>
    unfold asP at e
    dsimp only at e
    cases hm : M a with
    | none => rw [hm] at e; cases e
    | some o =>
      rw [hm] at e
      cases o with
      | lst ys =>
        have e' : ys = xs := Option.some.inj e
        subst e'
        obtain ⟨_, _, ho, h1, vs, rfl, z⟩ := r.ob a _ hm
        exact ⟨a, vs, rfl, h1, z⟩
      | dk _ => cases e
      | dt _ => cases e
      | ex _ => cases e
      | ti _ _ _ => cases e
      | tb _ => cases e
      | kt _ => cases e
      | lam _ _ _ _ _ _ => cases e
      | dq _ _ _ _ => cases e
  | non => cases e
  | bl _ => cases e
  | int _ => cases e
  | str _ => cases e
  | tup _ _ => cases e
  | rd _ _ => cases e
  | exc _ _ _ => cases e
theorem asL_at {K : PySem.W.Frag} {F G H : Hp} {M : Mem} {v : V} {d : D} {xs : List D} (r : Rel K F M G H) (h : DR K F v d) (e : asL M d = some xs) : ∃ a vs, v = .ref a ∧ SqL K H a vs ∧ DRs K F vs xs := by
  cases h with
  | lst q z => cases e; exact ⟨_, _, rfl, SqL.of (r.sub _ _ q), z⟩
  | obj a =>
    unfold asL at e
    dsimp only at e
    cases hm : M a with
    | none => rw [hm] at e; cases e
    | some o =>
      rw [hm] at e
      cases o with
      | lst ys =>
        have e' : ys = xs := Option.some.inj e
        subst e'
        obtain ⟨_, _, ho, h1, vs, rfl, z⟩ := r.ob a _ hm
        exact ⟨a, vs, rfl, SqL.of h1, z⟩
      | dk _ => cases e
      | dt _ => cases e
      | ex _ => cases e
      | ti _ _ _ => cases e
      | tb _ => cases e
      | kt _ => cases e
      | lam _ _ _ _ _ _ => cases e
      | dq _ _ _ _ => cases e
  | non => cases e
  | bl _ => cases e
  | int _ => cases e
  | str _ => cases e
  | tup _ _ => cases e
  | exc _ _ _ => cases e
  | rd q z => cases e; exact ⟨_, _, rfl, r.sub.seq q, z⟩
@[simp] def vOp (r : VR2) (ta tb : VTE) : VTE := fun e M Q => ta e M fun x M1 => tb e M1 fun y M2 => r x y M2 Q
theorem v_op {op : Operator} {r : VR2} {a b : Expr} {ta tb : VTE} {pos : Pos} (ho : OpR X (binaryOp op) (l2 X.K r)) (ha : VE X a ta) (hb : VE X b tb) : VE X (.BinOp a op b pos) (vOp r ta tb) :=
  v_pe (pe_op ho ha hb) fun F M G σ H e Q' Q hs hr q o => ⟨F, M, G, e, _, hs, hr, q, fun x H1 F1 M1 d s1 r1 d1 q1 => ⟨F1, M1, G, e, _, hs.up s1, r1, q1, fun y H2 F2 M2 d' s2 r2 d2 q2 => ⟨F2, M2, G, d, d', Q', r2, d1.up s2, d2, q2, o.up (s1.trans s2)⟩⟩⟩
theorem v_cmp {op : CmpOp} {r : VR2} {a b : Expr} {ta tb : VTE} {pos : Pos} (ho : OpR X (compareOp op) (l2 X.K r)) (ha : VE X a ta) (hb : VE X b tb) (hm : behindInMarks op b = false) : VE X (.Compare a [op] [b] pos) (vOp r ta tb) :=
  v_pe (pe_cmpR ho ha hb hm) fun F M G σ H e Q' Q hs hr q o => ⟨F, M, G, e, _, hs, hr, q, fun x H1 F1 M1 d s1 r1 d1 q1 => ⟨F1, M1, G, e, _, hs.up s1, r1, q1, fun y H2 F2 M2 d' s2 r2 d2 q2 => ⟨F2, M2, G, d, d', Q', r2, d1.up s2, d2, q2, o.up (s1.trans s2)⟩⟩⟩
@[simp] def vTest (t : VTE) : VTT := fun e M Q => t e M fun x M1 => ∃ k, x = .bl k ∧ Q k M1
theorem t_cmp {op : CmpOp} {r : VR2} {a b : Expr} {ta tb : VTE} {pos : Pos} (ho : OpR X (compareOp op) (l2 X.K r)) (ha : VE X a ta) (hb : VE X b tb) (hm : behindInMarks op b = false) : VT X (.Compare a [op] [b] pos) (vTest (vOp r ta tb)) :=
  PT_imp (pt_cmpR ho ha hb hm) fun σ H Q ⟨F, M, G, e, Q', hs, hr, q, o⟩ => ⟨F, M, G, e, _, hs, hr, q, fun x H1 F1 M1 d s1 r1 d1 q1 => ⟨F1, M1, G, e, _, hs.up s1, r1, q1, fun y H2 F2 M2 d' s2 r2 d2 q2 => ⟨F2, M2, G, d, d', _, r2, d1.up s2, d2, q2, fun v H3 F3 M3 d3 s3 r3 z q3 => by
    obtain ⟨k, rfl, q4⟩ := q3
    cases z
    exact ⟨k, rfl, o k H3 F3 M3 ((s1.trans s2).trans s3) r3 q4⟩⟩⟩⟩
/-- a bool's value as a test -/
theorem t_val {e : Expr} {t : VTE} (h : VE X e t) (he : ∀ whole, isTrue e X.env whole = (do let v ← whole; standAt e.pos; holding [v] (truthy v)) := by intro _; rfl) : VT X e (vTest t) :=
  PT_imp (pt_val h he) fun σ H Q ⟨F, M, G, e, Q', hs, hr, q, o⟩ => ⟨F, M, G, e, _, hs, hr, q, fun x H1 F1 M1 d s1 r1 d1 q1 => by
    obtain ⟨k, rfl, q2⟩ := q1
    cases d1
    exact ⟨k, rfl, o k H1 F1 M1 s1 r1 q2⟩⟩
@[simp] def vUn (r : VR1) (ta : VTE) : VTE := fun e M Q => ta e M fun x M1 => r x M1 Q
theorem v_un {op : UnaryOp} {r : VR1} {a : Expr} {ta : VTE} {pos : Pos} (ho : UnR X (unaryOp op) (l1 X.K r)) (ha : VE X a ta) : VE X (.UnaryOp op a pos) (vUn r ta) :=
  v_pe (pe_un ho ha) fun F M G σ H e Q' Q hs hr q o => ⟨F, M, G, e, _, hs, hr, q, fun x H1 F1 M1 d s1 r1 d1 q1 => ⟨F1, M1, G, d, Q', r1, d1, q1, o.up s1⟩⟩

@[simp] def vAnd (ta tb : VTE) : VTE := fun e M Q => ta e M fun x M1 => ∃ c, x = .bl c ∧ if c = true then tb e M1 Q else Q (.bl false) M1
@[simp] def vOr (ta tb : VTE) : VTE := fun e M Q => ta e M fun x M1 => ∃ c, x = .bl c ∧ if c = true then Q (.bl true) M1 else tb e M1 Q
@[simp] def vNot (ta : VTE) : VTE := fun e M Q => ta e M fun x M1 => ∃ c, x = .bl c ∧ Q (.bl (!c)) M1
@[simp] def vIf (t : VTT) (ta tb : VTE) : VTE := fun e M Q => t e M fun c M1 => if c = true then ta e M1 Q else tb e M1 Q
variable {a b : Expr} {rest : List Expr} {ta tb : VTE} {pos : Pos} {tA tB : VTT}
theorem v_one {op : BoolOp} (h : VE X a ta) : VE X (.BoolOp op [a] pos) ta := pe_one h
theorem v_and (ha : VE X a ta) (hb : VE X (.BoolOp .And (b :: rest) pos) tb) : VE X (.BoolOp .And (a :: b :: rest) pos) (vAnd ta tb) :=
  v_pe (pe_and ha hb) fun F M G σ H e Q' Q hs hr q o => ⟨F, M, G, e, _, hs, hr, q, fun x H1 F1 M1 d s1 r1 d1 q1 => by
    obtain ⟨c, rfl, q1⟩ := q1
    cases d1
    refine ⟨c, rfl, ?_⟩
    cases c with
    | true => rw [if_pos rfl] at q1 ⊢; exact ⟨F1, M1, G, e, Q', hs.up s1, r1, q1, o.up s1⟩
    | false => rw [if_neg Bool.false_ne_true] at q1 ⊢; exact o _ H1 F1 M1 _ s1 r1 (.bl false) q1⟩
theorem v_or (ha : VE X a ta) (hb : VE X (.BoolOp .Or (b :: rest) pos) tb) : VE X (.BoolOp .Or (a :: b :: rest) pos) (vOr ta tb) :=
  v_pe (pe_or ha hb) fun F M G σ H e Q' Q hs hr q o => ⟨F, M, G, e, _, hs, hr, q, fun x H1 F1 M1 d s1 r1 d1 q1 => by
    obtain ⟨c, rfl, q1⟩ := q1
    cases d1
    refine ⟨c, rfl, ?_⟩
    cases c with
    | true => rw [if_pos rfl] at q1 ⊢; exact o _ H1 F1 M1 _ s1 r1 (.bl true) q1
    | false => rw [if_neg Bool.false_ne_true] at q1 ⊢; exact ⟨F1, M1, G, e, Q', hs.up s1, r1, q1, o.up s1⟩⟩
theorem v_not (ha : VE X a ta) : VE X (.UnaryOp .Not a pos) (vNot ta) :=
  v_pe (pe_not ha) fun F M G σ H e Q' Q hs hr q o => ⟨F, M, G, e, _, hs, hr, q, fun x H1 F1 M1 d s1 r1 d1 q1 => by
    obtain ⟨c, rfl, q1⟩ := q1
    cases d1
    exact ⟨c, rfl, o _ H1 F1 M1 _ s1 r1 (.bl _) q1⟩⟩
theorem v_if {c : Expr} (hc : VT X c tA) (ha : VE X a ta) (hb : VE X b tb) : VE X (.IfExp c a b pos) (vIf tA ta tb) :=
  v_pe (pe_ifExp hc ha hb) fun F M G σ H e Q' Q hs hr q o => ⟨F, M, G, e, _, hs, hr, q, fun c H1 F1 M1 s1 r1 q1 => by
    cases c with
    | true => rw [if_pos rfl] at q1 ⊢; exact ⟨F1, M1, G, e, Q', hs.up s1, r1, q1, o.up s1⟩
    | false => rw [if_neg Bool.false_ne_true] at q1 ⊢; exact ⟨F1, M1, G, e, Q', hs.up s1, r1, q1, o.up s1⟩⟩
@[simp] def vAndT (t u : VTT) : VTT := fun e M Q => t e M fun c M1 => if c = true then u e M1 Q else Q false M1
@[simp] def vOrT (t u : VTT) : VTT := fun e M Q => t e M fun c M1 => if c = true then Q true M1 else u e M1 Q
@[simp] def vNotT (t : VTT) : VTT := fun e M Q => t e M fun c M1 => Q (!c) M1
theorem t_pw (h : VW X a tA) : VT X a tA := h.pt
theorem t_and1 (ha : VT X a tA) : VW X (.BoolOp .And [a] pos) tA := pw_and1 ha
theorem t_or1 (ha : VT X a tA) : VW X (.BoolOp .Or [a] pos) tA := pw_or1 ha
theorem t_and (ha : VT X a tA) (hb : VW X (.BoolOp .And (b :: rest) pos) tB) : VW X (.BoolOp .And (a :: b :: rest) pos) (vAndT tA tB) :=
  PW_imp (pw_and ha hb) fun σ H Q ⟨F, M, G, e, Q', hs, hr, q, o⟩ => ⟨F, M, G, e, _, hs, hr, q, fun c H1 F1 M1 s1 r1 q1 => by
    cases c with
    | true => rw [if_pos rfl] at q1 ⊢; exact ⟨F1, M1, G, e, Q', hs.up s1, r1, q1, o.up s1⟩
    | false => rw [if_neg Bool.false_ne_true] at q1 ⊢; exact o _ H1 F1 M1 s1 r1 q1⟩
theorem t_or (ha : VT X a tA) (hb : VW X (.BoolOp .Or (b :: rest) pos) tB) : VW X (.BoolOp .Or (a :: b :: rest) pos) (vOrT tA tB) :=
  PW_imp (pw_or ha hb) fun σ H Q ⟨F, M, G, e, Q', hs, hr, q, o⟩ => ⟨F, M, G, e, _, hs, hr, q, fun c H1 F1 M1 s1 r1 q1 => by
    cases c with
    | true => rw [if_pos rfl] at q1 ⊢; exact o _ H1 F1 M1 s1 r1 q1
    | false => rw [if_neg Bool.false_ne_true] at q1 ⊢; exact ⟨F1, M1, G, e, Q', hs.up s1, r1, q1, o.up s1⟩⟩
theorem t_not (ha : VT X a tA) : VT X (.UnaryOp .Not a pos) (vNotT tA) :=
  PT_imp (pt_not ha) fun σ H Q ⟨F, M, G, e, Q', hs, hr, q, o⟩ => ⟨F, M, G, e, _, hs, hr, q, fun c H1 F1 M1 s1 r1 q1 => o _ H1 F1 M1 s1 r1 q1⟩
@[simp] def vChain (r r' : VR2) (ta tb tc : VTE) : VTE := fun e M Q => ta e M fun x M1 => tb e M1 fun y M2 => r x y M2 fun z M3 => ∃ k, z = .bl k ∧ if k = true then tc e M3 fun w M4 => r' y w M4 Q else Q (.bl false) M3

theorem v_chain {c : Expr} {tc : VTE} {op op' : CmpOp} {r r' : VR2} (ho : OpR X (compareOp op) (l2 X.K r)) (ho' : OpR X (compareOp op') (l2 X.K r')) (ha : VE X a ta) (hb : VE X b tb) (hc : VE X c tc)
    (hm : lastMarks [op, op'] [b, c] = false := by with_unfolding_all rfl) : VE X (.Compare a [op, op'] [b, c] pos) (vChain r r' ta tb tc) :=
  v_pe (pe_chain ho ho' ha hb hc hm) fun F M G σ H e Q' Q hs hr q o => ⟨F, M, G, e, _, hs, hr, q, fun x H1 F1 M1 d s1 r1 d1 q1 => ⟨F1, M1, G, e, _, hs.up s1, r1, q1, fun y H2 F2 M2 d' s2 r2 d2 q2 => ⟨F2, M2, G, d, d', _, r2, d1.up s2, d2, q2, fun z H3 F3 M3 dz s3 r3 d3 q3 => by
    obtain ⟨k, rfl, q3⟩ := q3
    cases d3
    refine ⟨k, rfl, ?_⟩
    cases k with
    | true =>
      rw [if_pos rfl] at q3 ⊢
      exact ⟨F3, M3, G, e, _, hs.up ((s1.trans s2).trans s3), r3, q3, fun w H4 F4 M4 dw s4 r4 d4 q4 => ⟨F4, M4, G, d', dw, Q', r4, d2.up (s3.trans s4), d4, q4, o.up (((s1.trans s2).trans s3).trans s4)⟩⟩
    | false =>
      rw [if_neg Bool.false_ne_true] at q3 ⊢
      exact o _ H3 F3 M3 _ ((s1.trans s2).trans s3) r3 (.bl false) q3⟩⟩⟩
theorem t_chain {c : Expr} {tc : VTE} {op op' : CmpOp} {r r' : VR2} (ho : OpR X (compareOp op) (l2 X.K r)) (ho' : OpR X (compareOp op') (l2 X.K r')) (ha : VE X a ta) (hb : VE X b tb) (hc : VE X c tc)
    (hm : lastMarks [op, op'] [b, c] = false := by with_unfolding_all rfl) : VT X (.Compare a [op, op'] [b, c] pos) (vTest (vChain r r' ta tb tc)) :=
  PT_imp (pt_chain ho ho' ha hb hc hm) fun σ H Q ⟨F, M, G, e, Q', hs, hr, q, o⟩ => ⟨F, M, G, e, _, hs, hr, q, fun x H1 F1 M1 d s1 r1 d1 q1 => ⟨F1, M1, G, e, _, hs.up s1, r1, q1, fun y H2 F2 M2 d' s2 r2 d2 q2 => ⟨F2, M2, G, d, d', _, r2, d1.up s2, d2, q2, fun z H3 F3 M3 dz s3 r3 d3 q3 => by
    obtain ⟨k, rfl, q3⟩ := q3
    cases d3
    refine ⟨k, rfl, ?_⟩
    cases k with
    | true =>
      rw [if_pos rfl] at q3 ⊢
      refine ⟨F3, M3, G, e, _, hs.up ((s1.trans s2).trans s3), r3, q3, fun w H4 F4 M4 dw s4 r4 d4 q4 => ⟨F4, M4, G, d', dw, _, r4, d2.up (s3.trans s4), d4, q4, fun u H5 F5 M5 du s5 r5 d5 q5 => ?_⟩⟩
      obtain ⟨k, rfl, q5⟩ := q5
      cases d5
      exact ⟨k, rfl, o k H5 F5 M5 ((((s1.trans s2).trans s3).trans s4).trans s5) r5 q5⟩
    | false =>
      rw [if_neg Bool.false_ne_true] at q3 ⊢
      obtain ⟨k, e, q5⟩ := q3
      cases e
      exact ⟨false, rfl, o _ H3 F3 M3 ((s1.trans s2).trans s3) r3 q5⟩⟩⟩⟩
end
end VL
namespace VL
open PySem PySem.Spec L2

mutual
def py : D → PyData
  | .non => .none
  | .bl b => .bool b
  | .int i => .int i
  | .str x => .str x
  | .lst xs => .list (pys xs)
  | .tup xs => .tuple (pys xs)
  | .obj _ => .none
  | .rd xs => .list (pys xs)
  | .exc _ _ => .none
def pys : List D → List PyData
  | [] => []
  | x :: xs => py x :: pys xs
end
/-- data of depth n at most, no object in it -/
def Sh : Nat → D → Prop
  | _, .non => True
  | _, .bl _ => True
  | _, .int _ => True
  | _, .str x => PyData.strOk x = true
  | 0, .lst _ => False
  | 0, .tup _ => False
  | n + 1, .lst xs => ∀ x ∈ xs, Sh n x
  | n + 1, .tup xs => ∀ x ∈ xs, Sh n x
  | 0, .rd _ => False
  | n + 1, .rd xs => ∀ x ∈ xs, Sh n x
  | _, .obj _ => False
  | _, .exc _ _ => False
theorem sh_int {n : Nat} {i : Int} : Sh n (.int i) := by cases n <;> trivial
theorem sh_bl {n : Nat} {i : Bool} : Sh n (.bl i) := by cases n <;> trivial
theorem sh_non {n : Nat} : Sh n .non := by cases n <;> trivial
theorem sh_str {n : Nat} {x : Str} (h : PyData.strOk x = true) : Sh n (.str x) := by cases n <;> exact h
theorem sh_lst {n : Nat} {xs : List D} (h : ∀ x ∈ xs, Sh n x) : Sh (n + 1) (.lst xs) := h
theorem sh_tup {n : Nat} {xs : List D} (h : ∀ x ∈ xs, Sh n x) : Sh (n + 1) (.tup xs) := h
theorem pys_len : ∀ xs : List D, (pys xs).length = xs.length
  | [] => rfl
  | x :: xs => by simp [pys, pys_len xs]
theorem sh_py : ∀ (n : Nat) (d : D), Sh n d → (py d).canLay0 = true ∧ (py d).depth ≤ n := by
  have go : ∀ (n : Nat), (∀ d : D, Sh n d → (py d).canLay0 = true ∧ (py d).depth ≤ n) → ∀ xs : List D, (∀ x ∈ xs, Sh n x) → PyData.canLayAll0 (pys xs) = true ∧ PyData.depthAll (pys xs) ≤ n := by
    intro n ih xs
    induction xs with
    | nil => intro _; simp [pys, PyData.canLayAll0, PyData.depthAll]
    | cons x xs ih2 =>
      intro h
      obtain ⟨a, b⟩ := ih x (h x List.mem_cons_self)
      obtain ⟨c, d⟩ := ih2 fun y hy => h y (List.mem_cons_of_mem _ hy)
      simp only [pys, PyData.canLayAll0, PyData.depthAll, a, c, Bool.and_self, true_and]
      omega
  intro n
  induction n with
  | zero =>
    intro d h
    cases d with
    | non => simp [py, PyData.canLay0, PyData.depth]
    | bl b => simp [py, PyData.canLay0, PyData.depth]
    | int b => simp [py, PyData.canLay0, PyData.depth]
    | str x => have h' : PyData.strOk x = true := h; simp [py, PyData.canLay0, PyData.depth, h']
    | lst xs => exact h.elim
    | tup xs => exact h.elim
    | rd xs => exact h.elim
    | obj a => exact h.elim
    | exc _ _ => exact h.elim
  | succ n ih =>
    intro d h
    cases d with
    | non => simp [py, PyData.canLay0, PyData.depth]
    | bl b => simp [py, PyData.canLay0, PyData.depth]
    | int b => simp [py, PyData.canLay0, PyData.depth]
    | str x => have h' : PyData.strOk x = true := h; simp [py, PyData.canLay0, PyData.depth, h']
    | lst xs =>
      obtain ⟨a, b⟩ := go n ih xs h
      simp only [py, PyData.canLay0, PyData.depth, a, true_and]
      omega
    | tup xs =>
      obtain ⟨a, b⟩ := go n ih xs h
      simp only [py, PyData.canLay0, PyData.depth, a, true_and]
      omega
    | rd xs =>
      obtain ⟨a, b⟩ := go n ih xs h
      simp only [py, PyData.canLay0, PyData.depth, a, true_and]
      omega
    | obj a => exact h.elim
    | exc _ _ => exact h.elim
theorem sh_shaped {n : Nat} {d : D} (h : Sh n d) (hn : n ≤ 64) : SeqAt.shaped (py d) = true := by
  obtain ⟨a, b⟩ := sh_py n d h
  unfold SeqAt.shaped
  rw [a, Bool.true_and]
  exact decide_eq_true (by omega)
mutual
def noObj : D → Bool
  | .obj _ => false
  | .exc _ _ => false
  | .lst xs => noObjs xs
  | .tup xs => noObjs xs
  | .rd xs => noObjs xs
  | _ => true
def noObjs : List D → Bool
  | [] => true
  | x :: xs => noObj x && noObjs xs
end
theorem noObjs_of : ∀ {xs : List D}, (∀ x ∈ xs, noObj x = true) → noObjs xs = true
  | [], _ => rfl
  | x :: xs, h => by
    unfold noObjs
    rw [h x List.mem_cons_self, noObjs_of fun y hy => h y (List.mem_cons_of_mem _ hy)] <;> rfl
theorem sh_noObj : ∀ (n : Nat) (d : D), Sh n d → noObj d = true := by
  intro n
  induction n with
  | zero => intro d h; cases d <;> first | rfl | exact h.elim
  | succ n ih =>
    intro d h
    cases d with
    | lst xs => unfold noObj; exact noObjs_of fun x hx => ih x (h x hx)
    | tup xs => unfold noObj; exact noObjs_of fun x hx => ih x (h x hx)
    | rd xs => unfold noObj; exact noObjs_of fun x hx => ih x (h x hx)
    | obj a => exact h.elim
    | exc _ _ => exact h.elim
    | _ => rfl
section
variable {K : PySem.W.Frag} {F H : Hp}
mutual
theorem DR.dp (s : Same F H) : ∀ (d : D) (v : V), noObj d = true → DR K F v d → Dp K H v (py d)
  | .non, _, _, h => by cases h; exact .non
  | .bl b, _, _, h => by cases h; exact .bl b
  | .int i, _, _, h => by cases h; exact .int i
  | .str x, _, _, h => by cases h; exact .str x
  | .obj a, _, o, _ => by cases o
  | .exc _ _, _, o, _ => by cases o
  | .lst ds, _, o, h => by
    cases h with
    | lst q r => exact .lst (SqL.of (s _ _ q)) (DRs.dp s ds _ (by unfold noObj at o; exact o) r)
  | .tup ds, _, o, h => by
    cases h with
    | tup q r => exact .tup (same_tup s q) (DRs.dp s ds _ (by unfold noObj at o; exact o) r)
  | .rd ds, _, o, h => by
    cases h with
    | rd q r => exact .lst (s.seq q) (DRs.dp s ds _ (by unfold noObj at o; exact o) r)
theorem DRs.dp (s : Same F H) : ∀ (ds : List D) (vs : List V), noObjs ds = true → DRs K F vs ds → DpAll K H vs (pys ds)
  | [], _, _, h => by cases h; exact .nil
  | d :: ds, _, o, h => by
    have o' := Bool.and_eq_true_iff.mp (show (noObj d && noObjs ds) = true from o)
    cases h with
    | cons q r => exact .cons (DR.dp s d _ o'.1 q) (DRs.dp s ds _ o'.2 r)
end
end
/-- an object that is a list, read -/
def fz (M : Mem) (d : D) : D := match asL M d with
  | some xs => .lst xs
  | none => d
theorem fz_int {M : Mem} {i : Int} : fz M (.int i) = .int i := rfl
theorem fz_bl {M : Mem} {i : Bool} : fz M (.bl i) = .bl i := rfl
theorem fz_non {M : Mem} : fz M .non = .non := rfl
theorem fz_str {M : Mem} {i : Str} : fz M (.str i) = .str i := rfl
theorem fz_lst {M : Mem} {i : List D} : fz M (.lst i) = .lst i := rfl
theorem fz_tup {M : Mem} {i : List D} : fz M (.tup i) = .tup i := rfl
theorem fz_obj {M : Mem} {a : Addr} {xs : List D} (h : M a = some (.lst xs)) : fz M (.obj a) = .lst xs := by unfold fz; rw [asL_obj h]
theorem fz_dp {K : PySem.W.Frag} {F G H : Hp} {M : Mem} {v : V} {d : D} {n : Nat} (r : Rel K F M G H) (h : DR K F v d) (s : Sh n (fz M d)) : Dp K H v (py (fz M d)) := by
  cases e : asL M d with
  | none =>
    have e2 : fz M d = d := by unfold fz; rw [e]
    rw [e2] at s ⊢
    exact DR.dp r.sub d v (sh_noObj n d s) h
  | some xs =>
    have e2 : fz M d = .lst xs := by unfold fz; rw [e]
    rw [e2] at s ⊢
    obtain ⟨a, vs, rfl, q, z⟩ := asL_at r h e
    exact .lst q (DRs.dp r.sub xs vs (by have := sh_noObj n _ s; unfold noObj at this; exact this) z)

def eqD (x y : D) : Bool := PyData.eqv (py x) (py y)
def eqDs (x y : List D) : Bool := PyData.eqvAll (pys x) (pys y)
theorem eqD_int {i j : Int} : eqD (.int i) (.int j) = decide (i = j) := by simp only [eqD, py, PyData.eqv, Bool.beq_eq_decide_eq]
theorem eqD_bl {i j : Bool} : eqD (.bl i) (.bl j) = (i == j) := by simp [eqD, py, PyData.eqv]
theorem eqD_str {i j : Str} : eqD (.str i) (.str j) = decide (i = j) := by simp only [eqD, py, PyData.eqv, Bool.beq_eq_decide_eq]
theorem eqD_lst {i j : List D} : eqD (.lst i) (.lst j) = eqDs i j := by simp [eqD, eqDs, py, PyData.eqv]
theorem eqD_tup {i j : List D} : eqD (.tup i) (.tup j) = eqDs i j := by simp [eqD, eqDs, py, PyData.eqv]
theorem eqD_nn : eqD .non .non = true := by simp [eqD, py, PyData.eqv]
theorem eqDs_nil : eqDs [] [] = true := by simp [eqDs, pys, PyData.eqvAll]
theorem eqDs_cons {x y : D} {xs ys : List D} : eqDs (x :: xs) (y :: ys) = (eqD x y && eqDs xs ys) := by simp [eqDs, eqD, pys, PyData.eqvAll]
theorem eqDs_nc {y : D} {ys : List D} : eqDs [] (y :: ys) = false := by simp [eqDs, pys, PyData.eqvAll]
theorem eqDs_cn {y : D} {ys : List D} : eqDs (y :: ys) [] = false := by simp [eqDs, pys, PyData.eqvAll]
theorem eqD_n_int {i : Int} : eqD .non (.int i) = false := by simp [eqD, py, PyData.eqv]
theorem eqD_int_n {i : Int} : eqD (.int i) .non = false := by simp [eqD, py, PyData.eqv]
theorem eqD_n_tup {i : List D} : eqD .non (.tup i) = false := by simp [eqD, py, PyData.eqv]
theorem eqD_tup_n {i : List D} : eqD (.tup i) .non = false := by simp [eqD, py, PyData.eqv]
theorem eqD_n_str {i : Str} : eqD .non (.str i) = false := by simp [eqD, py, PyData.eqv]
theorem eqD_str_n {i : Str} : eqD (.str i) .non = false := by simp [eqD, py, PyData.eqv]
theorem eqD_int_str {i : Int} {j : Str} : eqD (.int i) (.str j) = false := by simp [eqD, py, PyData.eqv]
theorem eqD_str_int {i : Int} {j : Str} : eqD (.str j) (.int i) = false := by simp [eqD, py, PyData.eqv]
theorem eqD_tup_str {i : List D} {j : Str} : eqD (.tup i) (.str j) = false := by simp [eqD, py, PyData.eqv]
theorem eqD_str_tup {i : List D} {j : Str} : eqD (.str j) (.tup i) = false := by simp [eqD, py, PyData.eqv]
theorem eqD_tup_int {i : List D} {j : Int} : eqD (.tup i) (.int j) = false := by simp [eqD, py, PyData.eqv]
theorem eqD_int_tup {i : List D} {j : Int} : eqD (.int j) (.tup i) = false := by simp [eqD, py, PyData.eqv]
theorem eqDs_ints : ∀ {xs ys : List Int}, eqDs (xs.map D.int) (ys.map D.int) = decide (xs = ys)
  | [], [] => by rw [List.map_nil, eqDs_nil, decide_eq_true rfl]
  | [], y :: ys => by rw [List.map_nil, List.map_cons, eqDs_nc]; simp
  | x :: xs, [] => by rw [List.map_nil, List.map_cons, eqDs_cn]; simp
  | x :: xs, y :: ys => by
    rw [List.map_cons, List.map_cons, eqDs_cons, eqDs_ints, eqD_int]
    simp [List.cons.injEq]
theorem eqD_refl {n : Nat} {d : D} (h : Sh n d) : eqD d d = true := PySem.SeqAt.eqv_refl _ (sh_py n d h).1
mutual
/-- plain data: ints, texts, None, tuples, lists of such, no bool: equal only what is the same -/
def numD : D → Bool
  | .int _ => true
  | .str _ => true
  | .non => true
  | .bl _ => false
  | .obj _ => false
  | .exc _ _ => false
  | .rd _ => false
  | .lst xs => numDs xs
  | .tup xs => numDs xs
def numDs : List D → Bool
  | [] => true
  | x :: xs => numD x && numDs xs
end
mutual
theorem eqD_eq : ∀ (x y : D), numD x = true → numD y = true → eqD x y = true → x = y
  | .int i, .int j, _, _, h => by rw [eqD_int] at h; rw [of_decide_eq_true h]
  | .str i, .str j, _, _, h => by rw [eqD_str] at h; rw [of_decide_eq_true h]
  | .non, .non, _, _, _ => rfl
  | .lst xs, .lst ys, a, b, h => by rw [eqD_lst] at h; rw [eqDs_eq xs ys (by unfold numD at a; exact a) (by unfold numD at b; exact b) h]
  | .tup xs, .tup ys, a, b, h => by rw [eqD_tup] at h; rw [eqDs_eq xs ys (by unfold numD at a; exact a) (by unfold numD at b; exact b) h]
  | .bl _, _, a, _, _ => by unfold numD at a; cases a
  | .obj _, _, a, _, _ => by unfold numD at a; cases a
  | .exc _ _, _, a, _, _ => by unfold numD at a; cases a
  | .int _, .exc _ _, _, b, _ => by unfold numD at b; cases b
  | .str _, .exc _ _, _, b, _ => by unfold numD at b; cases b
  | .non, .exc _ _, _, b, _ => by unfold numD at b; cases b
  | .lst _, .exc _ _, _, b, _ => by unfold numD at b; cases b
  | .tup _, .exc _ _, _, b, _ => by unfold numD at b; cases b
  | .rd _, _, a, _, _ => by unfold numD at a; cases a
  | .int _, .bl _, _, b, _ => by unfold numD at b; cases b
  | .int _, .obj _, _, b, _ => by unfold numD at b; cases b
  | .int _, .rd _, _, b, _ => by unfold numD at b; cases b
  | .str _, .bl _, _, b, _ => by unfold numD at b; cases b
  | .str _, .obj _, _, b, _ => by unfold numD at b; cases b
  | .str _, .rd _, _, b, _ => by unfold numD at b; cases b
  | .non, .bl _, _, b, _ => by unfold numD at b; cases b
  | .non, .obj _, _, b, _ => by unfold numD at b; cases b
  | .non, .rd _, _, b, _ => by unfold numD at b; cases b
  | .lst _, .bl _, _, b, _ => by unfold numD at b; cases b
  | .lst _, .obj _, _, b, _ => by unfold numD at b; cases b
  | .lst _, .rd _, _, b, _ => by unfold numD at b; cases b
  | .tup _, .bl _, _, b, _ => by unfold numD at b; cases b
  | .tup _, .obj _, _, b, _ => by unfold numD at b; cases b
  | .tup _, .rd _, _, b, _ => by unfold numD at b; cases b
  | .int _, .str _, _, _, h => by simp [eqD, py, PyData.eqv] at h
  | .int _, .non, _, _, h => by simp [eqD, py, PyData.eqv] at h
  | .int _, .lst _, _, _, h => by simp [eqD, py, PyData.eqv] at h
  | .int _, .tup _, _, _, h => by simp [eqD, py, PyData.eqv] at h
  | .str _, .int _, _, _, h => by simp [eqD, py, PyData.eqv] at h
  | .str _, .non, _, _, h => by simp [eqD, py, PyData.eqv] at h
  | .str _, .lst _, _, _, h => by simp [eqD, py, PyData.eqv] at h
  | .str _, .tup _, _, _, h => by simp [eqD, py, PyData.eqv] at h
  | .non, .int _, _, _, h => by simp [eqD, py, PyData.eqv] at h
  | .non, .str _, _, _, h => by simp [eqD, py, PyData.eqv] at h
  | .non, .lst _, _, _, h => by simp [eqD, py, PyData.eqv] at h
  | .non, .tup _, _, _, h => by simp [eqD, py, PyData.eqv] at h
  | .lst _, .int _, _, _, h => by simp [eqD, py, PyData.eqv] at h
  | .lst _, .str _, _, _, h => by simp [eqD, py, PyData.eqv] at h
  | .lst _, .non, _, _, h => by simp [eqD, py, PyData.eqv] at h
  | .lst _, .tup _, _, _, h => by simp [eqD, py, PyData.eqv] at h
  | .tup _, .int _, _, _, h => by simp [eqD, py, PyData.eqv] at h
  | .tup _, .str _, _, _, h => by simp [eqD, py, PyData.eqv] at h
  | .tup _, .non, _, _, h => by simp [eqD, py, PyData.eqv] at h
  | .tup _, .lst _, _, _, h => by simp [eqD, py, PyData.eqv] at h
theorem eqDs_eq : ∀ (xs ys : List D), numDs xs = true → numDs ys = true → eqDs xs ys = true → xs = ys
  | [], [], _, _, _ => rfl
  | [], y :: ys, _, _, h => by rw [eqDs_nc] at h; cases h
  | x :: xs, [], _, _, h => by rw [eqDs_cn] at h; cases h
  | x :: xs, y :: ys, a, b, h => by
    rw [eqDs_cons, Bool.and_eq_true] at h
    have a' := Bool.and_eq_true_iff.mp (show (numD x && numDs xs) = true from a)
    have b' := Bool.and_eq_true_iff.mp (show (numD y && numDs ys) = true from b)
    rw [eqD_eq x y a'.1 b'.1 h.1, eqDs_eq xs ys a'.2 b'.2 h.2]
end
theorem numDs_of : ∀ {xs : List D}, (∀ x ∈ xs, numD x = true) → numDs xs = true
  | [], _ => rfl
  | x :: xs, h => by
    unfold numDs
    rw [h x List.mem_cons_self, numDs_of fun y hy => h y (List.mem_cons_of_mem _ hy)] <;> rfl

section
variable {X : Cx}
theorem hu64 {A : Around} {k : Nat} (hr : Room k A) : A.units + 70 < cLine := by have := hr.un; omega
@[simp] def oAdd : VR2 := fun x y M Q => match x, y with
  | .int i, .int j => Q (.int (i + j)) M
  | .str x, .str y => x.length + y.length ≤ sizeLine ∧ Q (.str (x ++ y)) M
  | .tup xs, .tup ys => xs.length + ys.length ≤ sizeLine ∧ Q (.tup (xs ++ ys)) M
  | x, y => ∃ xs ys, asP M x = some xs ∧ asP M y = some ys ∧ xs.length + ys.length ≤ sizeLine ∧ Q (.lst (xs ++ ys)) M
theorem cat_lists {F G H : Hp} {M : Mem} {x y : V} {a b : D} {xs ys : List D} {Q' : VK} {Q : L2.VK} (r : Rel X.K F M G H) (da : DR X.K F x a) (db : DR X.K F y b) (ea : asP M a = some xs) (eb : asP M b = some ys) (hl : xs.length + ys.length ≤ sizeLine)
    (q : Q' (.lst (xs ++ ys)) M) (o : OutE X.K F G Q' Q) : rCat x y H Q := by
  obtain ⟨p, vs, rfl, hp, dv⟩ := asP_at r da ea
  obtain ⟨p', ws, rfl, hp', dw⟩ := asP_at r db eb
  refine ⟨p, p', vs, ws, rfl, rfl, hp, hp', by rw [dv.len, dw.len]; exact hl, fun n hn => ?_⟩
  have s := r.sF (o := .lst (vs ++ ws)) hn
  exact o _ _ _ _ _ s (r.newF hn) (.lst upd_same ((dv.app dw).up s)) q
theorem o_add : OpR X (binaryOp .Add) (l2 X.K oAdd) := by
  intro pins s σ H x y v u Q I rx ry ⟨F, M, G, a, b, Q', r, da, db, q, o⟩
  have lists : (∃ xs ys, asP M a = some xs ∧ asP M b = some ys ∧ xs.length + ys.length ≤ sizeLine ∧ Q' (.lst (xs ++ ys)) M) → wpAny (model X.prog X.w) X.A (binaryOp .Add v u) (EP X pins σ Q) X.xe s := fun ⟨xs, ys, ea, eb, hl, q⟩ =>
    op_cat pins s σ H x y v u Q I rx ry (cat_lists r da db ea eb hl q o)
  cases a with
  | int i =>
    cases b with
    | int j => cases da; cases db; exact op_add pins s σ H _ _ v u Q I rx ry ⟨i, j, rfl, rfl, o _ H F M _ (Same.refl F) r (.int _) q⟩
    | _ => exact lists q
  | str i =>
    cases b with
    | str j => cases da; cases db; exact op_add_str pins s σ H _ _ v u Q I rx ry ⟨i, j, rfl, rfl, q.1, o _ H F M _ (Same.refl F) r (.str _) q.2⟩
    | _ => exact lists q
  | tup i =>
    cases b with
    | tup j =>
      cases da with
      | tup h1 z1 =>
        cases db with
        | tup h2 z2 =>
          refine op_catA pins s σ H _ _ v u Q I rx ry ⟨_, _, _, _, rfl, rfl, same_tup r.sub h1, same_tup r.sub h2, by rw [z1.len, z2.len]; exact q.1, fun e => ?_, fun e e2 => ?_, fun e e2 p hp => ?_⟩
          · subst e
            have : i = [] := List.eq_nil_of_length_eq_zero (z1.len.symm)
            subst this
            exact o _ H F M _ (Same.refl F) r (.tup h2 z2) q.2
          · subst e2
            have : j = [] := List.eq_nil_of_length_eq_zero (z2.len.symm)
            subst this
            have q2 := q.2
            rw [List.append_nil] at q2
            exact o _ H F M _ (Same.refl F) r (.tup h1 z1) q2
          · exact o _ _ _ _ _ (r.sF hp) (r.newF hp) (.tup (SqT.of upd_same) ((z1.app z2).up (r.sF hp))) q.2
    | _ => exact lists q
  | _ => exact lists q
@[simp] def oSub : VR2 := fun x y M Q => ∃ i j, x = .int i ∧ y = .int j ∧ Q (.int (i - j)) M
theorem of_int2 {f : Value → Value → Sem Value} {C : Int → Int → Prop} {g : Int → Int → Int} (h : OpR X f (rI C fun i j => .int (g i j))) : OpR X f (l2 X.K fun x y M Q => ∃ i j, x = .int i ∧ y = .int j ∧ C i j ∧ Q (.int (g i j)) M) :=
  OpR_imp h fun x y H Q ⟨F, M, G, a, b, Q', r, da, db, q, o⟩ => by
    obtain ⟨i, j, rfl, rfl, c, q⟩ := q
    cases da; cases db
    exact ⟨i, j, rfl, rfl, c, o _ H F M _ (Same.refl F) r (.int _) q⟩
theorem of_int2b {f : Value → Value → Sem Value} {g : Int → Int → Bool} (h : OpR X f (rI0 fun i j => .bl (g i j))) : OpR X f (l2 X.K fun x y M Q => ∃ i j, x = .int i ∧ y = .int j ∧ Q (.bl (g i j)) M) :=
  OpR_imp h fun x y H Q ⟨F, M, G, a, b, Q', r, da, db, q, o⟩ => by
    obtain ⟨i, j, rfl, rfl, q⟩ := q
    cases da; cases db
    exact ⟨i, j, rfl, rfl, o _ H F M _ (Same.refl F) r (.bl _) q⟩
theorem o_sub : OpR X (binaryOp .Sub) (l2 X.K oSub) :=
  OpR_imp op_sub fun x y H Q ⟨F, M, G, a, b, Q', r, da, db, q, o⟩ => by
    obtain ⟨i, j, rfl, rfl, q⟩ := q
    cases da; cases db
    exact ⟨i, j, rfl, rfl, o _ H F M _ (Same.refl F) r (.int _) q⟩
/-- a factor is short, or both together are not too long -/
def MulOk (i j : Int) : Prop := i.natAbs < 18446744073709551616 ∨ j.natAbs < 18446744073709551616 ∨ CMulW i j
@[simp] def oMulI : VR2 := fun x y M Q => ∃ i j, x = .int i ∧ y = .int j ∧ MulOk i j ∧ Q (.int (i * j)) M
theorem MulOk.ok {i j : Int} (h : MulOk i j) : PySem.IntMulOk i j := by
  have e : (18446744073709551616 : Nat) = 2 ^ 64 := by decide
  rcases h with h | h | h
  · exact CMul.ok (.inl (by omega))
  · exact CMul.ok (.inr (by omega))
  · exact h.ok
theorem o_mulI : OpR X (binaryOp .Mult) (l2 X.K oMulI) := of_int2 (opI fun _ _ _ _ _ _ _ hc q => PyProof.Rows.mul_int q (MulOk.ok hc))
/-- a list times an int -/
def oRep : VR2 := fun x y M Q => ∃ xs k, asP M x = some xs ∧ y = .int k ∧ -(2 ^ 63) ≤ k ∧ k < 2 ^ 63 ∧ xs.length * k.toNat ≤ sizeLine ∧ Q (.lst (List.replicate k.toNat xs).flatten) M
theorem DRs.rep {K : PySem.W.Frag} {F : Hp} {vs : List V} {ds : List D} (h : DRs K F vs ds) : ∀ n : Nat, DRs K F (List.replicate n vs).flatten (List.replicate n ds).flatten
  | 0 => .nil
  | n + 1 => by
    rw [List.replicate_succ, List.replicate_succ, List.flatten_cons, List.flatten_cons]
    exact h.app (DRs.rep h n)
theorem o_rep : OpR X (binaryOp .Mult) (l2 X.K oRep) :=
  OpR_imp op_rep fun x y H Q ⟨F, M, G, a, b, Q', r, da, db, q, o⟩ => by
    obtain ⟨xs, k, ea, rfl, h1, h2, hl, q⟩ := q
    cases db
    obtain ⟨p, vs, rfl, hp, dv⟩ := asP_at r da ea
    refine ⟨p, k, vs, rfl, rfl, hp, h1, h2, by rw [dv.len]; exact hl, fun n hn => ?_⟩
    exact o _ _ _ _ _ (r.sF hn) (r.newF hn) (.lst upd_same ((dv.rep _).up (r.sF hn))) q
@[simp] def oFdiv : VR2 := fun x y M Q => ∃ i j, x = .int i ∧ y = .int j ∧ (0 < j ∧ j.natAbs.log2 < 9000) ∧ Q (.int (i / j)) M
theorem o_fdiv : OpR X (binaryOp .FloorDiv) (l2 X.K oFdiv) := of_int2 (C := CDivW) op_fdivW
@[simp] def oMod : VR2 := fun x y M Q => ∃ i j, x = .int i ∧ y = .int j ∧ 0 < j ∧ Q (.int (i % j)) M
theorem o_mod : OpR X (binaryOp .Mod) (l2 X.K oMod) := of_int2 op_mod
@[simp] def oModN : VR2 := fun x y M Q => ∃ i j, x = .int i ∧ y = .int j ∧ j ≠ 0 ∧ Q (.int (i.fmod j)) M
theorem o_modN : OpR X (binaryOp .Mod) (l2 X.K oModN) := of_int2 op_modN
def PowOk (i j : Int) : Prop := 0 ≤ j ∧ j ≤ 1000000 ∧ i.natAbs.log2 ≤ 1000000 ∧ ((i.natAbs.log2 + 1 : Nat) : Int) * j ≤ 134217728
@[simp] def oPow : VR2 := fun x y M Q => ∃ i j, x = .int i ∧ y = .int j ∧ PowOk i j ∧ Q (.int (i ^ j.toNat)) M
theorem PowOk.ok {i j : Int} (h : PowOk i j) : (Builtin.Int.intBits i : Int) * j ≤ 2 ^ 27 := by
  obtain ⟨h0, h1, h2, h3⟩ := h
  have b : (Builtin.Int.intBits i : Int) ≤ ((i.natAbs.log2 + 1 : Nat) : Int) := by
    unfold Builtin.Int.intBits
    split <;> omega
  have := Int.mul_le_mul_of_nonneg_right b h0
  have e : (2 : Int) ^ 27 = 134217728 := by decide
  omega
theorem o_pow : OpR X (binaryOp .Pow) (l2 X.K oPow) := of_int2 (opI fun _ _ _ _ _ _ _ hc q => PyProof.Rows.pow_int hc.1 hc.ok q)
@[simp] def oNeg : VR1 := fun x M Q => ∃ i, x = .int i ∧ Q (.int (-i)) M
theorem o_neg : UnR X (unaryOp .USub) (l1 X.K oNeg) := UnR_imp un_neg fun x H Q ⟨F, M, G, a, Q', r, da, q, o⟩ => by
  obtain ⟨i, rfl, q⟩ := q
  cases da
  exact ⟨i, rfl, o _ H F M _ (Same.refl F) r (.int _) q⟩
@[simp] def oLt : VR2 := fun x y M Q => ∃ i j, x = .int i ∧ y = .int j ∧ Q (.bl (decide (i < j))) M
@[simp] def oLe : VR2 := fun x y M Q => ∃ i j, x = .int i ∧ y = .int j ∧ Q (.bl (decide (i ≤ j))) M
@[simp] def oGt : VR2 := fun x y M Q => ∃ i j, x = .int i ∧ y = .int j ∧ Q (.bl (decide (j < i))) M
@[simp] def oGe : VR2 := fun x y M Q => ∃ i j, x = .int i ∧ y = .int j ∧ Q (.bl (decide (j ≤ i))) M
theorem o_lt : OpR X (compareOp .Lt) (l2 X.K oLt) := of_int2b op_lt
theorem o_le : OpR X (compareOp .LtE) (l2 X.K oLe) := of_int2b op_le
theorem o_gt : OpR X (compareOp .Gt) (l2 X.K oGt) := of_int2b op_gt
theorem o_ge : OpR X (compareOp .GtE) (l2 X.K oGe) := of_int2b op_ge
def oEq : VR2 := fun x y M Q => (∃ a b, x = .str a ∧ y = .str b ∧ Q (.bl (decide (a = b))) M) ∨ (Sh 30 (fz M x) ∧ Sh 30 (fz M y) ∧ Q (.bl (eqD (fz M x) (fz M y))) M)
def oNe : VR2 := fun x y M Q => (∃ a b, x = .str a ∧ y = .str b ∧ Q (.bl (!decide (a = b))) M) ∨ (Sh 30 (fz M x) ∧ Sh 30 (fz M y) ∧ Q (.bl (!eqD (fz M x) (fz M y))) M)
theorem dec_strV {a b : Str} : decide (V.str a = V.str b) = decide (a = b) := by
  by_cases h : a = b
  · rw [h, decide_eq_true rfl, decide_eq_true rfl]
  · rw [decide_eq_false h, decide_eq_false fun z => h (V.str.inj z)]
theorem o_eq {k : Nat} (hr : Room k X.A) : OpR X (compareOp .Eq) (l2 X.K oEq) := fun pins s σ H x y v u Q I rx ry ⟨F, M, G, a, b, Q', r, da, db, q, o⟩ => by
  rcases q with ⟨i, j, rfl, rfl, q⟩ | ⟨s1, s2, q⟩
  · cases da; cases db
    exact op_eq pins s σ H _ _ v u Q I rx ry ⟨rfl, by rw [dec_strV]; exact o _ H F M _ (Same.refl F) r (.bl _) q⟩
  · exact op_eqD hr.units pins s σ H x y v u Q I rx ry ⟨_, _, fz_dp r da s1, fz_dp r db s2, sh_shaped s1 (by decide), sh_shaped s2 (by decide), o _ H F M _ (Same.refl F) r (.bl _) q⟩
theorem o_ne {k : Nat} (hr : Room k X.A) : OpR X (compareOp .NotEq) (l2 X.K oNe) := fun pins s σ H x y v u Q I rx ry ⟨F, M, G, a, b, Q', r, da, db, q, o⟩ => by
  rcases q with ⟨i, j, rfl, rfl, q⟩ | ⟨s1, s2, q⟩
  · cases da; cases db
    exact op_ne pins s σ H _ _ v u Q I rx ry ⟨rfl, by rw [dec_strV]; exact o _ H F M _ (Same.refl F) r (.bl _) q⟩
  · exact op_neD hr.units pins s σ H x y v u Q I rx ry ⟨_, _, fz_dp r da s1, fz_dp r db s2, sh_shaped s1 (by decide), sh_shaped s2 (by decide), o _ H F M _ (Same.refl F) r (.bl _) q⟩
@[simp] def isNon : D → Bool
  | .non => true
  | _ => false
theorem dr_non {K : PySem.W.Frag} {F : Hp} {v : V} {d : D} (h : DR K F v d) : decide (v = .non) = isNon d := by
  cases h <;> first | rfl | exact decide_eq_false (fun z => nomatch z) | exact decide_eq_true rfl
@[simp] def oIs : VR2 := fun x y M Q => y = .non ∧ Q (.bl (isNon x)) M
@[simp] def oIsNot : VR2 := fun x y M Q => y = .non ∧ Q (.bl (!isNon x)) M
theorem o_is : OpR X (compareOp .Is) (l2 X.K oIs) := OpR_imp op_isN fun x y H Q ⟨F, M, G, a, b, Q', r, da, db, ⟨e, q⟩, o⟩ => by
  subst e; cases db
  refine ⟨rfl, ?_⟩
  rw [dr_non da]
  exact o _ H F M _ (Same.refl F) r (.bl _) q
theorem o_isNot : OpR X (compareOp .IsNot) (l2 X.K oIsNot) := OpR_imp op_notN fun x y H Q ⟨F, M, G, a, b, Q', r, da, db, ⟨e, q⟩, o⟩ => by
  subst e; cases db
  refine ⟨rfl, ?_⟩
  rw [dr_non da]
  exact o _ H F M _ (Same.refl F) r (.bl _) q
/-- the items of a list or a tuple -/
@[simp] def asI (M : Mem) : D → Option (List D)
  | .tup xs => some xs
  | d => asL M d
def inD (x : D) (ys : List D) : Bool := ys.any fun y => eqD y x
def oIn : VR2 := fun x y M Q => ∃ ys, asI M y = some ys ∧ Sh 30 x ∧ (∀ z ∈ ys, Sh 30 z) ∧ Q (.bl (inD x ys)) M
def oNotIn : VR2 := fun x y M Q => ∃ ys, asI M y = some ys ∧ Sh 30 x ∧ (∀ z ∈ ys, Sh 30 z) ∧ Q (.bl (!inD x ys)) M
theorem any_pys (x : D) : ∀ ys : List D, ((pys ys).any fun z => PyData.eqv z (py x)) = inD x ys
  | [] => rfl
  | y :: ys => by
    have := any_pys x ys
    unfold inD at this ⊢
    simp only [pys, List.any_cons, this, eqD]
theorem asI_cases {M : Mem} {y : D} {ys : List D} (h : asI M y = some ys) : y = .tup ys ∨ asL M y = some ys := by
  cases y with
  | tup xs => cases h; exact .inl rfl
  | _ => exact .inr h
theorem in_core {F G H : Hp} {M : Mem} {x y : V} {a b : D} {ys : List D} {pins : List (Addr × Obj)} {σ : L2.St} {s : Shared} {v u : Value} (I : Inv X pins σ H s) (rx : RelV x v) (ry : RelV y u) (r : Rel X.K F M G H) (da : DR X.K F x a) (db : DR X.K F y b)
    (e : asI M b = some ys) (s1 : Sh 30 a) (s2 : ∀ z ∈ ys, Sh 30 z) : (∃ as, Reads s.heap v (py a) as) ∧ ((∃ bs, Reads s.heap u (.list (pys ys)) bs) ∨ ∃ bs, Reads s.heap u (.tuple (pys ys)) bs) ∧ PyData.canLayAll0 (pys ys) = true ∧ (py a).canLay0 = true := by
  have c := sh_py 31 (.lst ys) s2
  simp only [py, PyData.canLay0] at c
  have c2 := sh_py 30 a s1
  have n1 := sh_noObj 30 a s1
  have n2 : noObjs ys = true := noObjs_of fun z hz => sh_noObj 30 z (s2 z hz)
  refine ⟨Dp.reads I _ _ _ (DR.dp r.sub a x n1 da) rx, ?_, c.1, c2.1⟩
  rcases asI_cases e with rfl | e
  · cases db with
    | tup h z => exact .inr (Dp.reads I _ _ _ (.tup (same_tup r.sub h) (DRs.dp r.sub ys _ n2 z)) ry)
  · obtain ⟨p, vs, rfl, h, z⟩ := asL_at r db e
    exact .inl (Dp.reads I _ _ _ (.lst h (DRs.dp r.sub ys _ n2 z)) ry)
theorem room_in {A : Around} {d : D} {n : Nat} (h : Sh n d) (hn : n ≤ 60) (hu : A.units + 70 < cLine) (k : Nat) : A.units + 1 + min k (py d).depth < cLine := by
  have h1 := (sh_py n d h).2
  have h2 : min k (py d).depth ≤ (py d).depth := Nat.min_le_right _ _
  omega
theorem o_in {k : Nat} (hr : Room k X.A) : OpR X (compareOp .In) (l2 X.K oIn) := by
  intro pins s σ H x y v u Q I rx ry ⟨F, M, G, a, b, Q', r, da, db, ⟨ys, e, s1, s2, q⟩, o⟩
  obtain ⟨⟨as, r1⟩, r2, c1, c2⟩ := in_core I rx ry r da db e s1 s2
  have q2 := o _ H F M _ (Same.refl F) r (.bl _) q
  rw [← any_pys] at q2
  rcases r2 with ⟨bs, r2⟩ | ⟨bs, r2⟩
  · exact SeqAt.in_list_reads r2 r1 c1 c2 (room_in s1 (by decide) (hu64 hr) _) ⟨.bl _, H, I, rfl, q2⟩
  · exact SeqAt.in_tuple_reads r2 r1 c1 c2 (room_in s1 (by decide) (hu64 hr) _) ⟨.bl _, H, I, rfl, q2⟩
theorem o_notIn {k : Nat} (hr : Room k X.A) : OpR X (compareOp .NotIn) (l2 X.K oNotIn) := by
  intro pins s σ H x y v u Q I rx ry ⟨F, M, G, a, b, Q', r, da, db, ⟨ys, e, s1, s2, q⟩, o⟩
  obtain ⟨⟨as, r1⟩, r2, c1, c2⟩ := in_core I rx ry r da db e s1 s2
  have q2 := o _ H F M _ (Same.refl F) r (.bl _) q
  rw [← any_pys] at q2
  rcases r2 with ⟨bs, r2⟩ | ⟨bs, r2⟩
  · exact SeqAt.notIn_list_reads r2 r1 c1 c2 (room_in s1 (by decide) (hu64 hr) _) ⟨.bl _, H, I, rfl, q2⟩
  · exact SeqAt.notIn_tuple_reads r2 r1 c1 c2 (room_in s1 (by decide) (hu64 hr) _) ⟨.bl _, H, I, rfl, q2⟩
end
end VL
namespace VL
open PySem PySem.Spec L2

section
variable {X : Cx} {e a b : Expr} {es : List Expr} {te ta tb : VTE} {t : VTA} {pos : Pos}
@[simp] def vaNil : VTA := fun _ M Q => Q [] M
@[simp] def vaCons (ta : VTE) (tr : VTA) : VTA := fun e M Q => ta e M fun x M1 => tr e M1 fun xs M2 => Q (x :: xs) M2
theorem va_nil : VA X [] vaNil := PA_imp pa_nil fun σ H Q ⟨F, M, G, e, Q', hs, hr, q, o⟩ => o [] H F M [] (Same.refl F) hr .nil q
theorem va_cons (ha : VE X e te) (hr : VA X es t) (hs : starEach (e :: es) X.env = (false, eval e X.env) :: starEach es X.env := by rfl) : VA X (e :: es) (vaCons te t) :=
  PA_imp (pa_cons ha hr hs) fun σ H Q ⟨F, M, G, e, Q', hs, hr, q, o⟩ => ⟨F, M, G, e, _, hs, hr, q, fun x H1 F1 M1 d s1 r1 d1 q1 => ⟨F1, M1, G, e, _, hs.up s1, r1, q1, fun xs H2 F2 M2 ds s2 r2 d2 q2 =>
    o _ H2 F2 M2 _ (s1.trans s2) r2 (.cons (d1.up s2) d2) q2⟩⟩
@[simp] def vTup (t : VTA) : VTE := fun e M Q => t e M fun xs M1 => xs.length ≤ sizeLine ∧ Q (.tup xs) M1
@[simp] def vLst (t : VTA) : VTE := fun e M Q => t e M fun xs M1 => xs.length ≤ sizeLine ∧ Q (.lst xs) M1
/-- a list that may change -/
@[simp] def vLstO (t : VTA) : VTE := fun e M Q => t e M fun xs M1 => xs.length ≤ sizeLine ∧ ∀ p, M1 p = none → Q (.obj p) (mupd M1 p (.lst xs))
theorem v_tup {x1} (h : VA X es t) : VE X (.Tuple es x1 pos) (vTup t) :=
  v_pe (pe_tup h) fun F M G σ H e Q' Q hs hr q o => ⟨F, M, G, e, _, hs, hr, q, fun vs H1 F1 M1 ds s1 r1 d1 q1 => ⟨by rw [d1.len]; exact q1.1, fun p hp =>
    o _ _ _ _ _ (s1.trans (r1.sF hp)) (r1.newF hp) (.tup (SqT.of upd_same) (d1.up (r1.sF hp))) q1.2⟩⟩
theorem v_lst (h : VA X es t) : VE X (.List es pos) (vLst t) :=
  v_pe (pe_lst h) fun F M G σ H e Q' Q hs hr q o => ⟨F, M, G, e, _, hs, hr, q, fun vs H1 F1 M1 ds s1 r1 d1 q1 => ⟨by rw [d1.len]; exact q1.1, fun p hp =>
    o _ _ _ _ _ (s1.trans (r1.sF hp)) (r1.newF hp) (.lst upd_same (d1.up (r1.sF hp))) q1.2⟩⟩
theorem v_lstO (h : VA X es t) : VE X (.List es pos) (vLstO t) :=
  v_pe (pe_lst h) fun F M G σ H e Q' Q hs hr q o => ⟨F, M, G, e, _, hs, hr, q, fun vs H1 F1 M1 ds s1 r1 d1 q1 => ⟨by rw [d1.len]; exact q1.1, fun p hp =>
    o _ _ _ _ _ s1 (r1.newM hp (m := .lst ds) ⟨vs, rfl, d1⟩) (.obj p) (q1.2 p (r1.m0 hp))⟩⟩

theorem DRs.atI {K : PySem.W.Frag} {F : Hp} {vs : List V} {ds : List D} {i : Int} {d : D} (h : DRs K F vs ds) (e : L2.atI ds i = some d) : ∃ v, L2.atI vs i = some v ∧ DR K F v d := by
  unfold L2.atI at e ⊢
  rw [h.len]
  cases q : ixN ds.length i with
  | none => rw [q] at e; cases e
  | some j =>
    rw [q] at e
    exact DRs.geti h e
@[simp] def oIx : VR2 := fun x y M Q => match x, y with
  | .tup xs, .int i => ∃ d, atI xs i = some d ∧ Q d M
  | .str z, .int i => ∃ c, z.length ≤ sizeLine ∧ atI z.cps.toList i = some c ∧ Q (.str ⟨#[c]⟩) M
  | x, .int i => ∃ xs d, asL M x = some xs ∧ atI xs i = some d ∧ Q d M
  | _, _ => False
theorem o_ix : IxR X (l2 X.K oIx) := by
  intro value slice pins s σ H x y v u Q I rx ry ⟨F, M, G, a, b, Q', r, da, db, q, o⟩ hs
  have lists : ∀ i, b = .int i → (∃ xs d, asL M a = some xs ∧ atI xs i = some d ∧ Q' d M) → wpAny (model X.prog X.w) X.A (PyProof.Rows.subscriptTail value slice v u) (EP X pins σ Q) X.xe s := fun i e ⟨xs, d, ea, ei, q2⟩ => by
    subst e; cases db
    obtain ⟨p, vs, rfl, hp, z⟩ := asL_at r da ea
    obtain ⟨w, e1, e2⟩ := z.atI ei
    exact ix_list value slice pins s σ H _ _ v u Q I rx ry ⟨p, vs, i, w, rfl, rfl, hp, e1, o _ H F M _ (Same.refl F) r e2 q2⟩ hs
  cases b with
  | int i =>
    cases a with
    | tup xs =>
      cases da with
      | tup h z =>
        cases db
        obtain ⟨d, ei, q⟩ := q
        obtain ⟨w, e1, e2⟩ := z.atI ei
        exact ix_tup value slice pins s σ H _ _ v u Q I rx ry ⟨_, _, i, w, rfl, rfl, same_tup r.sub h, e1, o _ H F M _ (Same.refl F) r e2 q⟩ hs
    | str z =>
      cases da; cases db
      obtain ⟨c, h1, h2, q⟩ := q
      exact ix_str value slice pins s σ H _ _ v u Q I rx ry ⟨z, i, c, rfl, rfl, h1, h2, o _ H F M _ (Same.refl F) r (.str _) q⟩ hs
    | _ => exact lists i rfl q
  | _ => cases a <;> exact q.elim
theorem v_ix (ha : VE X a ta) (hb : VE X b tb) (hs : PlainIx b := by exact fun _ _ => rfl) : VE X (.Subscript a b pos) (vOp oIx ta tb) :=
  v_pe (pe_ix o_ix ha hb hs) fun F M G σ H e Q' Q hs hr q o => ⟨F, M, G, e, _, hs, hr, q, fun x H1 F1 M1 d s1 r1 d1 q1 => ⟨F1, M1, G, e, _, hs.up s1, r1, q1, fun y H2 F2 M2 d' s2 r2 d2 q2 => ⟨F2, M2, G, d, d', Q', r2, d1.up s2, d2, q2, o.up (s1.trans s2)⟩⟩⟩
@[simp] def vNoPart : VTO := fun _ M Q => Q none M
@[simp] def vPart (t : VTE) : VTO := fun e M Q => t e M fun x M1 => ∃ i, x = .int i ∧ Q (some i) M1
theorem vo_none : VO X none vNoPart := PO_imp po_none fun σ H Q ⟨F, M, G, e, Q', hs, hr, q, o⟩ => o none H F M (Same.refl F) hr q
theorem vo_some (h : VE X e te) : VO X (some e) (vPart te) := PO_imp (po_some h) fun σ H Q ⟨F, M, G, e, Q', hs, hr, q, o⟩ => ⟨F, M, G, e, _, hs, hr, q, fun x H1 F1 M1 d s1 r1 d1 q1 => by
  obtain ⟨i, rfl, q1⟩ := q1
  cases d1
  exact ⟨i, rfl, o _ H1 F1 M1 s1 r1 q1⟩⟩
def cutD {α : Type} (xs : List α) (lo hi : Option Int) : List α := (xs.drop (HT.sIx xs.length 0 lo)).take (HT.sIx xs.length xs.length hi - HT.sIx xs.length 0 lo)
theorem DRs.cut {K : PySem.W.Frag} {F : Hp} {vs : List V} {ds : List D} (h : DRs K F vs ds) (lo hi : Option Int) : DRs K F (cutV vs lo hi) (cutD ds lo hi) := by
  unfold cutV cutD
  rw [h.len]
  exact (h.drop _).take _
theorem cutD_whole {α : Type} {xs : List α} {lo hi : Option Int} (h : HT.sIx xs.length 0 lo = 0 ∧ HT.sIx xs.length xs.length hi = xs.length) : cutD xs lo hi = xs := by
  unfold cutD
  rw [h.1, h.2, Nat.sub_zero, List.drop_zero]
  exact List.take_length
def oSl (x : D) (lo hi : Option Int) (M : Mem) (Q : VK) : Prop := match x with
  | .tup xs => Q (.tup (cutD xs lo hi)) M
  | .str z => z.length ≤ sizeLine ∧ Q (.str (cutS z lo hi)) M
  | x => ∃ xs, asL M x = some xs ∧ Q (.lst (cutD xs lo hi)) M
def lSl (K : PySem.W.Frag) : V → Option Int → Option Int → Hp → L2.VK → Prop := fun x lo hi H Q => ∃ F M G a Q', Rel K F M G H ∧ DR K F x a ∧ oSl a lo hi M Q' ∧ OutE K F G Q' Q
theorem o_sl : SlR X (lSl X.K) := by
  intro pins s σ H x v vl vu lo hi sl Q I rx hs pl pu ⟨F, M, G, a, Q', r, da, q, o⟩
  have lists : (∃ xs, asL M a = some xs ∧ Q' (.lst (cutD xs lo hi)) M) → ∃ T id, typeLookup (.type T) "__getitem__" = pure (some (.builtin id)) ∧ s.TypeIs v T ∧ wpAny (model X.prog X.w) X.A (getItem v (.ref sl)) (EP X pins σ Q) X.xe s := fun ⟨xs, ea, q⟩ => by
    obtain ⟨p, vs, rfl, hp, z⟩ := asL_at r da ea
    exact sl_list pins s σ H _ v vl vu lo hi sl Q I rx hs pl pu ⟨p, vs, rfl, hp, fun n hn => o _ _ _ _ _ (r.sF hn) (r.newF hn) (.lst upd_same ((z.cut lo hi).up (r.sF hn))) q⟩
  cases a with
  | tup xs =>
    cases da with
    | tup h z =>
      refine sl_tupA pins s σ H _ v vl vu lo hi sl Q I rx hs pl pu ⟨_, _, rfl, same_tup r.sub h, fun hw => ?_, fun hw n hn => ?_⟩
      · rw [z.len] at hw
        have q' : Q' (.tup (cutD xs lo hi)) M := q
        rw [cutD_whole hw] at q'
        exact o _ H F M _ (Same.refl F) r (.tup h z) q'
      · exact o _ _ _ _ _ (r.sF hn) (r.newF hn) (.tup (SqT.of upd_same) ((z.cut lo hi).up (r.sF hn))) q
  | str z =>
    cases da
    exact sl_str pins s σ H _ v vl vu lo hi sl Q I rx hs pl pu ⟨z, rfl, q.1, o _ H F M _ (Same.refl F) r (.str _) q.2⟩
  | _ => exact lists q
@[simp] def vSl (te : VTE) (tl th : VTO) : VTE := fun e M Q => te e M fun x M1 => tl e M1 fun l M2 => th e M2 fun h M3 => oSl x l h M3 Q
theorem v_sl {lo hi : Option Expr} {tl th : VTO} {p2 : Pos} (he : VE X e te) (hl : VO X lo tl) (hu : VO X hi th) : VE X (.Subscript e (.Slice lo hi none p2) pos) (vSl te tl th) :=
  v_pe (pe_slice o_sl he hl hu) fun F M G σ H e Q' Q hs hr q o => ⟨F, M, G, e, _, hs, hr, q, fun x H1 F1 M1 d s1 r1 d1 q1 => ⟨F1, M1, G, e, _, hs.up s1, r1, q1, fun l H2 F2 M2 s2 r2 q2 => ⟨F2, M2, G, e, _, hs.up (s1.trans s2), r2, q2, fun h H3 F3 M3 s3 r3 q3 =>
    ⟨F3, M3, G, d, Q', r3, d1.up (s2.trans s3), q3, o.up ((s1.trans s2).trans s3)⟩⟩⟩⟩

variable {x : Str} {p : Pos} {r : VRs}
@[simp] def vCall (r : VRs) (t : VTA) : VTE := fun e M Q => t e M fun xs M1 => r xs M1 Q
theorem v_callB {id : String} (hc : CallR X (.builtin id) (ls X.K r)) (hm : X.mg x = none) (ha : VA X (e :: es) t) (hg : Gl X x := by rfl) (hv : bootBuiltins x = some (.builtin id) := by decide +kernel) (hn : x ≠ "__name__" := by decide) (hdb : (x == ("__debug__" : Str)) = false := by decide)
    (he : starEach (e :: es) X.env = (false, eval e X.env) :: starEach es X.env := by rfl) (hpl : (backTo pos (starEach es X.env)).any (·.1) = false := by rfl) : VE X (.Call (.Name x p) (e :: es) [] pos) (vCall r t) :=
  v_pe (pe_callB hc hg hm hv ha hn hdb he hpl) fun F M G σ H e Q' Q hs hr q o => ⟨F, M, G, e, _, hs, hr, q, fun vs H1 F1 M1 ds s1 r1 d1 q1 => ⟨F1, M1, G, ds, Q', r1, d1, q1, o.up s1⟩⟩
theorem v_callTy {T : String} (hc : CallR X (.type T) (ls X.K r)) (hm : X.mg x = none) (ha : VA X (e :: es) t) (hg : Gl X x := by rfl) (hv : bootBuiltins x = some (.type T) := by decide +kernel) (hn : x ≠ "__name__" := by decide) (hdb : (x == ("__debug__" : Str)) = false := by decide)
    (he : starEach (e :: es) X.env = (false, eval e X.env) :: starEach es X.env := by rfl) (hpl : (backTo pos (starEach es X.env)).any (·.1) = false := by rfl) : VE X (.Call (.Name x p) (e :: es) [] pos) (vCall r t) :=
  v_pe (pe_callTy hc hg hm hv ha hn hdb he hpl) fun F M G σ H e Q' Q hs hr q o => ⟨F, M, G, e, _, hs, hr, q, fun vs H1 F1 M1 ds s1 r1 d1 q1 => ⟨F1, M1, G, ds, Q', r1, d1, q1, o.up s1⟩⟩

variable {st : Stmt} {rest body : List Stmt} {u1 u2 : VTS} {g : VTG}
@[simp] def sNext : VTS := fun D e M => D.nx e M
@[simp] def sSeq (t u : VTS) : VTS := fun D e M => t { D with nx := u D } e M
@[simp] def sDrop (t : VTE) : VTS := fun D e M => t e M fun _ M1 => D.nx e M1
@[simp] def sRet (t : VTE) : VTS := fun D e M => t e M D.rt
@[simp] def sRetN : VTS := fun D _ M => D.rt .non M
@[simp] def sIf (c : VTT) (t u : VTS) : VTS := fun D e M => c e M fun b M1 => if b = true then t D e M1 else u D e M1
@[simp] def sAsg (t : VTE) (g : VTG) : VTS := fun D e M => t e M fun x M1 => g x e M1 D.nx
@[simp] def sNever : VTS := fun _ _ _ => False
theorem vs_ps {st : Stmt} {ts : TS} {t : VTS} (h : PS X st ts) (i : ∀ F M G σ H e D' D, SR X.K F σ e → Rel X.K F M G H → t D' e M → OutD X.K F G D' D → ts D σ H) : VS X st t :=
  PS_imp h fun D σ H ⟨F, M, G, e, D', h1, h2, h3, h4⟩ => i F M G σ H e D' D h1 h2 h3 h4
theorem vss_nil : VSs X [] sNext := PSs_imp pss_nil fun D σ H ⟨F, M, G, e, D', hs, hr, q, o⟩ => o.nx σ H F M e (Same.refl F) hr hs q
theorem vss_one (h : VS X st u1) : VSs X [st] u1 := pss_one h
theorem vss_cons (h1 : VS X st u1) (h2 : VSs X rest u2) : VSs X (st :: rest) (sSeq u1 u2) :=
  PSs_imp (pss_cons h1 h2) fun D σ H ⟨F, M, G, e, D', hs, hr, q, o⟩ => ⟨F, M, G, e, _, hs, hr, q, ⟨fun σ1 H1 F1 M1 e1 s1 r1 z1 q1 => ⟨F1, M1, G, e1, D', z1, r1, q1, o.up s1⟩, o.rt, o.bk, o.ct⟩⟩
theorem vs_pass : VS X (.Pass pos) sNext := vs_ps ps_pass fun F M G σ H e D' D hs hr q o => o.nx σ H F M e (Same.refl F) hr hs q
theorem vs_break : VS X (.Break pos) (fun D e M => D.bk e M) := vs_ps ps_break fun F M G σ H e D' D hs hr q o => o.bk σ H F M e (Same.refl F) hr hs q
theorem vs_continue : VS X (.Continue pos) (fun D e M => D.ct e M) := vs_ps ps_continue fun F M G σ H e D' D hs hr q o => o.ct σ H F M e (Same.refl F) hr hs q
theorem vs_never : VS X st sNever := vs_ps ps_never fun F M G σ H e D' D hs hr q o => q
theorem vss_never : VSs X rest sNever := PSs_imp pss_never fun D σ H ⟨F, M, G, e, D', hs, hr, q, o⟩ => q
theorem vs_expr (he : VE X e te) (hs : swapsWith e none pos.line X.env = pure false := by rfl) : VS X (.Expr e pos) (sDrop te) :=
  vs_ps (ps_expr he hs) fun F M G σ H e D' D hs hr q o => ⟨F, M, G, e, _, hs, hr, q, fun x H1 F1 M1 d s1 r1 d1 q1 => o.nx σ H1 F1 M1 e s1 r1 (hs.up s1) q1⟩
theorem vs_ret (he : VE X e te) : VS X (.Return (some e) pos) (sRet te) := vs_ps (ps_ret he) fun F M G σ H e D' D hs hr q o => ⟨F, M, G, e, _, hs, hr, q, o.rt⟩
theorem vs_retN : VS X (.Return none pos) sRetN := vs_ps ps_retN fun F M G σ H e D' D hs hr q o => o.rt _ H F M _ (Same.refl F) hr .non q
theorem vs_if {c : Expr} {s1 s2 : List Stmt} {tc : VTT} (hc : VT X c tc) (ha : VSs X s1 u1) (hb : VSs X s2 u2) : VS X (.If c s1 s2 pos) (sIf tc u1 u2) :=
  vs_ps (ps_if hc ha hb) fun F M G σ H e D' D hs hr q o => ⟨F, M, G, e, _, hs, hr, q, fun b H1 F1 M1 s1 r1 q1 => by
    cases b with
    | true => rw [if_pos rfl] at q1 ⊢; exact ⟨F1, M1, G, e, D', hs.up s1, r1, q1, o.up s1⟩
    | false => rw [if_neg Bool.false_ne_true] at q1 ⊢; exact ⟨F1, M1, G, e, D', hs.up s1, r1, q1, o.up s1⟩⟩
@[simp] def gN (i : Nat) : VTG := fun d e M Q => Q (e.set i (some d)) M
theorem vg_name {i : Nat} {tg : Expr} (h : PG X tg (gName i)) : VG X tg (gN i) := PG_imp h fun v σ H Q ⟨F, M, G, e, d, Q', hs, hr, dv, q, o⟩ => o _ H F M _ (Same.refl F) hr (hs.put dv i) q
def gNone : VTGs := fun ds e M Q => ds = [] ∧ Q e M
def gMore (t : VTG) (u : VTGs) : VTGs := fun ds e M Q => ∃ d r, ds = d :: r ∧ t d e M fun e1 M1 => u r e1 M1 Q
theorem vgs_nil : VGs X [] gNone := PGs_imp pgs_nil fun v σ H Q ⟨F, M, G, e, d, Q', hs, hr, dv, q, o⟩ => by
  obtain ⟨rfl, q⟩ := q
  cases dv
  exact ⟨rfl, o _ H F M _ (Same.refl F) hr hs q⟩
theorem vgs_cons {us : VTGs} (h1 : VG X e g) (h2 : VGs X es us) (hs : (assignEach (e :: es) X.env).map (·.2) = assign e X.env :: (assignEach es X.env).map (·.2) := by rfl) : VGs X (e :: es) (gMore g us) :=
  PGs_imp (pgs_cons h1 h2 hs) fun v σ H Q ⟨F, M, G, e, d, Q', hs, hr, dv, q, o⟩ => by
    obtain ⟨d, r, rfl, q⟩ := q
    cases dv with
    | cons z zs =>
      exact ⟨_, _, rfl, F, M, G, e, d, _, hs, hr, z, q, fun σ1 H1 F1 M1 e1 s1 r1 hs1 q1 => ⟨F1, M1, G, e1, r, Q', hs1, r1, zs.up s1, q1, o.up s1⟩⟩
@[simp] def gTp (n : Nat) (t : VTGs) : VTG := fun d e M Q => ∃ xs, d = .tup xs ∧ xs.length = n ∧ t xs e M Q
theorem vg_tup {k : Nat} {us : VTGs} {n : Nat} (hc : X.calm = true) (h : VGs X es us) (hn : (assignEach es X.env).length = n := by rfl) (hst : (assignEach es X.env).findIdx? (·.1) = none := by rfl) : VG X (.Tuple es k pos) (gTp n us) :=
  PG_imp (pg_tup hc h hn hst) fun v σ H Q ⟨F, M, G, e, d, Q', hs, hr, dv, q, o⟩ => by
    obtain ⟨xs, rfl, hl, q⟩ := q
    cases dv with
    | tup z zs => exact ⟨_, _, rfl, same_tup hr.sub z, by rw [zs.len]; exact hl, F, M, G, e, xs, Q', hs, hr, zs, q, o⟩
/-- o[i] = v, a list -/
@[simp] def gSubL (to ti : VTE) : VTG := fun d e M Q => to e M fun o M1 => ti e M1 fun i M2 => ∃ p xs k j, o = .obj p ∧ i = .int k ∧ M2 p = some (.lst xs) ∧ ixN xs.length k = some j ∧ Q e (mupd M2 p (.lst (xs.set j d)))
theorem vg_subL {o i : Expr} {to ti : VTE} (ho : VE X o to) (hi : VE X i ti)
    (ha : ∀ v, assign (.Subscript o i pos) X.env v = (do
      let ov ← holding [v] (eval o X.env)
      let iv ← holding [v, ov] (eval i X.env)
      standAt pos
      holding [v, ov, iv] (setItem ov iv v)
      release [v, ov, iv] []) := by intro _; rfl) : VG X (.Subscript o i pos) (gSubL to ti) :=
  PG_imp (pg_sub ho hi set_list ha) fun v σ H Q ⟨F, M, G, e, d, Q', hs, hr, dv, q, o⟩ => ⟨F, M, G, e, _, hs, hr, q, fun x H1 F1 M1 dx s1 r1 d1 q1 => ⟨F1, M1, G, e, _, hs.up s1, r1, q1, fun y H2 F2 M2 dy s2 r2 d2 q2 => by
    obtain ⟨p, xs, k, j, rfl, rfl, hp, hj, q2⟩ := q2
    cases d1; cases d2
    obtain ⟨_, _, ho, e1, vs, rfl, z⟩ := r2.ob p _ hp
    refine ⟨p, vs, k, j, rfl, rfl, e1, by rw [z.len]; exact hj, ?_⟩
    exact o _ _ _ _ _ (s1.trans s2) (r2.wr hp (m := .lst (xs.set j d)) ⟨_, rfl, z.set j (dv.up (s1.trans s2))⟩) (hs.up (s1.trans s2)) q2⟩⟩
theorem vs_asg {tg : Expr} (he : VE X e te) (hg : VG X tg g) (hs : swapsWithSole [tg] e pos.line X.env = pure false := by rfl) (hw : swappedStores [tg] e X.env = pure none := by rfl)
    (h1 : (assignEach [tg] X.env).map (·.2) = [assign tg X.env] := by rfl) : VS X (.Assign [tg] e pos) (sAsg te g) :=
  vs_ps (ps_asg he hg hs hw h1) fun F M G σ H e D' D hs hr q o => ⟨F, M, G, e, _, hs, hr, q, fun x H1 F1 M1 d s1 r1 d1 q1 => ⟨F1, M1, G, e, d, D'.nx, hs.up s1, r1, d1, q1, o.nx.up s1⟩⟩
theorem vs_set {i : Nat} {y : Str} {pos' : Pos} (hN : X.N.Nodup) (hi : X.N[i]? = some y) (hx : Loc X.env.scope y) (he : VE X e te) (hs : swapsWith e (some (.Name y pos')) pos.line X.env = pure false := by rfl)
    (hf : X.fn y = true ∨ X.env.scope.names.lookup y = some .local := by first | exact .inl rfl | exact .inr rfl | assumption) : VS X (.Assign [.Name y pos'] e pos) (sAsg te (gN i)) :=
  vs_ps (ps_set hN hi hx he hs hf) fun F M G σ H e D' D hs hr q o => ⟨F, M, G, e, _, hs, hr, q, fun x H1 F1 M1 d s1 r1 d1 q1 => o.nx _ H1 F1 M1 _ s1 r1 ((hs.up s1).put d1 i) q1⟩
@[simp] def sPar (i j : Nat) (t : VTA) : VTS := fun D e M => t e M fun ds M1 => ∃ v w, ds = [v, w] ∧ D.nx ((e.set i (some v)).set j (some w)) M1
theorem vs_par {i j : Nat} {y z : Str} {px py pt : Pos} {kt k2 pt2} (hc : X.calm = true) (hN : X.N.Nodup) (hi : X.N[i]? = some y) (hj : X.N[j]? = some z) (hij : i ≠ j)
    (hx : X.env.scope.names.lookup y = some .local) (hy : X.env.scope.names.lookup z = some .local) (ha : VA X [a, b] t)
    (hw : swappedStores [.Tuple [.Name y px, .Name z py] kt pt] (.Tuple [a, b] k2 pt2) X.env = pure (some [y, z]))
    (hs : swapsWithSole [.Tuple [.Name y px, .Name z py] kt pt] (.Tuple [a, b] k2 pt2) pos.line X.env = pure false := by rfl) :
    VS X (.Assign [.Tuple [.Name y px, .Name z py] kt pt] (.Tuple [a, b] k2 pt2) pos) (sPar i j t) :=
  vs_ps (ps_par hc hN hi hj hij hx hy ha hw hs) fun F M G σ H e D' D hs hr q o => ⟨F, M, G, e, _, hs, hr, q, fun vs H1 F1 M1 ds s1 r1 d1 q1 => by
    obtain ⟨v, w, rfl, q1⟩ := q1
    cases d1 with
    | cons z1 z2 =>
      cases z2 with
      | cons z2 z3 =>
        cases z3
        exact ⟨_, _, rfl, o.nx _ H1 F1 M1 _ s1 r1 (((hs.up s1).put z1 i).put z2 j) q1⟩⟩
def sWhile (c : VTT) (tb : VTS) : VTS := fun D e M => ∃ W : Nat → VEnv → Mem → Prop, (∃ m, W m e M) ∧ ∀ m e M, W m e M →
  c e M fun b M1 => if b = true then tb { D with nx := fun e' M' => ∃ m', m' < m ∧ W m' e' M', ct := fun e' M' => ∃ m', m' < m ∧ W m' e' M', bk := D.nx } e M1 else D.nx e M1
theorem vs_while {c : Expr} {tc : VTT} {tb : VTS} (hp : PassesOwn (model X.prog X.w) X.A X.env X.xe) (hc : VT X c tc) (hb : VSs X body tb) : VS X (.While c body [] pos) (sWhile tc tb) :=
  vs_ps (ps_while hp hc hb) fun F M G σ H e D' D hs hr ⟨W, ⟨m0, w0⟩, turn⟩ o => by
    refine ⟨fun m σ H => ∃ F1 M1 e1, Same F F1 ∧ SR X.K F1 σ e1 ∧ Rel X.K F1 M1 G H ∧ W m e1 M1, ⟨m0, F, M, e, Same.refl F, hs, hr, w0⟩, fun m σ1 H1 ⟨F1, M1, e1, s1, hs1, r1, w1⟩ => ?_⟩
    refine ⟨F1, M1, G, e1, _, hs1, r1, turn m e1 M1 w1, fun b H2 F2 M2 s2 r2 q2 => ?_⟩
    cases b with
    | true =>
      rw [if_pos rfl] at q2 ⊢
      have nx : OutS X.K F2 G (fun e' M' => ∃ m', m' < m ∧ W m' e' M') (fun σ' H' => ∃ m', m' < m ∧ ∃ F1 M1 e1, Same F F1 ∧ SR X.K F1 σ' e1 ∧ Rel X.K F1 M1 G H' ∧ W m' e1 M1) := fun σ3 H3 F3 M3 e3 s3 r3 hs3 ⟨m', hm, w'⟩ => ⟨m', hm, F3, M3, e3, (s1.trans s2).trans s3, hs3, r3, w'⟩
      exact ⟨fun σ' H' => ∃ m', m' < m ∧ ∃ F1 M1 e1, Same F F1 ∧ SR X.K F1 σ' e1 ∧ Rel X.K F1 M1 G H' ∧ W m' e1 M1, fun σ' H' z => z, F2, M2, G, e1, _, hs1.up s2, r2, q2, ⟨nx, o.rt.up (s1.trans s2), o.nx.up (s1.trans s2), nx⟩⟩
    | false =>
      rw [if_neg Bool.false_ne_true] at q2 ⊢
      exact o.nx σ1 H2 F2 M2 e1 (s1.trans s2) r2 (hs1.up s2) q2
end
end VL
namespace VL
open PySem PySem.Spec L2

structure VIt where
  ds : List D
  ok : Mem → Prop
abbrev VTI := VEnv → Mem → (VIt → Mem → Prop) → Prop
structure VWalk (K : PySem.W.Frag) (F : Hp) (J : It) (w : VIt) : Prop where
  goes : ∀ i H F1 G M, Same F F1 → Rel K F1 M G H → w.ok M → i < w.ds.length → J.go i H
  stops : ∀ H F1 G M, Same F F1 → Rel K F1 M G H → w.ok M → J.stop w.ds.length H
  yields : ∀ i H x H' F1 G M, Same F F1 → Rel K F1 M G H → w.ok M → i < w.ds.length → J.yld i H x H' → ∃ F2 d, Same F1 F2 ∧ Rel K F2 M G H' ∧ w.ds[i]? = some d ∧ DR K F2 x d
theorem VWalk.up {K : PySem.W.Frag} {F F' : Hp} {J : It} {w : VIt} (h : VWalk K F J w) (s : Same F F') : VWalk K F' J w :=
  ⟨fun i H F1 G M s1 => h.goes i H F1 G M (s.trans s1), fun H F1 G M s1 => h.stops H F1 G M (s.trans s1), fun i H x H' F1 G M s1 => h.yields i H x H' F1 G M (s.trans s1)⟩
def lI (K : PySem.W.Frag) (t : VTI) : TI := fun σ H R => ∃ F M G e R', SR K F σ e ∧ Rel K F M G H ∧ t e M R' ∧ ∀ J w H' F' M', Same F F' → Rel K F' M' G H' → VWalk K F' J w → R' w M' → R J H'
def VI (X : Cx) (tg iter : Expr) (t : VTI) : Prop := PI X tg iter (lI X.K t)
section
variable {X : Cx} {tg iter e a b : Expr} {te ta tb : VTE} {t : VTA} {pos : Pos}
theorem PI_imp {t t' : TI} (h : PI X tg iter t) (i : ∀ σ H Q, t' σ H Q → t σ H Q) : PI X tg iter t' := ⟨fun p s σ H Q I w => h.run p s σ H Q I (i _ _ _ w)⟩
/-- a list or a tuple -/
@[simp] def iSeq (te : VTE) : VTI := fun e M R => te e M fun d M1 => ∃ xs, asI M1 d = some xs ∧ R ⟨xs, fun M' => asI M' d = some xs⟩ M1
theorem walk_seq_l {K : PySem.W.Frag} {F : Hp} {d : D} {a : Addr} {xs : List D} (h : ∀ F1 G H M, Same F F1 → Rel K F1 M G H → asI M d = some xs → ∃ vs, SqL K H a vs ∧ DRs K F1 vs xs) : VWalk K F (Itl K a) ⟨xs, fun M => asI M d = some xs⟩ where
  goes := fun i H F1 G M s r ok hi => by
    obtain ⟨vs, q, z⟩ := h F1 G H M s r ok
    have hl : i < vs.length := by rw [z.len]; exact hi
    exact ⟨vs, vs[i], q, by simp [hl]⟩
  stops := fun H F1 G M s r ok => by
    obtain ⟨vs, q, z⟩ := h F1 G H M s r ok
    exact ⟨vs, q, by rw [z.len]; exact Nat.le_refl _⟩
  yields := fun i H x H' F1 G M s r ok hi y => by
    obtain ⟨vs, q, z⟩ := h F1 G H M s r ok
    obtain ⟨rfl, y⟩ := y
    obtain ⟨d, e1, e2⟩ := z.get (y vs q)
    exact ⟨F1, d, Same.refl F1, r, e1, e2⟩
theorem walk_seq_t {K : PySem.W.Frag} {F : Hp} {ok : Mem → Prop} {a : Addr} {xs : List D} {vs : List V} (h : SqT K F a vs) (z : DRs K F vs xs) : VWalk K F (Itt K a) ⟨xs, ok⟩ where
  goes := fun i H F1 G M s r _ hi => by
    have hl : i < vs.length := by rw [z.len]; exact hi
    exact ⟨vs, vs[i], same_tup r.sub (same_tup s h), by simp [hl]⟩
  stops := fun H F1 G M s r _ => ⟨vs, same_tup r.sub (same_tup s h), by rw [z.len]; exact Nat.le_refl _⟩
  yields := fun i H x H' F1 G M s r _ hi y => by
    obtain ⟨rfl, y⟩ := y
    obtain ⟨d, e1, e2⟩ := (z.up s).get (y vs (same_tup r.sub (same_tup s h)))
    exact ⟨F1, d, Same.refl F1, r, e1, e2⟩
theorem vi_seq (h : VE X e te) : VI X tg e (iSeq te) := by
  refine ⟨fun pins s σ H R I ⟨F, M, G, e', R', hs, hr, q, o⟩ => ?_⟩
  refine thn (h.run pins s σ H (fun v H1 => ∃ F1 M1 d, Same F F1 ∧ Rel X.K F1 M1 G H1 ∧ DR X.K F1 v d ∧ ∃ xs, asI M1 d = some xs ∧ R' ⟨xs, fun M' => asI M' d = some xs⟩ M1) I ⟨F, M, G, e', _, hs, hr, q, fun v H1 F1 M1 d s1 r1 d1 q1 => ⟨F1, M1, d, s1, r1, d1, q1⟩⟩)
    fun v s1 ⟨x, H1, I1, rx, F1, M1, d, s1', r1, d1, xs, ex, q1⟩ => ?_
  have tup : ∀ a vs, x = .ref a → SqT X.K F1 a vs → DRs X.K F1 vs xs → wpAny (model X.prog X.w) X.A (pyIter v) (PIE X pins σ tg R) X.xe s1 := fun a vs ea hq z => by
    subst ea
    cases rx
    obtain ⟨its, rv, p, hz⟩ := I1.tuple (same_tup r1.sub hq)
    refine wpAny_pyIter_tuple (show s1.heap.IsTuple a its.toArray from p) ?_
    refine ⟨s1.heap.objs.size, [s1.heap.objs.size], _, Itt X.K a, H1, rfl, I1.kept (t' := s1.toks) fun b o e => Heap.get?_push_of_some _ e, turn_tuple a _, ⟨_, Heap.get?_push_size _ rfl, rfl, rfl⟩, fun b hb => ?_, o _ _ H1 F1 M1 s1' r1 (walk_seq_t hq z) q1⟩
    have e : b = s1.heap.objs.size := by simpa using hb
    subst e
    exact I1.fpOk (Nat.le_refl _) (I1.hok.fresh (Nat.le_refl _))
  rcases asI_cases ex with rfl | el
  · cases d1 with
    | tup hq z => exact tup _ _ rfl hq z
  · obtain ⟨a, vs, rfl, hq, z⟩ := asL_at r1 d1 el
    have hd : d ≠ .tup xs := by
      rintro rfl
      cases el
    cases rx
    obtain ⟨its, rv, p, hz⟩ := I1.list hq
    refine wpAny_pyIter_list p.isList ?_
    refine ⟨s1.heap.objs.size, [s1.heap.objs.size], _, Itl X.K a, H1, rfl, I1.kept (t' := s1.toks) fun b o e => Heap.get?_push_of_some _ e, turn_list a _, ⟨_, Heap.get?_push_size _ rfl, rfl, rfl⟩, fun b hb => ?_, o _ _ H1 F1 M1 s1' r1 (walk_seq_l fun F2 G2 H2 M2 s2 r2 e2 => ?_) q1⟩
    · have e : b = s1.heap.objs.size := by simpa using hb
      subst e
      exact I1.fpOk (Nat.le_refl _) (I1.hok.fresh (Nat.le_refl _))
    · rcases asI_cases e2 with rfl | e2
      · exact absurd rfl hd
      · obtain ⟨a', vs', ea, hq', z'⟩ := asL_at r2 (d1.up s2) e2
        cases ea
        exact ⟨vs', hq', z'⟩

def rgD (lo : Int) (n : Nat) : List D := (List.range n).map fun i => D.int (lo + ((i : Nat) : Int))
theorem rgD_len {lo : Int} {n : Nat} : (rgD lo n).length = n := by simp [rgD]
theorem rgD_get {lo : Int} {n i : Nat} (h : i < n) : (rgD lo n)[i]? = some (.int (lo + ((i : Nat) : Int))) := by simp [rgD, h]
theorem walk_rg {K : PySem.W.Frag} {F : Hp} {lo : Int} {n : Nat} : VWalk K F (Itr lo n) ⟨rgD lo n, fun _ => True⟩ where
  goes := fun i H F1 G M s r _ hi => by rw [show (VIt.mk (rgD lo n) fun _ => True).ds.length = n from rgD_len] at hi; exact hi
  stops := fun H F1 G M s r _ => by rw [show (VIt.mk (rgD lo n) fun _ => True).ds.length = n from rgD_len]; exact Nat.le_refl _
  yields := fun i H x H' F1 G M s r _ hi y => by
    obtain ⟨rfl, rfl⟩ := y
    rw [show (VIt.mk (rgD lo n) fun _ => True).ds.length = n from rgD_len] at hi
    exact ⟨F1, _, Same.refl F1, r, rgD_get hi, .int _⟩
@[simp] def iRg1 (t : VTA) : VTI := fun e M R => t e M fun ds M1 => ∃ j, ds = [.int j] ∧ -4611686018427387904 ≤ j ∧ j < 4611686018427387904 ∧ R ⟨rgD 0 j.toNat, fun _ => True⟩ M1
@[simp] def iRg2 (t : VTA) : VTI := fun e M R => t e M fun ds M1 => ∃ i j, ds = [.int i, .int j] ∧ (-4611686018427387904 ≤ i ∧ i < 4611686018427387904 ∧ -4611686018427387904 ≤ j ∧ j < 4611686018427387904) ∧ R ⟨rgD i (j - i).toNat, fun _ => True⟩ M1
theorem vi_range1 {p : Pos} (hm : X.mg "range" = none) (ha : VA X [a] t) (hg : Gl X "range" := by rfl) (hs : starEach [a] X.env = [(false, eval a X.env)] := by rfl) : VI X tg (.Call (.Name "range" p) [a] [] pos) (iRg1 t) :=
  PI_imp (pi_range1 hg hm ha hs) fun σ H R ⟨F, M, G, e, R', hs, hr, q, o⟩ => ⟨F, M, G, e, _, hs, hr, q, fun vs H1 F1 M1 ds s1 r1 d1 q1 => by
    obtain ⟨j, rfl, h1, h2, q1⟩ := q1
    cases d1 with
    | cons z z2 =>
      cases z2
      cases z
      exact ⟨j, rfl, by omega, by omega, o _ _ H1 F1 M1 s1 r1 walk_rg q1⟩⟩
theorem vi_range2 {p : Pos} (hm : X.mg "range" = none) (ha : VA X [a, b] t) (hg : Gl X "range" := by rfl) (hs : starEach [a, b] X.env = [(false, eval a X.env), (false, eval b X.env)] := by rfl) (hs2 : starEach [b] X.env = [(false, eval b X.env)] := by rfl) : VI X tg (.Call (.Name "range" p) [a, b] [] pos) (iRg2 t) :=
  PI_imp (pi_range2 hg hm ha hs hs2) fun σ H R ⟨F, M, G, e, R', hs, hr, q, o⟩ => ⟨F, M, G, e, _, hs, hr, q, fun vs H1 F1 M1 ds s1 r1 d1 q1 => by
    obtain ⟨i, j, rfl, ⟨h1, h2, h3, h4⟩, q1⟩ := q1
    cases d1 with
    | cons z z2 =>
      cases z2 with
      | cons z2 z3 =>
        cases z3
        cases z
        cases z2
        exact ⟨i, j, rfl, ⟨by omega, by omega, by omega, by omega⟩, o _ _ H1 F1 M1 s1 r1 walk_rg q1⟩⟩

def sFor (ti : VTI) (g : VTG) (tb : VTS) : VTS := fun D e M => ti e M fun w M1 => ∃ P : Nat → VEnv → Mem → Prop, P 0 e M1 ∧ (∀ i e M, i ≤ w.ds.length → P i e M → w.ok M) ∧
  (∀ i d e M, w.ds[i]? = some d → P i e M → g d e M fun e2 M2 => tb { D with nx := P (i + 1), ct := P (i + 1), bk := D.nx } e2 M2) ∧ ∀ e M, P w.ds.length e M → D.nx e M
theorem vs_for {body : List Stmt} {ti : VTI} {g : VTG} {tb : VTS} (hp : PassesOwn (model X.prog X.w) X.A X.env X.xe) (hc : X.calm = true) (hi : VI X tg iter ti) (hg : VG X tg g) (hb : VSs X body tb)
    (hs : ∀ x, foldedSetIterable iter X.env x = pure x := by intro _; rfl) : VS X (.For tg iter body [] pos) (sFor ti g tb) :=
  vs_ps (ps_for hp hc hi hg hb hs) fun F M G σ H e D' D hs hr q o => ⟨F, M, G, e, _, hs, hr, q, fun J w H1 F1 M1 s1 r1 hw ⟨P, p0, pok, pt, pe⟩ => by
    refine ⟨fun i m σ H => ∃ F2 M2 e2, Same F1 F2 ∧ SR X.K F2 σ e2 ∧ Rel X.K F2 M2 G H ∧ i ≤ w.ds.length ∧ m = w.ds.length - i ∧ P i e2 M2, ⟨_, F1, M1, e, Same.refl F1, hs.up s1, r1, Nat.zero_le _, rfl, p0⟩, ?_⟩
    rintro i m σ2 H2 ⟨F2, M2, e2, s2, hs2, r2, hi, rfl, p⟩
    by_cases hlt : i < w.ds.length
    · refine .inr ⟨hw.goes i H2 F2 G M2 s2 r2 (pok i e2 M2 hi p) hlt, fun σ' H' => ∃ F2 M2 e2, Same F1 F2 ∧ SR X.K F2 σ' e2 ∧ Rel X.K F2 M2 G H' ∧ P (i + 1) e2 M2, fun σ' H' ⟨F3, M3, e3, s3, hs3, r3, p3⟩ => ⟨_, by omega, F3, M3, e3, s3, hs3, r3, hlt, rfl, p3⟩, fun x H' y => ?_⟩
      obtain ⟨F3, d, s3, r3, hd, dx⟩ := hw.yields i H2 x H' F2 G M2 s2 r2 (pok i e2 M2 hi p) hlt y
      refine ⟨F3, M2, G, e2, d, _, hs2.up s3, r3, dx, pt i d e2 M2 hd p, fun σ4 H4 F4 M4 e4 s4 r4 hs4 q4 => ?_⟩
      have s14 := ((s2.trans s3).trans s4)
      have nx : OutS X.K F4 G (P (i + 1)) (fun σ' H' => ∃ F2 M2 e2, Same F1 F2 ∧ SR X.K F2 σ' e2 ∧ Rel X.K F2 M2 G H' ∧ P (i + 1) e2 M2) := fun σ5 H5 F5 M5 e5 s5 r5 hs5 q5 => ⟨F5, M5, e5, s14.trans s5, hs5, r5, q5⟩
      exact ⟨F4, M4, G, e4, _, hs4, r4, q4, ⟨nx, o.rt.up (s1.trans s14), o.nx.up (s1.trans s14), nx⟩⟩
    · have ei : i = w.ds.length := by omega
      subst ei
      exact .inl ⟨hw.stops H2 F2 G M2 s2 r2 (pok _ e2 M2 hi p), o.nx σ2 H2 F2 M2 e2 (s1.trans s2) r2 hs2 (pe e2 M2 p)⟩⟩

def VTs (X : Cx) (es : List Expr) (t : VTT) : Prop := PTs X es (lT X.K t)
@[simp] def vYes : VTT := fun _ M Q => Q true M
theorem PTs_imp {es : List Expr} {t t' : TT} (h : PTs X es t) (i : ∀ σ H Q, t' σ H Q → t σ H Q) : PTs X es t' := ⟨fun p s σ H Q I w => h.run p s σ H Q I (i _ _ _ w)⟩
theorem vts_nil : VTs X [] vYes := PTs_imp pts_nil fun σ H Q ⟨F, M, G, e, Q', hs, hr, q, o⟩ => o true H F M (Same.refl F) hr q
theorem vts_one {c : Expr} {t : VTT} (h : VT X c t) : VTs X [c] t := pts_one h
def vLc (ti : VTI) (g : VTG) (tt : VTT) (te : VTE) (vs : List Nat) : VTE := fun e M Q => ti e M fun w M1 => ∃ P : Nat → List D → Mem → Prop, P 0 [] M1 ∧ (∀ i acc M, i ≤ w.ds.length → P i acc M → w.ok M) ∧
  (∀ i d acc M, w.ds[i]? = some d → P i acc M → g d (vwipe e vs) M fun e2 M2 => tt e2 M2 fun b M3 => if b = true then te e2 M3 fun y M4 => acc.length < sizeLine ∧ P (i + 1) (acc ++ [y]) M4 else P (i + 1) acc M3) ∧
  ∀ acc M, P w.ds.length acc M → Q (.lst acc) M
/-- .. a list that may change -/
def vLcO (ti : VTI) (g : VTG) (tt : VTT) (te : VTE) (vs : List Nat) : VTE := fun e M Q => ti e M fun w M1 => ∃ P : Nat → List D → Mem → Prop, P 0 [] M1 ∧ (∀ i acc M, i ≤ w.ds.length → P i acc M → w.ok M) ∧
  (∀ i d acc M, w.ds[i]? = some d → P i acc M → g d (vwipe e vs) M fun e2 M2 => tt e2 M2 fun b M3 => if b = true then te e2 M3 fun y M4 => acc.length < sizeLine ∧ P (i + 1) (acc ++ [y]) M4 else P (i + 1) acc M3) ∧
  ∀ acc M, P w.ds.length acc M → ∀ p, M p = none → Q (.obj p) (mupd M p (.lst acc))
/-- own targets: only they may be stored -/
def GOwn (g : TG) (vs : List Nat) : Prop := ∀ v σ H (Q : L2.St → Hp → Prop), g v σ H Q → g v σ H fun σ2 H2 => wipe σ2 vs = wipe σ vs ∧ Q σ2 H2
theorem wipe_get (σ : L2.St) (i : Nat) : ∀ vs : List Nat, (wipe σ vs)[i]? = if i ∈ vs then (σ[i]?).map (fun _ => none) else σ[i]?
  | [] => by simp [wipe]
  | v :: vs => by
    unfold wipe
    rw [List.getElem?_set]
    have ih := wipe_get σ i vs
    by_cases h : v = i
    · subst h
      rw [if_pos rfl, if_pos List.mem_cons_self, wipe_length]
      by_cases hl : v < σ.length
      · rw [if_pos hl, List.getElem?_eq_getElem hl] <;> rfl
      · rw [if_neg hl, List.getElem?_eq_none (by omega)] <;> rfl
    · rw [if_neg h, ih]
      have : (i ∈ v :: vs) = (i ∈ vs) := by simp [List.mem_cons, Ne.symm h]
      simp only [this]
theorem wipe_wipe (σ : L2.St) (vs : List Nat) : wipe (wipe σ vs) vs = wipe σ vs := by
  apply List.ext_getElem?
  intro i
  rw [wipe_get, wipe_get]
  by_cases h : i ∈ vs
  · rw [if_pos h, if_pos h, Option.map_map] <;> rfl
  · rw [if_neg h, if_neg h]
theorem wipe_set (σ : L2.St) (vs : List Nat) (j : Nat) (x : Option V) (hj : j ∈ vs) : wipe (σ.set j x) vs = wipe σ vs := by
  apply List.ext_getElem?
  intro i
  rw [wipe_get, wipe_get]
  by_cases h : i ∈ vs
  · rw [if_pos h, if_pos h, List.getElem?_set]
    by_cases e : j = i
    · subst e
      rw [if_pos rfl]
      by_cases hl : j < σ.length
      · rw [if_pos hl, List.getElem?_eq_getElem hl] <;> rfl
      · rw [if_neg hl, List.getElem?_eq_none (by omega)]
    · rw [if_neg e]
  · rw [if_neg h, if_neg h, List.getElem?_set_ne (fun e : j = i => h (by rw [← e]; exact hj))]
theorem own_name {i : Nat} {vs : List Nat} (h : i ∈ vs) : GOwn (gName i) vs := fun v σ H Q q => ⟨wipe_set σ vs i _ h, q⟩
def GsOwn (g : TGs) (vs : List Nat) : Prop := ∀ v σ H (Q : L2.St → Hp → Prop), g v σ H Q → g v σ H fun σ2 H2 => wipe σ2 vs = wipe σ vs ∧ Q σ2 H2
theorem own_nil {vs : List Nat} : GsOwn gNil vs := fun v σ H Q ⟨e, q⟩ => ⟨e, rfl, q⟩
theorem own_cons {t : TG} {u : TGs} {vs : List Nat} (h1 : GOwn t vs) (h2 : GsOwn u vs) (m1 : ∀ v σ H Q Q', (∀ σ H, Q σ H → Q' σ H) → t v σ H Q → t v σ H Q') (m2 : ∀ v σ H Q Q', (∀ σ H, Q σ H → Q' σ H) → u v σ H Q → u v σ H Q') : GsOwn (gCons t u) vs := fun v σ H Q ⟨x, r, e, q⟩ =>
  ⟨x, r, e, m1 _ _ _ _ _ (fun σ1 H1 ⟨w1, q1⟩ => m2 _ _ _ _ _ (fun σ2 H2 ⟨w2, q2⟩ => ⟨w2.trans w1, q2⟩) (h2 _ _ _ _ q1)) (h1 _ _ _ _ q)⟩
theorem own_tup {K : PySem.W.Frag} {n : Nat} {t : TGs} {vs : List Nat} (h : GsOwn t vs) : GOwn (gTup K n t) vs := fun v σ H Q ⟨a, xs, e, hq, hl, q⟩ => ⟨a, xs, e, hq, hl, h _ _ _ _ q⟩
/-- how the slots that are wiped agree -/
theorem lc_lift {ti : VTI} {g : VTG} {g0 : TG} {tt : VTT} {te : VTE} {vs : List Nat} {F G H : Hp} {M : Mem} {σ : L2.St} {e : VEnv} {Qf : List D → Mem → Prop} {Q : L2.VK} (hs : SR X.K F σ e) (hr : Rel X.K F M G H)
    (hg0 : ∀ v σ H Q, lG X.K g v σ H Q → g0 v σ H Q) (hown : GOwn g0 vs)
    (q : ti e M fun w M1 => ∃ P : Nat → List D → Mem → Prop, P 0 [] M1 ∧ (∀ i acc M, i ≤ w.ds.length → P i acc M → w.ok M) ∧
      (∀ i d acc M, w.ds[i]? = some d → P i acc M → g d (vwipe e vs) M fun e2 M2 => tt e2 M2 fun b M3 => if b = true then te e2 M3 fun y M4 => acc.length < sizeLine ∧ P (i + 1) (acc ++ [y]) M4 else P (i + 1) acc M3) ∧
      ∀ acc M, P w.ds.length acc M → Qf acc M)
    (o : ∀ D H F' M acc accV, Same F F' → Rel X.K F' M (upd G D (.lst accV)) H → G D = none → DRs X.K F' accV acc → Qf acc M → Q (.ref D) H) : tLc (lI X.K ti) g0 (lT X.K tt) (lE X.K te) vs σ H Q := by
  refine ⟨F, M, G, e, _, hs, hr, q, fun J w H1 F1 M1 s1 r1 hw ⟨P, p0, pok, pt, pe⟩ D hD => ?_⟩
  have gD : G D = none := r1.g0 hD
  refine ⟨fun i m H => ∃ F2 M2 acc accV, Same F1 F2 ∧ Rel X.K F2 M2 (upd G D (.lst accV)) H ∧ DRs X.K F2 accV acc ∧ i ≤ w.ds.length ∧ m = w.ds.length - i ∧ P i acc M2, ⟨_, F1, M1, [], [], Same.refl F1, r1.hide hD, .nil, Nat.zero_le _, rfl, p0⟩, ?_⟩
  rintro i m H2 ⟨F2, M2, acc, accV, s2, r2, za, hi, rfl, p⟩
  by_cases hlt : i < w.ds.length
  · refine .inr ⟨hw.goes i H2 F2 _ M2 s2 r2 (pok i acc M2 hi p) hlt, fun H' => ∃ F2 M2 acc accV, Same F1 F2 ∧ Rel X.K F2 M2 (upd G D (.lst accV)) H' ∧ DRs X.K F2 accV acc ∧ P (i + 1) acc M2, fun H' ⟨F3, M3, acc3, accV3, s3, r3, z3, p3⟩ => ⟨_, by omega, F3, M3, acc3, accV3, s3, r3, z3, hlt, rfl, p3⟩, fun x H' y => ?_⟩
    obtain ⟨F3, d, s3, r3, hd, dx⟩ := hw.yields i H2 x H' F2 _ M2 s2 r2 (pok i acc M2 hi p) hlt y
    have hw2 := wipe_wipe σ vs
    have key := hown x (wipe σ vs) H' _ (hg0 x _ _ _ ⟨F3, M2, upd G D (.lst accV), vwipe e vs, d, _, (hs.wiped vs).up ((s1.trans s2).trans s3), r3, dx, pt i d acc M2 hd p, fun σ4 H4 F4 M4 e4 s4 r4 hs4 q4 => (?_ : (fun σ2 H2 => lT X.K tt σ2 H2 fun b H3 => if b = true then lE X.K te σ2 H3 fun y H4 => ∃ acc, H4 D = some (.lst acc) ∧ acc.length < sizeLine ∧ ∃ F2 M2 ac accV, Same F1 F2 ∧ Rel X.K F2 M2 (upd G D (.lst accV)) (upd H4 D (.lst (acc ++ [y]))) ∧ DRs X.K F2 accV ac ∧ P (i + 1) ac M2 else ∃ F2 M2 acc accV, Same F1 F2 ∧ Rel X.K F2 M2 (upd G D (.lst accV)) H3 ∧ DRs X.K F2 accV acc ∧ P (i + 1) acc M2) σ4 H4)⟩)
    · rw [hw2] at key; exact key
    refine ⟨F4, M4, upd G D (.lst accV), e4, _, hs4, r4, q4, fun b H5 F5 M5 s5 r5 q5 => ?_⟩
    have s15 := (((s2.trans s3).trans s4).trans s5)
    show (if b = true then _ else _)
    cases b with
    | true =>
      rw [if_pos rfl] at q5 ⊢
      refine ⟨F5, M5, upd G D (.lst accV), e4, _, hs4.up s5, r5, q5, fun v H6 F6 M6 dy s6 r6 d6 ⟨hz, q6⟩ => ?_⟩
      have za6 := za.up ((((s3.trans s4).trans s5).trans s6))
      refine ⟨accV, r6.hid D _ upd_same, by rw [za.len]; exact hz, F6, M6, acc ++ [dy], accV ++ [v], s15.trans s6, ?_, za6.app (.cons d6 .nil), q6⟩
      have := r6.hwr (o := .lst (accV ++ [v])) (u := .lst accV) upd_same
      rw [upd_upd] at this
      exact this
    | false =>
      rw [if_neg Bool.false_ne_true] at q5 ⊢
      exact ⟨F5, M5, acc, accV, s15, r5, za.up ((s3.trans s4).trans s5), q5⟩
  · have ei : i = w.ds.length := by omega
    subst ei
    exact .inl ⟨hw.stops H2 F2 _ M2 s2 r2 (pok _ acc M2 hi p), o D H2 F2 M2 acc accV (s1.trans s2) r2 gD za (pe acc M2 p)⟩

/-- a comprehension's target -/
structure LcG (X : Cx) (tg : Expr) (scope : Scope) (g : VTG) (g0 : TG) (vs : List Nat) : Prop where
  pg : ∀ (s : Shared) (H : Hp) (C : Addr) (cl : List (Str × Addr)) (fp : List Addr), PG (X.blk s H scope (compEnvC scope cl C X.env) fp) tg g0
  lift : ∀ v σ H Q, lG X.K g v σ H Q → g0 v σ H Q
  own : GOwn g0 vs
  mono : ∀ v σ H Q Q', (∀ σ H, Q σ H → Q' σ H) → g0 v σ H Q → g0 v σ H Q'
structure LcGs (X : Cx) (tgs : List Expr) (scope : Scope) (g : VTGs) (g0 : TGs) (vs : List Nat) : Prop where
  pg : ∀ (s : Shared) (H : Hp) (C : Addr) (cl : List (Str × Addr)) (fp : List Addr), PGs (X.blk s H scope (compEnvC scope cl C X.env) fp) tgs g0
  lift : ∀ v σ H Q, lGs X.K g v σ H Q → g0 v σ H Q
  own : GsOwn g0 vs
  mono : ∀ v σ H Q Q', (∀ σ H, Q σ H → Q' σ H) → g0 v σ H Q → g0 v σ H Q'
theorem lcg_name {scope : Scope} {vs : List Nat} {i : Nat} (h : ∀ (s : Shared) (H : Hp) (C : Addr) (cl : List (Str × Addr)) (fp : List Addr), PG (X.blk s H scope (compEnvC scope cl C X.env) fp) tg (gName i)) (m : i ∈ vs := by decide) : LcG X tg scope (gN i) (gName i) vs :=
  ⟨h, fun v σ H Q ⟨F, M, G, e, d, Q', hs, hr, dv, q, o⟩ => o _ H F M _ (Same.refl F) hr (hs.put dv i) q, own_name m, fun v σ H Q Q' i q => i _ _ q⟩
theorem lcgs_nil {scope : Scope} {vs : List Nat} : LcGs X [] scope gNone gNil vs :=
  ⟨fun _ _ _ _ _ => pgs_nil, fun v σ H Q ⟨F, M, G, e, d, Q', hs, hr, dv, q, o⟩ => by
    obtain ⟨rfl, q⟩ := q
    cases dv
    exact ⟨rfl, o _ H F M _ (Same.refl F) hr hs q⟩, own_nil, fun v σ H Q Q' i q => ⟨q.1, i _ _ q.2⟩⟩
theorem lcgs_cons {es : List Expr} {scope : Scope} {vs : List Nat} {g : VTG} {g0 : TG} {us : VTGs} {u0 : TGs} (h1 : LcG X e scope g g0 vs) (h2 : LcGs X es scope us u0 vs)
    (hs : ∀ env, (assignEach (e :: es) env).map (·.2) = assign e env :: (assignEach es env).map (·.2) := by intro _; rfl) : LcGs X (e :: es) scope (gMore g us) (gCons g0 u0) vs :=
  ⟨fun s H C cl fp => pgs_cons (h1.pg s H C cl fp) (h2.pg s H C cl fp) (hs _), fun v σ H Q ⟨F, M, G, e, d, Q', hs, hr, dv, q, o⟩ => by
    obtain ⟨d, r, rfl, q⟩ := q
    cases dv with
    | cons z zs =>
      refine ⟨_, _, rfl, h1.lift _ _ _ _ ⟨F, M, G, e, d, _, hs, hr, z, q, fun σ1 H1 F1 M1 e1 s1 r1 hs1 q1 => h2.lift _ _ _ _ ⟨F1, M1, G, e1, r, Q', hs1, r1, zs.up s1, q1, o.up s1⟩⟩⟩,
    own_cons h1.own h2.own h1.mono h2.mono, fun v σ H Q Q' i ⟨x, r, e, q⟩ => ⟨x, r, e, h1.mono _ _ _ _ _ (fun _ _ q => h2.mono _ _ _ _ _ i q) q⟩⟩
theorem lcg_tup {es : List Expr} {scope : Scope} {vs : List Nat} {us : VTGs} {u0 : TGs} {k n : Nat} (hc : X.calm = true) (h : LcGs X es scope us u0 vs) (hn : ∀ env, (assignEach es env).length = n := by intro _; rfl) (hst : ∀ env, (assignEach es env).findIdx? (·.1) = none := by intro _; rfl) :
    LcG X (.Tuple es k pos) scope (gTp n us) (gTup X.K n u0) vs :=
  ⟨fun s H C cl fp => pg_tup hc (h.pg s H C cl fp) (hn _) (hst _), fun v σ H Q ⟨F, M, G, e, d, Q', hs, hr, dv, q, o⟩ => by
    obtain ⟨xs, rfl, hl, q⟩ := q
    cases dv with
    | tup z zs => exact ⟨_, _, rfl, same_tup hr.sub z, by rw [zs.len]; exact hl, h.lift _ _ _ _ ⟨F, M, G, e, xs, Q', hs, hr, zs, q, o⟩⟩,
    own_tup h.own, fun v σ H Q Q' i ⟨a, xs, e, hq, hl, q⟩ => ⟨a, xs, e, hq, hl, h.mono _ _ _ _ _ i q⟩⟩
section
variable {elt : Expr} {ifs : List Expr} {scope : Scope} {own : List (Str × Nat)} {ti : VTI} {g : VTG} {g0 : TG} {tt : VTT}
theorem lc_out {F G : Hp} {Q' : VK} {Q : L2.VK} (o : OutE X.K F G Q' Q) : ∀ D H F' M acc accV, Same F F' → Rel X.K F' M (upd G D (.lst accV)) H → G D = none → DRs X.K F' accV acc → Q' (.lst acc) M → Q (.ref D) H := fun D H F' M acc accV s r gD z q => by
  obtain ⟨s2, r2⟩ := r.give gD
  exact o _ _ _ _ _ (s.trans s2) r2 (.lst upd_same (z.up s2)) q
theorem v_lc (hc : X.calm = true) (hN : X.N.Nodup) (hi : VI X tg iter ti) (ok : BlkOk X.N X.env.scope scope own) (hg : LcG X tg scope g g0 (own.map (·.2)))
    (ht : ∀ (s : Shared) (H : Hp) (C : Addr) (cl : List (Str × Addr)) (fp : List Addr), VTs (X.blk s H scope (compEnvC scope cl C X.env) fp) ifs tt)
    (he : ∀ (s : Shared) (H : Hp) (C : Addr) (cl : List (Str × Addr)) (fp : List Addr), VE (X.blk s H scope (compEnvC scope cl C X.env) fp) elt te) (hs : ∀ x, foldedSetIterable iter X.env x = pure x := by intro _; rfl) :
    VE X (.ListComp elt [⟨tg, iter, ifs, 0⟩] scope pos) (vLc ti g tt te (own.map (·.2))) :=
  v_pe (pe_lc (tt := lT X.K tt) (te := lE X.K te) hc hN hi ok hg.pg ht he hs) fun F M G σ H e Q' Q hs hr q o => lc_lift hs hr hg.lift hg.own q (lc_out o)
theorem lc_outO {F G : Hp} {Q' : VK} {Q : L2.VK} (o : OutE X.K F G Q' Q) : ∀ D H F' M acc accV, Same F F' → Rel X.K F' M (upd G D (.lst accV)) H → G D = none → DRs X.K F' accV acc → (∀ p, M p = none → Q' (.obj p) (mupd M p (.lst acc))) → Q (.ref D) H := fun D H F' M acc accV s r gD z q => by
  have hm : M D = none := by
    cases e : M D with
    | none => rfl
    | some m =>
      have := (r.ob D m e).2.1
      rw [upd_same] at this; cases this
  exact o _ _ _ _ _ s (r.giveM (m := .lst acc) gD ⟨accV, rfl, z⟩ hm) (.obj D) (q D hm)
theorem v_lcO (hc : X.calm = true) (hN : X.N.Nodup) (hi : VI X tg iter ti) (ok : BlkOk X.N X.env.scope scope own) (hg : LcG X tg scope g g0 (own.map (·.2)))
    (ht : ∀ (s : Shared) (H : Hp) (C : Addr) (cl : List (Str × Addr)) (fp : List Addr), VTs (X.blk s H scope (compEnvC scope cl C X.env) fp) ifs tt)
    (he : ∀ (s : Shared) (H : Hp) (C : Addr) (cl : List (Str × Addr)) (fp : List Addr), VE (X.blk s H scope (compEnvC scope cl C X.env) fp) elt te) (hs : ∀ x, foldedSetIterable iter X.env x = pure x := by intro _; rfl) :
    VE X (.ListComp elt [⟨tg, iter, ifs, 0⟩] scope pos) (vLcO ti g tt te (own.map (·.2))) :=
  v_pe (pe_lc (tt := lT X.K tt) (te := lE X.K te) hc hN hi ok hg.pg ht he hs) fun F M G σ H e Q' Q hs hr q o => lc_lift (Qf := fun acc M => ∀ p, M p = none → Q' (.obj p) (mupd M p (.lst acc))) hs hr hg.lift hg.own q (lc_outO o)
theorem vs_setLc {i : Nat} {y : Str} {py : Pos} {spos : Pos} (hc : X.calm = true) (hN : X.N.Nodup) (hy : X.N[i]? = some y) (hyl : X.env.scope.names.lookup y = some .local)
    (hsw : swapsWith (.ListComp elt [⟨tg, iter, ifs, 0⟩] scope pos) (some (.Name y py)) spos.line X.env = pure true) (hi : VI X tg iter ti) (ok : BlkOk X.N X.env.scope scope own) (hg : LcG X tg scope g g0 (own.map (·.2)))
    (ht : ∀ (s : Shared) (H : Hp) (C : Addr) (cl : List (Str × Addr)) (fp : List Addr), VTs (X.blk s H scope (compEnvC scope cl C X.env) fp) ifs tt)
    (he : ∀ (s : Shared) (H : Hp) (C : Addr) (cl : List (Str × Addr)) (fp : List Addr), VE (X.blk s H scope (compEnvC scope cl C X.env) fp) elt te) (hs : ∀ x, foldedSetIterable iter X.env x = pure x := by intro _; rfl) :
    VS X (.Assign [.Name y py] (.ListComp elt [⟨tg, iter, ifs, 0⟩] scope pos) spos) (sAsg (vLc ti g tt te (own.map (·.2))) (gN i)) :=
  vs_ps (ps_setLc (tt := lT X.K tt) (te := lE X.K te) hc hN hy hyl hsw hi ok hg.pg ht he hs) fun F M G σ H e D' D hs hr q o =>
    lc_lift hs hr hg.lift hg.own q (lc_out (Q := fun x H1 => gName i x σ H1 D.nx) fun v H1 F1 M1 d s1 r1 d1 q1 => o.nx _ H1 F1 M1 _ s1 r1 ((hs.up s1).put d1 i) q1)
theorem vs_setLcO {i : Nat} {y : Str} {py : Pos} {spos : Pos} (hc : X.calm = true) (hN : X.N.Nodup) (hy : X.N[i]? = some y) (hyl : X.env.scope.names.lookup y = some .local)
    (hsw : swapsWith (.ListComp elt [⟨tg, iter, ifs, 0⟩] scope pos) (some (.Name y py)) spos.line X.env = pure true) (hi : VI X tg iter ti) (ok : BlkOk X.N X.env.scope scope own) (hg : LcG X tg scope g g0 (own.map (·.2)))
    (ht : ∀ (s : Shared) (H : Hp) (C : Addr) (cl : List (Str × Addr)) (fp : List Addr), VTs (X.blk s H scope (compEnvC scope cl C X.env) fp) ifs tt)
    (he : ∀ (s : Shared) (H : Hp) (C : Addr) (cl : List (Str × Addr)) (fp : List Addr), VE (X.blk s H scope (compEnvC scope cl C X.env) fp) elt te) (hs : ∀ x, foldedSetIterable iter X.env x = pure x := by intro _; rfl) :
    VS X (.Assign [.Name y py] (.ListComp elt [⟨tg, iter, ifs, 0⟩] scope pos) spos) (sAsg (vLcO ti g tt te (own.map (·.2))) (gN i)) :=
  vs_ps (ps_setLc (tt := lT X.K tt) (te := lE X.K te) hc hN hy hyl hsw hi ok hg.pg ht he hs) fun F M G σ H e D' D hs hr q o =>
    lc_lift (Qf := fun acc M => ∀ p, M p = none → D'.nx (e.set i (some (.obj p))) (mupd M p (.lst acc))) hs hr hg.lift hg.own q (lc_outO (Q' := fun d M => D'.nx (e.set i (some d)) M) (Q := fun x H1 => gName i x σ H1 D.nx) fun v H1 F1 M1 d s1 r1 d1 q1 => o.nx _ H1 F1 M1 _ s1 r1 ((hs.up s1).put d1 i) q1)
end
end
abbrev VSp := List D → Mem → VK → Prop
def lSp (K : PySem.W.Frag) (φ : VSp) : Sp := fun vs H Q _ => ∃ F M G ds Q', DRs K F vs ds ∧ Rel K F M G H ∧ φ ds M Q' ∧ OutE K F G Q' Q
end VL
namespace VL
open PySem PySem.Spec L2
open PyProof.Rows (envOfC IntsAre AllBare)

structure RmG (k : Nat) (A : Around) : Prop where
  r : Room k A
  g : A.guards = some []
theorem RmG.mono {j k : Nat} {A : Around} (h : RmG k A) (l : j ≤ k) : RmG j A := ⟨h.r.mono l, h.g⟩
structure FnG (P : Program) (w : World) (K : PySem.W.Frag) (mg : Str → Option Value) (base : Heap) (CX : CXT) (k : Nat) (f : Addr) (fd : FuncData) (ps : List Str) (sp : Sp) : Prop where
  len : ∀ vs H Q E, sp vs H Q E → vs.length = ps.length
  run : ∀ (A : Around) (outer : List Env) (s : Shared) (H : Hp) (args : Args) (us : List Value) (vs : List V) (Q : L2.VK) (E : XK), RmG k A → Env0 P w K mg base A outer s H →
    BindsTo s fd args (ps.zip us) → Vals vs us → sp vs H Q E → codeAny (model P w) A (.call (.ref f) args) (CR CX outer P w H s Q E) s
theorem FnG.mono {P : Program} {w : World} {K : PySem.W.Frag} {mg : Str → Option Value} {base : Heap} {CX : CXT} {j k : Nat} {f : Addr} {fd : FuncData} {ps : List Str} {sp : Sp} (F : FnG P w K mg base CX j f fd ps sp) (l : j ≤ k) : FnG P w K mg base CX k f fd ps sp :=
  ⟨F.len, fun A outer s H args us vs Q E hr => F.run A outer s H args us vs Q E (hr.mono l)⟩
/-- a def by its body, the guards known -/
theorem fnG_of {CX : CXT} {P : Program} {w : World} {K : PySem.W.Frag} {mg : Str → Option Value} {base : Heap} {k : Nat} {f : Addr} {nm ql : Str} {pa : Arguments} {bd : List Stmt} {sc : Scope} {dV kV doc pm cdv ct oc : Value} {an od : Option Addr}
    {osl : Array (Option Value)} {N ps : List Str} {sp : Sp} (atf : K.lookup f = some ⟨oc, od, .func (PySem.W.fnOf nm ql pa bd sc dV kV doc pm an cdv ct), osl⟩) (code : PySem.W.codeIn K cdv ql = true) (S : FnScope N ps sc)
    (len : ∀ vs H Q E, sp vs H Q E → vs.length = ps.length)
    (body : ∀ (A : Around) (outer : List Env) (s : Shared) (H : Hp) (vs : List V) (Q : L2.VK) (E : XK), RmG k (A.deeper (envOfC ql sc s.heap.objs.size f cdv)) → sp vs H Q E →
      ∃ t, PSs (cxOf CX P w K mg base N ql sc f cdv A outer s H E) bd t ∧ t { nx := fun _ H' => Q .non H', rt := Q } (start N vs) H) :
    FnG P w K mg base CX (k + 1) f (PySem.W.fnOf nm ql pa bd sc dV kV doc pm an cdv ct) ps sp := by
  refine ⟨len, fun A out s0 H0 args us vs Q E room env bind rel promise => ?_⟩
  have kin : K.In s0.heap := env.mod.kin.keeps fun b o e => (env.bs b o e).1
  have nolim : s0.heap.NoLimit := env.mod.nolimit.keeps fun b o e => (env.bs b o e).1
  have kinds : ∀ y ∈ ps.zip us, sc.names.lookup y.1 = some .local ∨
      (sc.names.lookup y.1 = some .cell ∧ ((cellsFrom (s0.heap.objs.size + 1) sc.names []).lookup y.1).isSome = true) := fun y hy => by
    have z := List.of_mem_zip (show (y.1, y.2) ∈ ps.zip us from hy)
    exact (S.par y.1 z.1).imp id fun q => ⟨q, PySem.W.cellsFrom_some _ _ _ (.inl q)⟩
  apply codeAny_call_function room.r.depth (kin _ _ atf) rfl S.co S.gen rfl (PySem.W.codeRec_of kin code)
  apply bind
  apply wpAny_newFunctionEnv_cells S.kind kinds
  intro env1 isEnv s1 inCall
  subst isEnv
  refine ⟨nolim.keeps inCall.toInCall.keep, codeAny_func ?_⟩
  obtain ⟨t, run, rd⟩ := body A out s0 H0 vs Q E ⟨room.r.deeper _, room.g⟩ promise
  have J0 : Inv (cxOf CX P w K mg base N ql sc f cdv A out s0 H0 E) [] (start N vs) H0 s1 := inv_start S room.r.hd env (len _ _ _ _ promise) rel inCall
  refine wpAny_mono (run.run [] s1 (start N vs) H0 _ J0 rd) (fun flow s2 done => ?_) fun _ _ z => z
  cases flow with
  | next =>
    obtain ⟨_, H2, J, q⟩ := done
    exact ⟨V.non, H2, J.os, J.bare, J.base, J.hok, rfl, q⟩
  | ret u =>
    obtain ⟨v, _, H2, J, rv, q⟩ := done
    exact ⟨v, H2, J.os, J.bare, J.base, J.hok, rv, q⟩
  | brk => exact done.elim fun _ z => z.elim fun _ z => z.2.elim
  | cont => exact done.elim fun _ z => z.elim fun _ z => z.2.elim
theorem okG {P : Program} {w : World} {K : PySem.W.Frag} {mg : Str → Option Value} {base : Heap} {x qual : Str} {params : Arguments} {body : List Stmt} {scope : Scope} {dvs : List V} {kws : List (Str × V)} {f : Addr} {fd : FuncData}
    {N ps : List Str} {k : Nat} {φ : VSp} (F : FunD K x qual params body scope dvs kws f fd) (S : FnScope N ps scope) (len : ∀ ds M Q, φ ds M Q → ds.length = ps.length)
    (hbody : ∀ (cdv : Value) (A : Around) (outer : List Env) (s : Shared) (H : Hp) (E : XK), RmG k (A.deeper (envOfC qual scope s.heap.objs.size f cdv)) →
      ∃ t, VSs (cxOf CX0 P w K mg base N qual scope f cdv A outer s H E).nox body t ∧ ∀ ds M Q, φ ds M Q → t { nx := fun _ M' => Q .non M', rt := Q } (vstart N.length ds) M) : FnG P w K mg base CX0 (k + 1) f fd ps (lSp K φ) := by
  obtain ⟨oc, od, dV, kV, doc, pm, an, cdv, ct, osl, rfl, lk, hcd, _, _⟩ := F.ex
  refine fnG_of lk hcd S (fun vs H Q E ⟨F, M, G, ds, Q', dv, r, q, o⟩ => by rw [dv.len]; exact len ds M Q' q) fun A outer s H vs Q E hr ⟨F', M, G, ds, Q', dv, r, q, o⟩ => ?_
  obtain ⟨t, h1, h2⟩ := hbody cdv A outer s H E hr
  exact ⟨lS K t, PSs.nox h1, F', M, G, vstart N.length ds, _, SR.start dv, r, h2 ds M Q' q, ⟨fun σ H1 F1 M1 e s1 r1 hs1 q1 => o _ H1 F1 M1 _ s1 r1 .non q1, o, fun _ _ _ _ _ _ _ _ z => z.elim, fun _ _ _ _ _ _ _ _ z => z.elim⟩⟩
def Sub (M M' : Mem) : Prop := ∀ a o, M a = some o → M' a = some o
theorem Sub.refl {M : Mem} : Sub M M := fun _ _ h => h
theorem Sub.trans {M M1 M2 : Mem} (h : Sub M M1) (h' : Sub M1 M2) : Sub M M2 := fun a o e => h' a o (h a o e)
theorem Sub.new {M : Mem} {p : Addr} {o : MO} (h : M p = none) : Sub M (mupd M p o) := fun a x e => by
  rw [mupd_ne (fun z => by rw [z, h] at e; cases e)]; exact e
/-- what M knows is left alone: p is none of it -/
theorem Sub.wr {M M1 : Mem} {p : Addr} {o : MO} (h : Sub M M1) (hp : M p = none) : Sub M (mupd M1 p o) := fun a x e => by
  rw [mupd_ne (fun z => by rw [z, hp] at e; cases e)]; exact h a x e
theorem Sub.both {M M1 : Mem} {p : Addr} {o : MO} (h : Sub M M1) : Sub (mupd M p o) (mupd M1 p o) := fun a x e => by
  by_cases z : a = p
  · subst z; rw [mupd_same] at e ⊢; exact e
  · rw [mupd_ne z] at e ⊢; exact h a x e
/-- the same, what was made in the call may be left behind -/
theorem okGD {P : Program} {w : World} {K : PySem.W.Frag} {mg : Str → Option Value} {base : Heap} {x qual : Str} {params : Arguments} {body : List Stmt} {scope : Scope} {dvs : List V} {kws : List (Str × V)} {f : Addr} {fd : FuncData}
    {N ps : List Str} {k : Nat} {φ : VSp} (F : FunD K x qual params body scope dvs kws f fd) (S : FnScope N ps scope) (len : ∀ ds M Q, φ ds M Q → ds.length = ps.length)
    (hbody : ∀ (cdv : Value) (A : Around) (outer : List Env) (s : Shared) (H : Hp) (E : XK), RmG k (A.deeper (envOfC qual scope s.heap.objs.size f cdv)) →
      ∃ t, VSs (cxOf CX0 P w K mg base N qual scope f cdv A outer s H E).nox body t ∧ ∀ ds M Q, φ ds M Q → t { nx := fun _ M' => ∃ M'', Sub M'' M' ∧ Q .non M'', rt := fun d M' => ∃ M'', Sub M'' M' ∧ Q d M'' } (vstart N.length ds) M) : FnG P w K mg base CX0 (k + 1) f fd ps (lSp K φ) := by
  obtain ⟨oc, od, dV, kV, doc, pm, an, cdv, ct, osl, rfl, lk, hcd, _, _⟩ := F.ex
  refine fnG_of lk hcd S (fun vs H Q E ⟨F, M, G, ds, Q', dv, r, q, o⟩ => by rw [dv.len]; exact len ds M Q' q) fun A outer s H vs Q E hr ⟨F', M, G, ds, Q', dv, r, q, o⟩ => ?_
  obtain ⟨t, h1, h2⟩ := hbody cdv A outer s H E hr
  exact ⟨lS K t, PSs.nox h1, F', M, G, vstart N.length ds, _, SR.start dv, r, h2 ds M Q' q, ⟨fun σ H1 F1 M1 e s1 r1 hs1 ⟨M2, sb, q1⟩ => o _ H1 F1 M2 _ s1 (r1.drop sb) .non q1, fun v H1 F1 M1 d s1 r1 d1 ⟨M2, sb, q1⟩ => o v H1 F1 M2 d s1 (r1.drop sb) d1 q1, fun _ _ _ _ _ _ _ _ z => z.elim, fun _ _ _ _ _ _ _ _ z => z.elim⟩⟩
section
variable {X : Cx} {e : Expr} {es : List Expr} {t : VTA} {pos p : Pos} {x : Str} {k : Nat} {f : Addr} {fd : FuncData} {ps : List Str} {φ : VSp} {sp : Sp} {E : XK} {CX : CXT}
theorem run_g {pins : List (Addr × Obj)} {σ : L2.St} {H : Hp} {s : Shared} {Q : L2.VK} {us : List Value} {vs : List V} (F : FnG X.prog X.w X.K X.mg X.base CX k f fd ps sp) (hr : RmG k X.A) (hb : Binds X.K fd ps []) (hx : Passes CX X E)
    (I : Inv X pins σ H s) (r : Vals vs us) (h : sp vs H Q E) : wpAny (model X.prog X.w) X.A (call (.ref f) us) (EP X pins σ Q) X.xe s := by
  have hl : (us ++ []).length = ps.length := by rw [List.append_nil, ← r.length]; exact F.len _ _ _ _ h
  have b0 := hb s us I.kIn hl
  rw [List.append_nil] at b0
  refine wpAny_call (codeAny_mono (F.run X.A X.stack s H ⟨us, []⟩ us vs Q E hr I.env0 b0 r h) fun res s' done => ?_)
  match res, done with
  | .error err, done => exact hx pins σ H s err s' I done
  | .ok (.ret u), done => exact I.after done
@[simp] def vFn (φ : VSp) (t : VTA) : VTE := fun e M Q => t e M fun ds M1 => φ ds M1 Q
theorem v_call (F : FnG X.prog X.w X.K X.mg X.base CX0 k f fd ps (lSp X.K φ)) (hr : RmG k X.A) (hm : X.mg x = some (.ref f)) (hk : PySem.W.keepIn X.K (.ref f) = true) (hb : Binds X.K fd ps []) (ha : VA X (e :: es) t) (hg : Gl X x := by rfl)
    (hdb : (x == ("__debug__" : Str)) = false := by decide) (he : starEach (e :: es) X.env = (false, eval e X.env) :: starEach es X.env := by rfl) (hpl : (backTo pos (starEach es X.env)).any (·.1) = false := by rfl) :
    VE X (.Call (.Name x p) (e :: es) [] pos) (vFn φ t) := by
  refine ⟨fun pins s σ H Q I ⟨F', M, G, e', Q', hs, hr', q, o⟩ => ?_⟩
  refine wpAny_Call_Name_kw (ld_glob I hg hm ?_ hdb)
  refine PySem.W.callWith_K (h₀ := X.base) I.ok.mod.kin hk (thn (ha.run pos pins s σ H (fun vs H1 => lSp X.K φ vs H1 Q E0) I ⟨F', M, G, e', _, hs, hr', q, fun vs H1 F1 M1 ds s1 r1 d1 q1 => ⟨F1, M1, G, ds, Q', d1, r1, q1, o.up s1⟩⟩) fun us s1 ⟨vs, H1, I1, r, q⟩ => ⟨I1.kIn, ?_⟩) he hpl
  exact run_g F hr hb pass0 I1 r q
theorem v_call0 (F : FnG X.prog X.w X.K X.mg X.base CX0 k f fd ps (lSp X.K φ)) (hr : RmG k X.A) (hm : X.mg x = some (.ref f)) (hk : PySem.W.keepIn X.K (.ref f) = true) (hb : Binds X.K fd ps []) (hg : Gl X x := by rfl)
    (hdb : (x == ("__debug__" : Str)) = false := by decide) : VE X (.Call (.Name x p) [] [] pos) (vFn φ vaNil) := by
  refine ⟨fun pins s σ H Q I ⟨F', M, G, e', Q', hs, hr', q, o⟩ => ?_⟩
  refine wpAny_Call_Name_kw (ld_glob I hg hm ?_ hdb)
  exact PySem.W.callWith_K0 I.kIn hk (run_g (us := []) (vs := []) F hr hb pass0 I .nil ⟨F', M, G, [], Q', .nil, hr', q, o⟩)
end

theorem law_callG {P : Program} {w : World} {K : PySem.W.Frag} {mg mb : Str → Option Value} {k : Nat} {fa a : Addr} {fd : FuncData} {x : Str} {φ : VSp} {s₁ : Shared} {vs : List Value} {ns : List Int}
    (inK : K.In s₁.heap) (names : s₁.heap.Ns mainGlobals mg) (blt : s₁.heap.Ns builtinsNs mb) (boot : ∀ x : Str, x ≠ "__name__" → mb x = bootBuiltins x) (nolim : s₁.heap.NoLimit) (nogens : s₁.gens = #[])
    (script : s₁.heap.get? a = some { cls := .type "list", data := .seq vs.toArray }) (isInts : IntsAre vs ns) (short : ns.length ≤ sizeLine) (room : Room k callerA)
    (F : ∀ base : Heap, K.In base → base.Ns mainGlobals mg → FnG P w K mg base CX0 k fa fd [x] (lSp K φ)) (binds : ∀ (s : Shared) (u : Value), BindsTo s fd ⟨[u], []⟩ [(x, u)])
    (law : ∀ M : Mem, φ [.rd (ns.map D.int)] M fun d _ => d = .bl true) :
    codeAny (model P w) callerA (.call (.ref fa) ⟨[.ref a], []⟩) (fun r s' => r = .ok (.ret (.bool true)) ∧ OldK s₁.heap s'.heap ∧ s'.os = s₁.os ∧ AllBare s'.gens) s₁ := by
  have rel := vals_ints isInts
  have slen := isInts.length
  have main : ∀ H : Hp, Only H → SqL K H a (ns.map V.int) → HOk P w H s₁.heap → (∀ b, H b ≠ none → b = a) → (H a ≠ none → K.lookup a = none) →
      codeAny (model P w) callerA (.call (.ref fa) ⟨[.ref a], []⟩) (fun r s' => r = .ok (.ret (.bool true)) ∧ OldK s₁.heap s'.heap ∧ s'.os = s₁.os ∧ AllBare s'.gens) s₁ := by
    intro H only seq hok one notK
    have free : ∀ {b : Addr} {o : Obj}, s₁.heap.get? b = some o → (∀ es ep, o.data = .dict es ep → H b = none) := fun {b o} e es ep d => by
      cases q : H b with
      | none => rfl
      | some u =>
        have eq : b = a := one b (by rw [q]; simp)
        subst eq
        rw [script] at e; cases e
        exact nomatch d
    have nsB : ∀ {b : Addr} {m : Str → Option Value}, s₁.heap.Ns b m → (hidT s₁.heap H).Ns b m := fun {b m} ⟨o, es, ep, e, d, r⟩ => ⟨o, es, ep, hidT_get e (free e es ep d), d, r⟩
    have kinB : K.In (hidT s₁.heap H) := fun b o e => by
      refine hidT_get (inK b o e) ?_
      cases q : H b with
      | none => rfl
      | some u =>
        have eq : b = a := one b (by rw [q]; simp)
        subst eq
        rw [notK (by rw [q]; simp)] at e; cases e
    obtain ⟨mc, l1, l2⟩ := nolim
    have env : Env0 P w K mg (hidT s₁.heap H) callerA [] s₁ H :=
      ⟨rfl, ⟨kinB, nsB names, ⟨mb, nsB blt, boot⟩, ⟨mc, nsB l1, l2⟩⟩, fun b o e => of_hidT e, Nat.le_of_eq (hidT_size _ _), trivial, (fun b hb => nomatch hb), hok, .of_eq nogens⟩
    have prom : lSp K φ [.ref a] H (fun v _ => v = .bl true) (fun _ _ _ => False) :=
      ⟨H, fun _ => none, fun _ => none, [.rd (ns.map D.int)], _, .cons (.rd seq (DRs.ints ns)) .nil, ⟨Same.refl H, (fun _ _ z => nomatch z), (fun _ _ z => nomatch z), (fun _ _ z => nomatch z)⟩, law _, fun v H' F' M' d _ _ dv e => by subst e; cases dv; rfl⟩
    refine codeAny_mono ((F _ kinB (nsB names)).run callerA [] s₁ H ⟨[.ref a], []⟩ [.ref a] [.ref a] _ _ ⟨room, rfl⟩ env (binds s₁ (.ref a)) (.cons rfl .nil) prom) fun res s' done => ?_
    match res, done with
    | .error err, done => exact False.elim done
    | .ok (.ret u), done =>
      obtain ⟨v, H', os, bare, un, hok', r', q⟩ := done
      have q' : v = .bl true := q
      subst q'
      obtain rfl : u = Value.bool true := r'
      refine ⟨rfl, OldK.of_keep fun b o e => ?_, os, bare⟩
      cases q : H b with
      | none => exact un.keep b o e q (fun z => nomatch z) (by simp)
      | some u =>
        rcases only b with z | ⟨ob, xs, z⟩
        · rw [q] at z; cases z
        · obtain ⟨e1, _⟩ := hok b _ z
          obtain ⟨e2, _⟩ := hok' b _ (un.frzs b ob _ z)
          rw [e] at e1; cases e1
          exact e2
  cases inOwn : K.lookup a with
  | none =>
    have at_a : ∀ {u : HO}, (if a = a then some u else none) = some u := fun {u} => if_pos rfl
    refine main (fun b => if b = a then some (.frz { cls := .type "list", data := .seq vs.toArray } (.lst (ns.map V.int))) else none) (fun b => ?_) (.inl (.inr ⟨_, at_a⟩)) (fun b u z => ?_) (fun b z => ?_) fun _ => inOwn
    · by_cases hb : b = a
      · exact .inr ⟨_, _, if_pos hb⟩
      · exact .inl (if_neg hb)
    · by_cases hb : b = a
      · subst hb
        have z2 := at_a.symm.trans z
        cases z2
        exact ⟨script, by rw [List.length_map]; exact short, vs, _, rel, script⟩
      · have z2 := (if_neg hb).symm.trans z
        cases z2
    · by_cases hb : b = a
      · exact hb
      · exact absurd (if_neg hb) z
  | some o =>
    have e := inK a o inOwn
    rw [script] at e
    cases e
    exact main (fun _ => none) (fun _ => .inl rfl) (.inr ⟨_, vs.toArray, _, inOwn, rfl, rfl, rfl, by rw [List.size_toArray, slen]; exact short, by simpa using rel⟩) (fun b u z => nomatch (show (none : Option HO) = some u from z)) (fun b z => absurd rfl z) fun z => absurd rfl z
theorem walk_G {l : PySem.W.OpenLaw} {n k : Nat} {q : Program} {loose : List Str} {XP : (Str → Option Value) → Heap → Prop} {YP : World → Heap → Prop} {d : DefRec} {x : Str}
    (most : l.most = some n) (short : n ≤ sizeLine) (nodef : d.params.defaults = []) (room : Room k callerA)
    (F : ∀ (w : World) (mg : Str → Option Value) (fa : Addr) (h : Heap), YP w h → h.Ns mainGlobals mg → mg d.name = some (.ref fa) →
      ∃ (K : PySem.W.Frag) (fd : FuncData) (φ : VSp), K.In h ∧ (∀ (s : Shared) (u : Value), BindsTo s fd ⟨[u], []⟩ [(x, u)]) ∧ (∀ (ns : List Int), ns.length ≤ n → ∀ M : Mem, φ [.rd (ns.map D.int)] M fun d _ => d = .bl true) ∧
        ∀ base : Heap, K.In base → base.Ns mainGlobals mg → FnG l.prog w K mg base CX0 k fa fd [x] (lSp K φ)) :
    PySem.W.WalkO q loose XP YP l.row.toRowW d [] (fun f vs => PySem.call f vs) := by
  refine Att.attach_call most nodef fun w s₀ s₁ mg mb fa o pm cd doc a vs ns G Y _ _ _ hmg script isInts hlen nogens => ?_
  obtain ⟨K, fd, φ, inK, binds, law, hF⟩ := F w mg fa _ Y G.T.g hmg
  exact law_callG inK G.T.g G.T.b G.T.builtins G.T.nolimit nogens script isInts (Nat.le_trans hlen short) room hF binds fun M => law ns hlen M
end VL
namespace VL
open PySem PySem.Spec L2

section
variable {X : Cx}
theorem cr_of {f : Value} {r : List V → Hp → L2.VK → Prop} {rv : VRs} (h : CallR X f r) (i : ∀ F M G H xs ds Q' Q, Rel X.K F M G H → DRs X.K F xs ds → rv ds M Q' → OutE X.K F G Q' Q → r xs H Q) : CallR X f (ls X.K rv) :=
  CallR_imp h fun xs H Q ⟨F, M, G, ds, Q', r, d, q, o⟩ => i F M G H xs ds Q' Q r d q o
theorem OutE.stay {K : PySem.W.Frag} {F G H : Hp} {M : Mem} {Q' : VK} {Q : L2.VK} {v : V} {d : D} (o : OutE K F G Q' Q) (r : Rel K F M G H) (dv : DR K F v d) (q : Q' d M) : Q v H := o v H F M d (Same.refl F) r dv q
theorem OutE.newL {K : PySem.W.Frag} {F G H : Hp} {M : Mem} {Q' : VK} {Q : L2.VK} {vs : List V} {ds : List D} (o : OutE K F G Q' Q) (r : Rel K F M G H) (dv : DRs K F vs ds) (q : Q' (.lst ds) M) (p : Addr) (hp : H p = none) : Q (.ref p) (upd H p (.lst vs)) :=
  o _ _ _ _ _ (r.sF hp) (r.newF hp) (.lst upd_same (dv.up (r.sF hp))) q
theorem OutE.newT {K : PySem.W.Frag} {F G H : Hp} {M : Mem} {Q' : VK} {Q : L2.VK} {vs : List V} {ds : List D} (o : OutE K F G Q' Q) (r : Rel K F M G H) (dv : DRs K F vs ds) (q : Q' (.tup ds) M) (p : Addr) (hp : H p = none) : Q (.ref p) (upd H p (.tup vs)) :=
  o _ _ _ _ _ (r.sF hp) (r.newF hp) (.tup (SqT.of upd_same) (dv.up (r.sF hp))) q
theorem OutE.newO {K : PySem.W.Frag} {F G H : Hp} {M : Mem} {Q' : VK} {Q : L2.VK} {ho : HO} {m : MO} (o : OutE K F G Q' Q) (r : Rel K F M G H) (dv : MR K F m ho) (p : Addr) (hp : H p = none) (q : Q' (.obj p) (mupd M p m)) : Q (.ref p) (upd H p ho) :=
  o _ _ _ _ _ (Same.refl F) (r.newM hp dv) (.obj p) q
theorem one_of {K : PySem.W.Frag} {F : Hp} {xs : List V} {x : D} (h : DRs K F xs [x]) : ∃ v, xs = [v] ∧ DR K F v x := by
  cases h with
  | cons a b => cases b; exact ⟨_, rfl, a⟩
/-- len of what is no text -/
@[simp] def lenOf (M : Mem) : D → Option Nat
  | .tup xs => some xs.length
  | .obj a => match M a with
    | some (.lst xs) => some xs.length
    | some (.dk kvs) => some kvs.length
    | some (.dt kvs) => some kvs.length
    | _ => none
  | d => (asL M d).map List.length
@[simp] def rLen : VRs
  | [.str z], M, Q => z.length ≤ sizeLine ∧ Q (.int (z.length : Nat)) M
  | [x], M, Q => ∃ n, lenOf M x = some n ∧ Q (.int (n : Nat)) M
  | _, _, _ => False
theorem c_len : CallR X (.builtin "len") (ls X.K rLen) := by
  refine cr_of (CallR.or call_len_seq (CallR.or call_len_str (CallR.or call_lenD call_len_dT))) fun F M G H xs ds Q' Q r dv q o => ?_
  match ds, dv, q with
  | [], .nil, q => exact q.elim
  | _ :: _ :: _, dv, q => simp [rLen] at q
  | [x], dv, q =>
    obtain ⟨v, rfl, z⟩ := one_of dv
    have lists : ∀ ys, asL M x = some ys → Q' (.int (ys.length : Nat)) M → ∃ p ws, [v] = [V.ref p] ∧ (SqL X.K H p ws ∨ SqT X.K H p ws) ∧ Q (.int (ws.length : Nat)) H := fun ys e q => by
      obtain ⟨p, vs, rfl, hp, z2⟩ := asL_at r z e
      exact ⟨p, vs, rfl, .inl hp, by rw [z2.len]; exact o.stay r (.int _) q⟩
    cases x with
    | str w => cases z; exact .inr (.inl ⟨w, rfl, q.1, o.stay r (.int _) q.2⟩)
    | tup ys =>
      obtain ⟨n, e, q⟩ := q
      cases e
      cases z with
      | tup h z2 => exact .inl ⟨_, _, rfl, .inr (same_tup r.sub h), by rw [z2.len]; exact o.stay r (.int _) q⟩
    | lst ys => obtain ⟨n, e, q⟩ := q; cases e; exact .inl (lists ys rfl q)
    | rd ys => obtain ⟨n, e, q⟩ := q; cases e; exact .inl (lists ys rfl q)
    | obj a =>
      obtain ⟨n, e, q⟩ := q
      unfold lenOf at e
      dsimp only at e
      cases hm : M a with
      | none => rw [hm] at e; cases e
      | some m =>
        rw [hm] at e
        cases m with
        | lst ys => cases e; exact .inl (lists ys (asL_obj hm) q)
        | dk kvs =>
          cases e
          cases z
          obtain ⟨_, _, ho, h1, kws, rfl, k1, k2⟩ := r.ob a _ hm
          have hl : kws.length = kvs.length := by have := congrArg List.length k1; simpa using this
          exact .inr (.inr (.inl ⟨a, kws, rfl, h1, by rw [hl]; exact o.stay r (.int _) q⟩))
        | dt kvs =>
          cases e
          cases z
          obtain ⟨_, _, ho, h1, kws, rfl, k1, k2⟩ := r.ob a _ hm
          have hl : kws.length = kvs.length := by have := congrArg List.length k1; simpa using this
          exact .inr (.inr (.inr ⟨a, kws, rfl, h1, by rw [hl]; exact o.stay r (.int _) q⟩))
        | ex _ => cases e
        | ti _ _ _ => cases e
        | tb _ => cases e
        | kt _ => cases e
        | lam _ _ _ _ _ _ => cases e
        | dq _ _ _ _ => cases e
    | exc _ _ => obtain ⟨n, e, _⟩ := q; cases e
    | non => obtain ⟨n, e, _⟩ := q; cases e
    | bl _ => obtain ⟨n, e, _⟩ := q; cases e
    | int _ => obtain ⟨n, e, _⟩ := q; cases e
@[simp] def rAbs : VRs
  | [.int i], M, Q => Q (.int (if i < 0 then -i else i)) M
  | _, _, _ => False
theorem c_abs : CallR X (.builtin "abs") (ls X.K rAbs) := cr_of call_abs fun F M G H xs ds Q' Q r dv q o => by
  unfold rAbs at q
  split at q
  · cases dv with
    | cons z z2 => cases z; cases z2; exact ⟨_, rfl, o.stay r (.int _) q⟩
  · exact q.elim
@[simp] def rMax2 : VRs
  | [.int i, .int j], M, Q => Q (.int (if j > i then j else i)) M
  | _, _, _ => False
@[simp] def rMin2 : VRs
  | [.int i, .int j], M, Q => Q (.int (if j < i then j else i)) M
  | _, _, _ => False
theorem c_max2 (hc : X.calm = true) : CallR X (.builtin "max") (ls X.K rMax2) := cr_of (call_max2 hc) fun F M G H xs ds Q' Q r dv q o => by
  unfold rMax2 at q
  split at q
  · cases dv with
    | cons z z2 => cases z; cases z2 with
      | cons z2 z3 => cases z2; cases z3; exact ⟨_, _, rfl, o.stay r (.int _) q⟩
  · exact q.elim
theorem c_min2 (hc : X.calm = true) : CallR X (.builtin "min") (ls X.K rMin2) := cr_of (call_min2 hc) fun F M G H xs ds Q' Q r dv q o => by
  unfold rMin2 at q
  split at q
  · cases dv with
    | cons z z2 => cases z; cases z2 with
      | cons z2 z3 => cases z2; cases z3; exact ⟨_, _, rfl, o.stay r (.int _) q⟩
  · exact q.elim
@[simp] def rInt : VRs
  | [.int i], M, Q => Q (.int i) M
  | [.bl b], M, Q => Q (.int (if b then 1 else 0)) M
  | _, _, _ => False
theorem c_int : CallR X (.type "int") (ls X.K rInt) := cr_of call_int1 fun F M G H xs ds Q' Q r dv q o => by
  unfold rInt at q
  split at q
  · cases dv with
    | cons z z2 => cases z; cases z2; exact .inl ⟨_, rfl, o.stay r (.int _) q⟩
  · cases dv with
    | cons z z2 => cases z; cases z2; exact .inr ⟨_, rfl, o.stay r (.int _) q⟩
  · exact q.elim
theorem drs_map {K : PySem.W.Frag} {F : Hp} {α : Type} {f : α → D} {g : α → V} (h : ∀ a v, DR K F v (f a) → v = g a) : ∀ {xs : List α} {vs : List V}, DRs K F vs (xs.map f) → vs = xs.map g
  | [], _, d => by cases d; rfl
  | x :: xs, _, d => by
    cases d with
    | cons a b => rw [h x _ a, drs_map h b] <;> rfl
theorem drs_ints {K : PySem.W.Frag} {F : Hp} {ns : List Int} {vs : List V} (h : DRs K F vs (ns.map D.int)) : vs = ns.map V.int := drs_map (fun a v d => by cases d; rfl) h
theorem drs_bls {K : PySem.W.Frag} {F : Hp} {ns : List Bool} {vs : List V} (h : DRs K F vs (ns.map D.bl)) : vs = ns.map V.bl := drs_map (fun a v d => by cases d; rfl) h
theorem DRs.bls {K : PySem.W.Frag} {F : Hp} : ∀ (ns : List Bool), DRs K F (ns.map V.bl) (ns.map D.bl)
  | [] => .nil
  | n :: ns => .cons (.bl n) (DRs.bls ns)
def rSum : VRs
  | [x], M, Q => ∃ ns : List Int, asL M x = some (ns.map D.int) ∧ Q (.int ns.sum) M
  | _, _, _ => False
theorem c_sum (hc : X.calm = true) : CallR X (.builtin "sum") (ls X.K rSum) := cr_of (cr_sum hc) fun F M G H xs ds Q' Q r dv q o => by
  unfold rSum at q
  split at q
  · obtain ⟨v, rfl, z⟩ := one_of dv
    obtain ⟨ns, e, q⟩ := q
    obtain ⟨a, vs, rfl, hp, z2⟩ := asL_at r z e
    rw [drs_ints z2] at hp
    exact ⟨a, ns, rfl, hp, o.stay r (.int _) q⟩
  · exact q.elim
def rAll : VRs
  | [x], M, Q => ∃ bs : List Bool, asL M x = some (bs.map D.bl) ∧ Q (.bl (bs.all id)) M
  | _, _, _ => False
def rAny : VRs
  | [x], M, Q => ∃ bs : List Bool, asL M x = some (bs.map D.bl) ∧ Q (.bl (bs.any id)) M
  | _, _, _ => False
theorem c_all (hc : X.calm = true) : CallR X (.builtin "all") (ls X.K rAll) := cr_of (cr_all hc) fun F M G H xs ds Q' Q r dv q o => by
  unfold rAll at q
  split at q
  · obtain ⟨v, rfl, z⟩ := one_of dv
    obtain ⟨ns, e, q⟩ := q
    obtain ⟨a, vs, rfl, hp, z2⟩ := asL_at r z e
    rw [drs_bls z2] at hp
    exact ⟨a, ns, rfl, hp, o.stay r (.bl _) q⟩
  · exact q.elim
theorem c_any (hc : X.calm = true) : CallR X (.builtin "any") (ls X.K rAny) := cr_of (cr_any hc) fun F M G H xs ds Q' Q r dv q o => by
  unfold rAny at q
  split at q
  · obtain ⟨v, rfl, z⟩ := one_of dv
    obtain ⟨ns, e, q⟩ := q
    obtain ⟨a, vs, rfl, hp, z2⟩ := asL_at r z e
    rw [drs_bls z2] at hp
    exact ⟨a, ns, rfl, hp, o.stay r (.bl _) q⟩
  · exact q.elim
/-- the greatest, the least of a list of ints -/
def rMaxL : VRs
  | [x], M, Q => ∃ ns : List Int, asL M x = some (ns.map D.int) ∧ 0 < ns.length ∧ ∀ m, m ∈ ns → (∀ y, y ∈ ns → y ≤ m) → Q (.int m) M
  | _, _, _ => False
def rMinL : VRs
  | [x], M, Q => ∃ ns : List Int, asL M x = some (ns.map D.int) ∧ 0 < ns.length ∧ ∀ m, m ∈ ns → (∀ y, y ∈ ns → m ≤ y) → Q (.int m) M
  | _, _, _ => False
theorem c_maxL (hc : X.calm = true) : CallR X (.builtin "max") (ls X.K rMaxL) := cr_of (cr_max hc) fun F M G H xs ds Q' Q r dv q o => by
  unfold rMaxL at q
  split at q
  · obtain ⟨v, rfl, z⟩ := one_of dv
    obtain ⟨ns, e, h0, q⟩ := q
    obtain ⟨a, vs, rfl, hp, z2⟩ := asL_at r z e
    rw [drs_ints z2] at hp
    exact ⟨a, ns, rfl, hp, h0, fun m h1 h2 => o.stay r (.int _) (q m h1 h2)⟩
  · exact q.elim
theorem c_minL (hc : X.calm = true) : CallR X (.builtin "min") (ls X.K rMinL) := cr_of (cr_min hc) fun F M G H xs ds Q' Q r dv q o => by
  unfold rMinL at q
  split at q
  · obtain ⟨v, rfl, z⟩ := one_of dv
    obtain ⟨ns, e, h0, q⟩ := q
    obtain ⟨a, vs, rfl, hp, z2⟩ := asL_at r z e
    rw [drs_ints z2] at hp
    exact ⟨a, ns, rfl, hp, h0, fun m h1 h2 => o.stay r (.int _) (q m h1 h2)⟩
  · exact q.elim
/-- list(x), tuple(x) -/
def rList : VRs
  | [x], M, Q => ∃ xs, asI M x = some xs ∧ Q (.lst xs) M
  | _, _, _ => False
def rListO : VRs
  | [x], M, Q => ∃ xs, asI M x = some xs ∧ ∀ p, M p = none → Q (.obj p) (mupd M p (.lst xs))
  | _, _, _ => False
def rTuple : VRs
  | [x], M, Q => ∃ xs, asI M x = some xs ∧ Q (.tup xs) M
  | _, _, _ => False
theorem asI_at {K : PySem.W.Frag} {F G H : Hp} {M : Mem} {v : V} {d : D} {xs : List D} (r : Rel K F M G H) (h : DR K F v d) (e : asI M d = some xs) : ∃ a vs, v = .ref a ∧ DRs K F vs xs ∧ (SqL K H a vs ∨ (SqT K H a vs ∧ DR K F v (.tup xs))) := by
  rcases asI_cases e with rfl | e
  · cases h with
    | tup q z => exact ⟨_, _, rfl, z, .inr ⟨same_tup r.sub q, .tup q z⟩⟩
  · obtain ⟨a, vs, rfl, hp, z⟩ := asL_at r h e
    exact ⟨a, vs, rfl, z, .inl hp⟩
theorem c_list : CallR X (.type "list") (ls X.K rList) := cr_of call_list_of fun F M G H xs ds Q' Q r dv q o => by
  unfold rList at q
  split at q
  · obtain ⟨v, rfl, z⟩ := one_of dv
    obtain ⟨xs, e, q⟩ := q
    obtain ⟨a, vs, rfl, z2, h⟩ := asI_at r z e
    exact ⟨a, vs, rfl, h.imp id And.left, o.newL r z2 q⟩
  · exact q.elim
theorem c_listO : CallR X (.type "list") (ls X.K rListO) := cr_of call_list_of fun F M G H xs ds Q' Q r dv q o => by
  unfold rListO at q
  split at q
  · obtain ⟨v, rfl, z⟩ := one_of dv
    obtain ⟨xs, e, q⟩ := q
    obtain ⟨a, vs, rfl, z2, h⟩ := asI_at r z e
    exact ⟨a, vs, rfl, h.imp id And.left, fun p hp => o.newO r (m := .lst xs) ⟨vs, rfl, z2⟩ p hp (q p (r.m0 hp))⟩
  · exact q.elim
theorem c_tuple : CallR X (.type "tuple") (ls X.K rTuple) := cr_of call_tuple_of fun F M G H xs ds Q' Q r dv q o => by
  unfold rTuple at q
  split at q
  · obtain ⟨v, rfl, z⟩ := one_of dv
    obtain ⟨xs, e, q⟩ := q
    obtain ⟨a, vs, rfl, z2, h⟩ := asI_at r z e
    rcases h with h | ⟨h, h2⟩
    · exact ⟨a, vs, rfl, .inl ⟨h, o.newT r z2 q⟩⟩
    · exact ⟨a, vs, rfl, .inr ⟨h, o.stay r h2 q⟩⟩
  · exact q.elim
/-- sorted of ints, any number of them -/
def rSortI : VRs
  | [x], M, Q => ∃ ns : List Int, asL M x = some (ns.map D.int) ∧ ∀ ms : List Int, ms.Perm ns → ms.Pairwise (· ≤ ·) → Q (.lst (ms.map D.int)) M
  | _, _, _ => False
theorem c_sortI : CallR X (.builtin "sorted") (ls X.K rSortI) := cr_of cr_sortedI fun F M G H xs ds Q' Q r dv q o => by
  unfold rSortI at q
  split at q
  · obtain ⟨v, rfl, z⟩ := one_of dv
    obtain ⟨ns, e, q⟩ := q
    obtain ⟨a, vs, rfl, hp, z2⟩ := asL_at r z e
    rw [drs_ints z2] at hp
    exact ⟨a, ns, rfl, hp, fun ms p h1 h2 hp2 => o.newL r (DRs.ints ms) (q ms h1 h2) p hp2⟩
  · exact q.elim
def rRepr : VRs
  | [x], M, Q => Sh 30 (fz M x) ∧ (py (fz M x)).showable = true ∧ (py (fz M x)).shown.length ≤ 16000000 ∧ Q (.str (py (fz M x)).shown) M
  | _, _, _ => False
mutual
theorem noDict : ∀ d : D, (py d).hasDict = false
  | .non => by simp [py, PyData.hasDict]
  | .bl _ => by simp [py, PyData.hasDict]
  | .int _ => by simp [py, PyData.hasDict]
  | .str _ => by simp [py, PyData.hasDict]
  | .obj _ => by simp [py, PyData.hasDict]
  | .exc _ _ => by simp [py, PyData.hasDict]
  | .lst xs => by simp [py, PyData.hasDict, noDicts xs]
  | .tup xs => by simp [py, PyData.hasDict, noDicts xs]
  | .rd xs => by simp [py, PyData.hasDict, noDicts xs]
theorem noDicts : ∀ xs : List D, PyData.hasDictAll (pys xs) = false
  | [] => by simp [pys, PyData.hasDictAll]
  | x :: xs => by simp [pys, PyData.hasDictAll, noDict x, noDicts xs]
end
end
end VL
namespace VL
open PySem PySem.Spec L2

section
variable {X : Cx} {e a b : Expr} {es : List Expr} {te ta tb : VTE} {t : VTA} {pos : Pos} {x : Str} {p : Pos}
theorem v_glob {v : V} {u : Value} {d : D} (hm : X.mg x = some u) (r : RelV v u) (hd : ∀ F, DR X.K F v d) (hg : Gl X x := by rfl) (hdb : (x == ("__debug__" : Str)) = false := by decide) : VE X (.Name x p) (vC d) := v_c (pe_glob hg hm r hdb) hd
theorem v_gint {i : Int} {u : Value} (hm : X.mg x = some u) (r : RelV (.int i) u) (hg : Gl X x := by rfl) (hdb : (x == ("__debug__" : Str)) = false := by decide) : VE X (.Name x p) (vC (.int i)) := v_glob hm r (fun _ => .int i) hg hdb
theorem v_gstr {i : Str} {u : Value} (hm : X.mg x = some u) (r : RelV (.str i) u) (hg : Gl X x := by rfl) (hdb : (x == ("__debug__" : Str)) = false := by decide) : VE X (.Name x p) (vC (.str i)) := v_glob hm r (fun _ => .str i) hg hdb

@[simp] def tyD (M : Mem) : D → Option String
  | .non => some "NoneType"
  | .bl _ => some "bool"
  | .int _ => some "int"
  | .str _ => some "str"
  | .tup _ => some "tuple"
  | .lst _ => some "list"
  | .rd _ => none
  | .exc _ _ => none
  | .obj a => match M a with
    | some (.lst _) => some "list"
    | some (.dk _) => some "dict"
    | some (.dt _) => some "dict"
    | _ => none
theorem tyD_is {K : PySem.W.Frag} {F G H : Hp} {M : Mem} {v : V} {d : D} {T : String} (r : Rel K F M G H) (h : DR K F v d) (e : tyD M d = some T) : TyX K H v (.type T) := by
  cases h with
  | non => cases e; exact .base .non
  | bl b => cases e; exact .base (.bl b)
  | int i => cases e; exact .base (.int i)
  | str y => cases e; exact .base (.str y)
  | lst q z => cases e; exact .base (.lst (r.sub _ _ q))
  | tup q z =>
    cases e
    rcases same_tup r.sub q with (h | ⟨o, h⟩) | ⟨o, its, n, h1, h2, _⟩
    · exact .base (.tup h)
    · exact .fTuple h
    · exact .kTuple h1 h2
  | rd q z => cases e
  | exc _ _ _ => cases e
  | obj a =>
    unfold tyD at e
    dsimp only at e
    cases hm : M a with
    | none => rw [hm] at e; cases e
    | some o =>
      rw [hm] at e
      obtain ⟨_, _, ho, h1, z⟩ := r.ob a _ hm
      cases o with
      | lst ys => cases e; obtain ⟨vs, rfl, _⟩ := z; exact .base (.lst h1)
      | dk ys => cases e; obtain ⟨vs, rfl, _⟩ := z; exact .base (.dK h1)
      | dt ys => cases e; obtain ⟨vs, rfl, _⟩ := z; exact .base (.dT h1)
      | ex _ => cases e
      | ti _ _ _ => cases e
      | tb _ => cases e
      | kt _ => cases e
      | lam _ _ _ _ _ _ => cases e
      | dq _ _ _ _ => cases e
@[simp] def vIsi (T : String) (te : VTE) : VTE := fun e M Q => te e M fun x M1 => ∃ A b, tyD M1 x = some A ∧ kitB A T = some b ∧ Q (.bl b) M1
theorem v_isi {T : String} {nT : Str} {p2 : Pos} (hm : X.mg "isinstance" = none) (hT : X.mg nT = none) (he : VE X e te) (hbT : bootBuiltins nT = some (.type T) := by decide +kernel) (hg : Gl X "isinstance" := by rfl) (hgT : Gl X nT := by rfl) (hnT : nT ≠ "__name__" := by decide) (hdT : (nT == ("__debug__" : Str)) = false := by decide)
    (hs : starEach [e, .Name nT p2] X.env = (false, eval e X.env) :: starEach [.Name nT p2] X.env := by rfl) (hs2 : starEach [.Name nT p2] X.env = (false, eval (.Name nT p2) X.env) :: starEach [] X.env := by rfl)
    (hpl : (backTo pos (starEach [.Name nT p2] X.env)).any (·.1) = false := by rfl) : VE X (.Call (.Name "isinstance" p) [e, .Name nT p2] [] pos) (vIsi T te) :=
  v_pe (pe_callB call_isi hg hm (by decide +kernel) (pa_cons he (pa_cons (pe_bltn (v := .ty T) hgT hT hbT rfl hnT hdT) pa_nil hs2) hs) (by decide) (by decide) hs hpl) fun F M G σ H e Q' Q hs hr q o =>
    ⟨F, M, G, e, _, hs, hr, q, fun v H1 F1 M1 d s1 r1 d1 ⟨A, b, e1, e2, q1⟩ => ⟨v, .ty T, .type A, .type T, b, rfl, .ty T, tyD_is r1 d1 e1, kit_ty e2, o _ H1 F1 M1 _ s1 r1 (.bl b) q1⟩⟩

@[simp] def rReprI : VRs
  | [.int i], M, Q => i.natAbs.log2 < 1920 ∧ Q (.str (toString i)) M
  | _, _, _ => False
theorem c_reprI : CallR X (.builtin "repr") (ls X.K rReprI) := cr_of SkE.call_repr_int fun F M G H xs ds Q' Q r dv q o => by
  unfold rReprI at q
  split at q
  · obtain ⟨v, rfl, z⟩ := one_of dv
    cases z
    exact ⟨_, rfl, q.1, o.stay r (.str _) q.2⟩
  · exact q.elim

@[simp] def vMtL (r : Addr → List D → Mem → VK → Prop) (to : VTE) (t : VTA) : VTE := fun e M Q => to e M fun x M1 => ∃ a l, x = .obj a ∧ M1 a = some (.lst l) ∧ t e M1 fun xs M2 => r a xs M2 Q
@[simp] def rApp : Addr → List D → Mem → VK → Prop := fun a ds M Q => ∃ y l, ds = [y] ∧ M a = some (.lst l) ∧ l.length < sizeLine ∧ Q .non (mupd M a (.lst (l ++ [y])))
@[simp] def rExt : Addr → List D → Mem → VK → Prop := fun a ds M Q => ∃ y l zs, ds = [y] ∧ M a = some (.lst l) ∧ asP M y = some zs ∧ l.length + zs.length ≤ sizeLine ∧ Q .non (mupd M a (.lst (l ++ zs)))
@[simp] def rPopI : Addr → List D → Mem → VK → Prop := fun a ds M Q => ∃ i l k y, ds = [.int i] ∧ M a = some (.lst l) ∧ -9223372036854775808 ≤ i ∧ i < 9223372036854775808 ∧ seqIndex? i l.length = some k ∧ l[k]? = some y ∧ Q y (mupd M a (.lst (l.eraseIdx k)))
theorem v_mtL {id : String} {name : Str} {apos : Pos} {o : Expr} {to : VTE} {r : V → List V → Hp → L2.VK → Prop} {rv : Addr → List D → Mem → VK → Prop} (hm : MtR X id r) (slot : Slot "list" name id) (hty : typeOf (.builtin id) = pure (.type "method_descriptor"))
    (hi : ∀ F M G H a ds vs Q' Q, Rel X.K F M G H → DRs X.K F vs ds → rv a ds M Q' → OutE X.K F G Q' Q → r (.ref a) vs H Q) (ho : VE X o to) (ha : VA X (e :: es) t)
    (hbase : attributeBase o name X.env (eval o X.env) = eval o X.env := by rfl)
    (hfew : ((backTo pos (starEach (e :: es) X.env)).all (fun x => !x.1) && (backToKw pos (keywordEach [] X.env)).all (fun x => x.1.isSome)
      && decide ((e :: es).length + ([] : List Keyword).length + (if ([] : List Keyword).isEmpty then 0 else 1) < 30)) = true := by rfl)
    (hline : (apos.endLine == pos.line) = true := by rfl) (hs : starEach (e :: es) X.env = (false, eval e X.env) :: starEach es X.env := by rfl) (hplain : (backTo pos (starEach es X.env)).any (·.1) = false := by rfl) :
    VE X (.Call (.Attribute o name apos) (e :: es) [] pos) (vMtL rv to t) :=
  v_pe (pe_bm PySem.F.plainAttrs_list slot hty hm ho ha hbase hfew hline hs hplain) fun F M G σ H e Q' Q hs hr q o => ⟨F, M, G, e, _, hs, hr, q, fun v H1 F1 M1 d s1 r1 d1 ⟨a, l, ed, hM, q1⟩ => by
    subst ed
    cases d1
    obtain ⟨_, _, ho, h1, vs, rfl, z⟩ := r1.ob a _ hM
    exact ⟨.inl ⟨rfl, vs, SqL.of h1⟩, F1, M1, G, e, _, hs.up s1, r1, q1, fun ws H2 F2 M2 ds s2 r2 d2 q2 => hi F2 M2 G H2 a ds ws Q' Q r2 d2 q2 (o.up (s1.trans s2))⟩⟩
theorem i_app : ∀ F M G H a ds vs Q' Q, Rel X.K F M G H → DRs X.K F vs ds → rApp a ds M Q' → OutE X.K F G Q' Q → rAppend (.ref a) vs H Q := fun F M G H a ds vs Q' Q r dv ⟨y, l, e, hM, hz, q⟩ o => by
  subst e
  obtain ⟨v, rfl, z⟩ := one_of dv
  obtain ⟨_, _, ho, h1, ws, rfl, z1⟩ := r.ob a _ hM
  exact ⟨a, ws, v, rfl, rfl, h1, by rw [z1.len]; exact hz, o _ _ _ _ _ (Same.refl F) (r.wr hM (m := .lst (l ++ [y])) ⟨_, rfl, z1.app (.cons z .nil)⟩) .non q⟩
theorem i_ext : ∀ F M G H a ds vs Q' Q, Rel X.K F M G H → DRs X.K F vs ds → rExt a ds M Q' → OutE X.K F G Q' Q → rExtend (.ref a) vs H Q := fun F M G H a ds vs Q' Q r dv ⟨y, l, zs, e, hM, hy, hz, q⟩ o => by
  subst e
  obtain ⟨v, rfl, z⟩ := one_of dv
  obtain ⟨_, _, ho, h1, ws, rfl, z1⟩ := r.ob a _ hM
  obtain ⟨b, us, rfl, h2, z2⟩ := asP_at r z hy
  exact ⟨a, b, ws, us, rfl, rfl, h1, h2, by rw [z1.len, z2.len]; exact hz, o _ _ _ _ _ (Same.refl F) (r.wr hM (m := .lst (l ++ zs)) ⟨_, rfl, z1.app z2⟩) .non q⟩
theorem DRs.erase {K : PySem.W.Frag} {F : Hp} : ∀ {vs : List V} {ds : List D} (i : Nat), DRs K F vs ds → DRs K F (vs.eraseIdx i) (ds.eraseIdx i)
  | _, [], i, h => by cases h; exact .nil
  | _, d :: ds, 0, h => by
    cases h with
    | cons a r => exact r
  | _, d :: ds, i + 1, h => by
    cases h with
    | cons a r => exact .cons a (DRs.erase i r)
theorem i_pop : ∀ F M G H a ds vs Q' Q, Rel X.K F M G H → DRs X.K F vs ds → rPopI a ds M Q' → OutE X.K F G Q' Q → rPopAt (.ref a) vs H Q := fun F M G H a ds vs Q' Q r dv ⟨i, l, k, y, e, hM, b1, b2, hk, hy, q⟩ o => by
  subst e
  obtain ⟨v, rfl, z⟩ := one_of dv
  cases z
  obtain ⟨_, _, ho, h1, ws, rfl, z1⟩ := r.ob a _ hM
  obtain ⟨w, hw, dw⟩ := z1.geti hy
  exact ⟨a, ws, i, k, w, rfl, rfl, h1, by omega, by omega, by rw [z1.len]; exact hk, hw, o _ _ _ _ _ (Same.refl F) (r.wr hM (m := .lst (l.eraseIdx k)) ⟨_, rfl, z1.erase k⟩) dw q⟩
theorem v_append {apos : Pos} {o : Expr} {to : VTE} (ho : VE X o to) (ha : VA X (e :: es) t)
    (hbase : attributeBase o "append" X.env (eval o X.env) = eval o X.env := by rfl)
    (hfew : ((backTo pos (starEach (e :: es) X.env)).all (fun x => !x.1) && (backToKw pos (keywordEach [] X.env)).all (fun x => x.1.isSome)
      && decide ((e :: es).length + ([] : List Keyword).length + (if ([] : List Keyword).isEmpty then 0 else 1) < 30)) = true := by rfl)
    (hline : (apos.endLine == pos.line) = true := by rfl) (hs : starEach (e :: es) X.env = (false, eval e X.env) :: starEach es X.env := by rfl) (hplain : (backTo pos (starEach es X.env)).any (·.1) = false := by rfl) :
    VE X (.Call (.Attribute o "append" apos) (e :: es) [] pos) (vMtL rApp to t) := v_mtL mt_append PySem.F.slot_list_append PySem.F.type_list_append i_app ho ha hbase hfew hline hs hplain
theorem v_extend {apos : Pos} {o : Expr} {to : VTE} (ho : VE X o to) (ha : VA X (e :: es) t)
    (hbase : attributeBase o "extend" X.env (eval o X.env) = eval o X.env := by rfl)
    (hfew : ((backTo pos (starEach (e :: es) X.env)).all (fun x => !x.1) && (backToKw pos (keywordEach [] X.env)).all (fun x => x.1.isSome)
      && decide ((e :: es).length + ([] : List Keyword).length + (if ([] : List Keyword).isEmpty then 0 else 1) < 30)) = true := by rfl)
    (hline : (apos.endLine == pos.line) = true := by rfl) (hs : starEach (e :: es) X.env = (false, eval e X.env) :: starEach es X.env := by rfl) (hplain : (backTo pos (starEach es X.env)).any (·.1) = false := by rfl) :
    VE X (.Call (.Attribute o "extend" apos) (e :: es) [] pos) (vMtL rExt to t) := v_mtL mt_extend PySem.F.slot_list_extend PySem.F.type_list_extend i_ext ho ha hbase hfew hline hs hplain
theorem v_popI {apos : Pos} {o : Expr} {to : VTE} (ho : VE X o to) (ha : VA X (e :: es) t)
    (hbase : attributeBase o "pop" X.env (eval o X.env) = eval o X.env := by rfl)
    (hfew : ((backTo pos (starEach (e :: es) X.env)).all (fun x => !x.1) && (backToKw pos (keywordEach [] X.env)).all (fun x => x.1.isSome)
      && decide ((e :: es).length + ([] : List Keyword).length + (if ([] : List Keyword).isEmpty then 0 else 1) < 30)) = true := by rfl)
    (hline : (apos.endLine == pos.line) = true := by rfl) (hs : starEach (e :: es) X.env = (false, eval e X.env) :: starEach es X.env := by rfl) (hplain : (backTo pos (starEach es X.env)).any (·.1) = false := by rfl) :
    VE X (.Call (.Attribute o "pop" apos) (e :: es) [] pos) (vMtL rPopI to t) := v_mtL mt_popAt PySem.F.slot_list_pop PySem.F.type_list_pop i_pop ho ha hbase hfew hline hs hplain

def zipD (xs ys : List D) : List D := (xs.zip ys).map fun p => .tup [p.1, p.2]
theorem zipD_len {xs ys : List D} : (zipD xs ys).length = min xs.length ys.length := by simp [zipD]
theorem zipD_get {xs ys : List D} {i : Nat} {x y : D} (h1 : xs[i]? = some x) (h2 : ys[i]? = some y) : (zipD xs ys)[i]? = some (.tup [x, y]) := by
  simp [zipD, List.getElem?_zip_eq_some, h1, h2]
def enD (xs : List D) : List D := (List.range xs.length).map fun i => .tup [.int (i : Nat), xs.getD i .non]
theorem enD_len {xs : List D} : (enD xs).length = xs.length := by simp [enD]
theorem enD_get {xs : List D} {i : Nat} {x : D} (h : xs[i]? = some x) : (enD xs)[i]? = some (.tup [.int (i : Nat), x]) := by
  have hl : i < xs.length := by
    rcases Nat.lt_or_ge i xs.length with h1 | h1
    · exact h1
    · rw [List.getElem?_eq_none h1] at h; cases h
  simp only [enD, List.getElem?_map, List.getElem?_range hl, Option.map_some, List.getD, h, Option.getD_some]
theorem pair_new {K : PySem.W.Frag} {F1 : Hp} {M : Mem} {G H : Hp} {T : Addr} {x y : V} {dx dy : D} (r : Rel K F1 M G H) (hT : H T = none) (h1 : DR K F1 x dx) (h2 : DR K F1 y dy) :
    ∃ F2, Same F1 F2 ∧ Rel K F2 M G (upd H T (.tup [x, y])) ∧ DR K F2 (.ref T) (.tup [dx, dy]) := by
  have s := r.sF (o := .tup [x, y]) hT
  exact ⟨_, s, r.newF hT, .tup (SqT.of upd_same) (.cons (h1.up s) (.cons (h2.up s) .nil))⟩
@[simp] def iZp (t : VTA) : VTI := fun e M R => t e M fun ds M1 => ∃ x y xs ys, ds = [x, y] ∧
  ((asL M1 x = some xs ∧ asL M1 y = some ys ∧ R ⟨zipD xs ys, fun M' => asL M' x = some xs ∧ asL M' y = some ys⟩ M1) ∨ (x = .tup xs ∧ y = .tup ys ∧ R ⟨zipD xs ys, fun _ => True⟩ M1))
theorem walk_zipL {K : PySem.W.Frag} {F G0 H0 : Hp} {M0 : Mem} {x y : D} {u v : V} {a b : Addr} {xs ys : List D} (r0 : Rel K F M0 G0 H0) (hx : DR K F (.ref a) x) (hy : DR K F (.ref b) y) : VWalk K F (Itz K a b) ⟨zipD xs ys, fun M' => asL M' x = some xs ∧ asL M' y = some ys⟩ := by
  have at2 : ∀ F1 G H M, Same F F1 → Rel K F1 M G H → asL M x = some xs ∧ asL M y = some ys → ∃ us vs, SqL K H a us ∧ SqL K H b vs ∧ DRs K F1 us xs ∧ DRs K F1 vs ys := fun F1 G H M s r ok => by
    obtain ⟨a', us, e, h1, z1⟩ := asL_at r (hx.up s) ok.1
    obtain ⟨b', vs, e2, h2, z2⟩ := asL_at r (hy.up s) ok.2
    cases e; cases e2
    exact ⟨us, vs, h1, h2, z1, z2⟩
  refine ⟨fun i H F1 G M s r ok hi => ?_, fun H F1 G M s r ok => ?_, fun i H v H' F1 G M s r ok hi yd => ?_⟩
  · obtain ⟨us, vs, h1, h2, z1, z2⟩ := at2 F1 G H M s r ok
    have hi' : i < min us.length vs.length := by rw [z1.len, z2.len, ← zipD_len]; exact hi
    have l1 : i < us.length := by omega
    have l2 : i < vs.length := by omega
    exact ⟨us, vs, us[i], vs[i], h1, h2, by simp [l1], by simp [l2]⟩
  · obtain ⟨us, vs, h1, h2, z1, z2⟩ := at2 F1 G H M s r ok
    have e : (zipD xs ys).length = min us.length vs.length := by rw [z1.len, z2.len, zipD_len]
    exact ⟨us, vs, h1, h2, by rw [show (VIt.mk (zipD xs ys) _).ds = zipD xs ys from rfl, e]; omega⟩
  · obtain ⟨us, vs, h1, h2, z1, z2⟩ := at2 F1 G H M s r ok
    obtain ⟨T, p, q, rfl, hT, rfl, k1, k2⟩ := yd
    obtain ⟨dx, e1, d1⟩ := z1.get (k1 us h1)
    obtain ⟨dy, e2, d2⟩ := z2.get (k2 vs h2)
    obtain ⟨F2, s2, r2, d3⟩ := pair_new r hT d1 d2
    exact ⟨F2, _, s2, r2, zipD_get e1 e2, d3⟩
theorem walk_zipT {K : PySem.W.Frag} {F : Hp} {a b : Addr} {us vs : List V} {xs ys : List D} (hx : SqT K F a us) (hy : SqT K F b vs) (z1 : DRs K F us xs) (z2 : DRs K F vs ys) : VWalk K F (RZ.ItzT K a b) ⟨zipD xs ys, fun _ => True⟩ := by
  refine ⟨fun i H F1 G M s r ok hi => ?_, fun H F1 G M s r ok => ?_, fun i H v H' F1 G M s r ok hi yd => ?_⟩
  · have hi' : i < min us.length vs.length := by rw [z1.len, z2.len, ← zipD_len]; exact hi
    have l1 : i < us.length := by omega
    have l2 : i < vs.length := by omega
    exact ⟨us, vs, us[i], vs[i], same_tup r.sub (same_tup s hx), same_tup r.sub (same_tup s hy), by simp [l1], by simp [l2]⟩
  · have e : (zipD xs ys).length = min us.length vs.length := by rw [z1.len, z2.len, zipD_len]
    exact ⟨us, vs, same_tup r.sub (same_tup s hx), same_tup r.sub (same_tup s hy), by rw [show (VIt.mk (zipD xs ys) _).ds = zipD xs ys from rfl, e]; omega⟩
  · obtain ⟨T, p, q, rfl, hT, rfl, k1, k2⟩ := yd
    obtain ⟨dx, e1, d1⟩ := (z1.up s).get (k1 us (same_tup r.sub (same_tup s hx)))
    obtain ⟨dy, e2, d2⟩ := (z2.up s).get (k2 vs (same_tup r.sub (same_tup s hy)))
    obtain ⟨F2, s2, r2, d3⟩ := pair_new r hT d1 d2
    exact ⟨F2, _, s2, r2, zipD_get e1 e2, d3⟩
theorem two_of {K : PySem.W.Frag} {F : Hp} {xs : List V} {x y : D} (h : DRs K F xs [x, y]) : ∃ v u, xs = [v, u] ∧ DR K F v x ∧ DR K F u y := by
  cases h with
  | cons a b =>
    obtain ⟨u, rfl, z⟩ := one_of b
    exact ⟨_, u, rfl, a, z⟩
theorem vi_zip {elts : List Expr} {kk : Nat} {tpos : Pos} (hm : X.mg "zip" = none) (ha : VA X [a, b] t) (hg : Gl X "zip" := by rfl)
    (hs : starEach [a, b] X.env = (false, eval a X.env) :: starEach [b] X.env := by rfl) (hpl : (backTo pos (starEach [b] X.env)).any (·.1) = false := by rfl) : VI X (.Tuple elts kk tpos) (.Call (.Name "zip" p) [a, b] [] pos) (iZp t) :=
  PI_imp (RZ.pi_zipA hg hm ha hs hpl) fun σ H R ⟨F, M, G, e, R', hs, hr, q, o⟩ => ⟨F, M, G, e, _, hs, hr, q, fun vs H1 F1 M1 ds s1 r1 d1 ⟨x, y, xs, ys, ed, q1⟩ => by
    subst ed
    obtain ⟨v, u, rfl, z1, z2⟩ := two_of d1
    rcases q1 with ⟨e1, e2, q1⟩ | ⟨rfl, rfl, q1⟩
    · obtain ⟨p1, w1, rfl, h1, y1⟩ := asL_at r1 z1 e1
      obtain ⟨p2, w2, rfl, h2, y2⟩ := asL_at r1 z2 e2
      exact ⟨p1, p2, w1, w2, rfl, .inl ⟨h1, h2, o _ _ H1 F1 M1 s1 r1 (walk_zipL (u := .non) (v := .non) r1 z1 z2) q1⟩⟩
    · cases z1 with
      | tup h1 y1 =>
        cases z2 with
        | tup h2 y2 => exact ⟨_, _, _, _, rfl, .inr ⟨same_tup r1.sub h1, same_tup r1.sub h2, o _ _ H1 F1 M1 s1 r1 (walk_zipT h1 h2 y1 y2) q1⟩⟩⟩
@[simp] def iEn (t : VTA) : VTI := fun e M R => t e M fun ds M1 => ∃ x xs, ds = [x] ∧ asL M1 x = some xs ∧ R ⟨enD xs, fun M' => asL M' x = some xs⟩ M1
theorem walk_en {K : PySem.W.Frag} {F : Hp} {x : D} {a : Addr} {xs : List D} (hx : DR K F (.ref a) x) : VWalk K F (Ite K a) ⟨enD xs, fun M' => asL M' x = some xs⟩ := by
  have at1 : ∀ F1 G H M, Same F F1 → Rel K F1 M G H → asL M x = some xs → ∃ us, SqL K H a us ∧ DRs K F1 us xs := fun F1 G H M s r ok => by
    obtain ⟨a', us, e, h1, z1⟩ := asL_at r (hx.up s) ok
    cases e
    exact ⟨us, h1, z1⟩
  refine ⟨fun i H F1 G M s r ok hi => ?_, fun H F1 G M s r ok => ?_, fun i H v H' F1 G M s r ok hi yd => ?_⟩
  · obtain ⟨us, h1, z1⟩ := at1 F1 G H M s r ok
    have l1 : i < us.length := by rw [z1.len, ← enD_len]; exact hi
    exact ⟨us, us[i], h1, by simp [l1]⟩
  · obtain ⟨us, h1, z1⟩ := at1 F1 G H M s r ok
    exact ⟨us, h1, by rw [z1.len, show (VIt.mk (enD xs) _).ds = enD xs from rfl, enD_len]; exact Nat.le_refl _⟩
  · obtain ⟨us, h1, z1⟩ := at1 F1 G H M s r ok
    obtain ⟨T, p, rfl, hT, rfl, k1⟩ := yd
    obtain ⟨dx, e1, d1⟩ := z1.get (k1 us h1)
    obtain ⟨F2, s2, r2, d3⟩ := pair_new r hT (.int _) d1
    exact ⟨F2, _, s2, r2, enD_get e1, d3⟩
theorem vi_enum {elts : List Expr} {kk : Nat} {tpos : Pos} (hm : X.mg "enumerate" = none) (ha : VA X [a] t) (hg : Gl X "enumerate" := by rfl) (hs : starEach [a] X.env = [(false, eval a X.env)] := by rfl) : VI X (.Tuple elts kk tpos) (.Call (.Name "enumerate" p) [a] [] pos) (iEn t) :=
  PI_imp (pi_enum hg hm ha hs) fun σ H R ⟨F, M, G, e, R', hs, hr, q, o⟩ => ⟨F, M, G, e, _, hs, hr, q, fun vs H1 F1 M1 ds s1 r1 d1 ⟨x, xs, ed, e1, q1⟩ => by
    subst ed
    obtain ⟨v, rfl, z1⟩ := one_of d1
    obtain ⟨p1, w1, rfl, h1, y1⟩ := asL_at r1 z1 e1
    exact ⟨p1, w1, rfl, h1, o _ _ H1 F1 M1 s1 r1 (walk_en z1) q1⟩⟩

theorem drs_rg {K : PySem.W.Frag} {F : Hp} (a b : Int) : DRs K F (rgV a b) (rgD a (b - a).toNat) := by
  unfold rgV rgD
  induction List.range (b - a).toNat with
  | nil => exact .nil
  | cons x xs ih => exact .cons (.int _) ih
@[simp] def vLstRg1 (te : VTE) : VTE := fun e M Q => te e M fun x M1 => ∃ n, x = .int n ∧ -4611686018427387904 ≤ n ∧ n ≤ 16777216 ∧ Q (.lst (rgD 0 n.toNat)) M1
theorem v_listRg1 {p2 pos2 : Pos} (hc : X.calm = true) (hm : X.mg "list" = none) (hr : X.mg "range" = none) (ha : VE X a ta) (hg : Gl X "list" := by rfl) (hg2 : Gl X "range" := by rfl)
    (na : starEach [a] X.env = (false, eval a X.env) :: starEach [] X.env := by rfl) (ne : starEach [.Call (.Name "range" p2) [a] [] pos2] X.env = (false, eval (.Call (.Name "range" p2) [a] [] pos2) X.env) :: starEach [] X.env := by rfl) :
    VE X (.Call (.Name "list" p) [.Call (.Name "range" p2) [a] [] pos2] [] pos) (vLstRg1 ta) :=
  v_pe (pe_listRg hc hg hm (prg_1 hg2 hr ha na) ne) fun F M G σ H e Q' Q hs hr q o => ⟨F, M, G, e, _, hs, hr, q, fun v H1 F1 M1 d s1 r1 d1 ⟨n, ed, b1, b2, q1⟩ => by
    subst ed
    cases d1
    refine ⟨n, rfl, ⟨by omega, by omega, by omega, by omega, by omega⟩, fun p hp => ?_⟩
    have q2 : Q' (.lst (rgD 0 (n - 0).toNat)) M1 := by rw [Int.sub_zero]; exact q1
    exact (o.up s1).newL r1 (drs_rg 0 n) q2 p hp⟩

def oLtD : VR2 := fun x y M Q => Sh 30 x ∧ Sh 30 y ∧ PySem.W.alike (py x) (py y) = true ∧ py x ≠ .none ∧ Q (.bl (PySem.W.dataLt (py x) (py y))) M
theorem o_ltD {k : Nat} (hr : Room k X.A) : OpR X (compareOp .Lt) (l2 X.K oLtD) := fun pins s σ H x y v u Q I rx ry ⟨F, M, G, a, b, Q', r, da, db, ⟨s1, s2, hal, hn, q⟩, o⟩ => by
  obtain ⟨as, r1⟩ := Dp.reads I _ _ _ (DR.dp r.sub a x (sh_noObj 30 a s1) da) rx
  obtain ⟨bs, r2⟩ := Dp.reads I _ _ _ (DR.dp r.sub b y (sh_noObj 30 b s2) db) ry
  refine PySem.W.lt_data r1 r2 hal hn ?_ ⟨.bl _, H, I, rfl, o _ H F M _ (Same.refl F) r (.bl _) q⟩
  have h1 := (sh_py 30 a s1).2
  have h2 := hu64 hr
  have h3 : min (py a).depth (py b).depth ≤ (py a).depth := Nat.min_le_left _ _
  omega
end
section
open PyProof.Rows PySem.W
theorem sorted_seq {prog : Program} {w : World} {A : Around} {E : Value → Shared → Prop} {s : Shared} {β : Type} {vs : List Value} {bs : List β} {enc : β → PyData} {R : Value → β → Prop} {l : Addr} {Q : Value → Shared → Prop} {T : String} {o : Obj} {n : Nat} (hT : T = "list" ∨ T = "tuple")
    (ho : s.heap.get? l = some o) (hc : o.cls = .type T) (hd : o.data = .seq vs.toArray n) (e : EachIs R vs bs) (er : EachIs (fun v b => ∃ as, Reads s.heap v (enc b) as) vs bs) (hal : AllAlike (bs.map enc)) (hk : Sortable (bs.map enc)) (hL : bs.length ≤ sizeLine)
    (hu : ∀ b, b ∈ bs → A.units + 2 + (enc b).depth < cLine)
    (h : ∀ (h' f : Heap) (out : List Value), (∀ b o, s.heap.get? b = some o → h'.get? b = some o) → (∀ b o, h'.get? b = some o → f.get? b = some o) → (∃ ep, f.get? h'.objs.size = some (seqObj "list" out.toArray ep)) → EachIs R out (bs.mergeSort (dataLe false enc)) → Q (.ref h'.objs.size) { s with heap := f }) :
    wpAny (model prog w) A (call (.builtin "sorted") [.ref l]) Q E s := by
  have hL' : vs.length ≤ sizeLine := by rw [e.length]; exact hL
  refine call_function_entry_kw kind_sorted plain_sorted entry_sorted (args_sorted1 _) ?_
  unfold Builtin.«sorted»
  refine wpAny_bind (m := checkCount "sorted" 1 1 _) (wpAny_pure ?_)
  refine wpAny_bind (wpAny_collect_seq l hT ho hc hd (fun h' keep => ?_) (by rw [List.size_toArray]; exact hL'))
  refine wpAny_bind (wpAny_newList ?_ hL')
  have at2 : (h'.push (seqObj "list" vs.toArray 0)).get? h'.objs.size = some (seqObj "list" vs.toArray 0) := Heap.get?_push_size _ rfl
  have er' : EachIs (fun v b => ∃ as, Reads (sortingHeap (h'.push (seqObj "list" vs.toArray 0)) h'.objs.size vs) v (enc b) as) vs bs := er.mono fun _ _ ⟨as, r⟩ => ⟨as, PyProof.Rows.Reads.keeps (fun b o q => sortingHeap_old (Nat.ne_of_lt (Heap.lt_size (keep b o q))) (Heap.get?_push_of_some _ (keep b o q))) r⟩
  refine wpAny_bind (wpAny_holding (wpAny_call_entry_kw slot_list_sort ⟨_, at2, rfl⟩ entry_list_sort ?body (args_list_sort _)))
  case body =>
    refine list_sort_vals (κ := dataKind (sortingHeap (h'.push (seqObj "list" vs.toArray 0)) h'.objs.size vs) (bs.map enc)) (s := { s with heap := h'.push (seqObj "list" vs.toArray 0) }) at2 (SortsAt.data (s := { s with heap := sortingHeap (h'.push (seqObj "list" vs.toArray 0)) h'.objs.size vs }) (each_map (R := fun v d => ∃ as, Reads (sortingHeap (h'.push (seqObj "list" vs.toArray 0)) h'.objs.size vs) v d as) enc er') hal hk (bound_map hu)) hL' ⟨_, rfl, wpAny_pure ⟨_, rfl, ?_⟩⟩
    exact h h' _ _ keep (fun b o q => by rw [sortedHeap_old (Nat.ne_of_lt (Heap.lt_size q)) (by rw [size_push']; exact Nat.lt_succ_of_lt (Heap.lt_size q))]; exact Heap.get?_push_of_some _ q) (sortedHeap_at at2) (sortVals_data false e er' hal)
end
section
variable {X : Cx}
/-- sorted of alike data -/
def rSortD : VRs
  | [x], M, Q => ∃ ds, asI M x = some ds ∧ (∀ d ∈ ds, Sh 30 d) ∧ PySem.W.AllAlike (ds.map py) ∧ PySem.W.Sortable (ds.map py) ∧ ds.length ≤ sizeLine ∧ Q (.lst (ds.mergeSort (PySem.W.dataLe false py))) M
  | _, _, _ => False
theorem each_of {K : PySem.W.Frag} {F : Hp} : ∀ {ds : List D} {vs : List V} {us : List Value}, Vals vs us → DRs K F vs ds → PySem.W.EachIs (fun u (p : V × D) => RelV p.1 u ∧ DR K F p.1 p.2) us (vs.zip ds)
  | [], _, _, r, h => by cases h; cases r; exact .nil
  | d :: ds, _, _, r, h => by
    cases h with
    | cons a b =>
      cases r with
      | cons r1 r2 => exact .cons ⟨r1, a⟩ (each_of r2 b)
theorem of_each {K : PySem.W.Frag} {F : Hp} : ∀ {ps : List (V × D)} {us : List Value}, PySem.W.EachIs (fun u (p : V × D) => RelV p.1 u ∧ DR K F p.1 p.2) us ps → Vals (ps.map (·.1)) us ∧ DRs K F (ps.map (·.1)) (ps.map (·.2))
  | [], _, h => by cases h; exact ⟨.nil, .nil⟩
  | p :: ps, _, h => by
    cases h with
    | cons a b =>
      obtain ⟨h1, h2⟩ := of_each b
      exact ⟨.cons a.1 h1, .cons a.2 h2⟩
theorem DRs.zip2 {K : PySem.W.Frag} {F : Hp} : ∀ {ds : List D} {vs : List V}, DRs K F vs ds → (vs.zip ds).map (·.2) = ds
  | [], _, h => by cases h; rfl
  | d :: ds, _, h => by
    cases h with
    | cons a b => rw [List.zip_cons_cons, List.map_cons, DRs.zip2 b]
theorem c_sortD {k : Nat} (hr : Room k X.A) : CallR X (.builtin "sorted") (ls X.K rSortD) := by
  intro pins s σ H vs us Q I r ⟨F, M, G, ds, Q', rel, dv, q, o⟩
  unfold rSortD at q
  split at q
  · obtain ⟨v, rfl, z⟩ := one_of dv
    obtain ⟨xs, e, sh, al, so, hL, q⟩ := q
    obtain ⟨u, rfl, ru⟩ := r.one
    obtain ⟨a, ws, rfl, z2, hh⟩ := asI_at rel z e
    cases ru
    have hu := hu64 hr
    have fin : ∀ {T : String} {ob : Obj} {n : Nat} {its : List Value}, (T = "list" ∨ T = "tuple") → s.heap.get? a = some ob → ob.cls = .type T → ob.data = .seq its.toArray n → Vals ws its → wpAny (model X.prog X.w) X.A (call (.builtin "sorted") [.ref a]) (EP X pins σ Q) X.xe s := fun {T ob n its} hT ho hc hd rv => by
      have em : (ws.zip xs).map (fun p => py p.2) = xs.map py := by
        have := congrArg (List.map py) z2.zip2
        rw [List.map_map] at this
        exact this
      refine sorted_seq (R := fun u (p : V × D) => RelV p.1 u ∧ DR X.K F p.1 p.2) (bs := ws.zip xs) (enc := fun p => py p.2) hT ho hc hd (each_of rv z2) ?_ (by rw [em]; exact al) (by rw [em]; exact so) (by rw [List.length_zip, z2.len, Nat.min_self]; exact hL) (fun b hb => ?_) fun h' f out k1 k2 ⟨ep, h3⟩ eo => ?_
      · refine (PySem.W.each_mem (each_of rv z2)).mono fun u p ⟨⟨h1, h2⟩, hp⟩ => ?_
        exact Dp.reads I _ _ _ (DR.dp rel.sub p.2 p.1 (sh_noObj 30 p.2 (sh p.2 (List.of_mem_zip (show (p.1, p.2) ∈ ws.zip xs from hp)).2)) h2) h1
      · have := (sh_py 30 b.2 (sh b.2 (List.of_mem_zip (show (b.1, b.2) ∈ ws.zip xs from hb)).2)).2
        show X.A.units + 2 + (py b.2).depth < cLine
        omega
      · obtain ⟨v1, d1⟩ := of_each eo
        have e3 : ((ws.zip xs).mergeSort (PySem.W.dataLe false fun p => py p.2)).map (·.2) = xs.mergeSort (PySem.W.dataLe false py) := by
          have z := List.map_mergeSort (f := fun (p : V × D) => p.2) (r := PySem.W.dataLe false fun (p : V × D) => py p.2) (s := PySem.W.dataLe false py) (l := ws.zip xs) (fun a _ b _ => rfl)
          rw [z2.zip2] at z
          exact z
        rw [e3] at d1
        have I1 : Inv X pins σ H { s with heap := h' } := I.kept (t' := s.toks) k1
        have hp : H h'.objs.size = none := I1.hok.fresh (Nat.le_refl _)
        refine ⟨.ref h'.objs.size, upd H h'.objs.size (.lst _), I1.laid (t' := s.toks) k2 (Nat.le_refl _) ⟨?_, out, ep, v1, h3⟩, rfl, o.newL rel d1 q _ hp⟩
        rw [List.length_map, List.length_mergeSort, List.length_zip, z2.len, Nat.min_self]
        exact hL
    rcases hh with hl | ⟨ht, _⟩
    · obtain ⟨its, rv, pl, hz⟩ := I.list hl
      obtain ⟨ob, h1, h2, n, h3⟩ := pl.isList
      exact fin (.inl rfl) h1 h2 h3 rv
    · obtain ⟨its, rv, pl, hz⟩ := I.tuple ht
      obtain ⟨ob, h1, h2, n, h3⟩ := pl
      exact fin (.inr rfl) h1 h2 h3 rv
  · exact q.elim
end
end VL
namespace VL
open PySem PySem.Spec L2
open PyProof.Rows (envOfC)

/-- x names this def -/
structure Df (K : PySem.W.Frag) (mg : Str → Option Value) (x : Str) (st : Stmt) : Prop where
  ex : ∃ f fd, mg x = some (.ref f) ∧ FunD K x x (defArgs st) (defBody st) (defScope st) [] [] f fd
/-- x names a def that keeps its promise -/
structure Kn (P : Program) (w : World) (K : PySem.W.Frag) (mg : Str → Option Value) (base : Heap) (k : Nat) (x : Str) (ps : List Str) (φ : VSp) : Prop where
  ex : ∃ f fd, mg x = some (.ref f) ∧ PySem.W.keepIn K (.ref f) = true ∧ Binds K fd ps [] ∧ (∀ (s : Shared) (us : List Value), us.length = ps.length → BindsTo s fd ⟨us, []⟩ (ps.zip us)) ∧ (∃ oc od osl, K.lookup f = some ⟨oc, od, .func fd, osl⟩) ∧ FnG P w K mg base CX0 k f fd ps (lSp K φ)
theorem kn_of {P : Program} {w : World} {K : PySem.W.Frag} {mg : Str → Option Value} {base : Heap} {x : Str} {st : Stmt} {N ps : List Str} {k : Nat} {φ : VSp} (hD : Df K mg x st) (S : FnScope N ps (defScope st))
    (hb : ∀ (kV doc pm : Value) (an : Option Addr) (cdv ct : Value) (us : List Value), us.length = ps.length → bindArgs (PySem.W.fnOf x x (defArgs st) (defBody st) (defScope st) .none kV doc pm an cdv ct) ⟨us, []⟩ = pure (ps.zip us))
    (len : ∀ ds M Q, φ ds M Q → ds.length = ps.length)
    (hbody : ∀ (f : Addr) (cdv : Value) (A : Around) (outer : List Env) (s : Shared) (H : Hp) (E : XK), RmG k (A.deeper (envOfC x (defScope st) s.heap.objs.size f cdv)) →
      ∃ t, VSs (cxOf CX0 P w K mg base N x (defScope st) f cdv A outer s H E).nox (defBody st) t ∧ ∀ ds M Q, φ ds M Q → t { nx := fun _ M' => Q .non M', rt := Q } (vstart N.length ds) M) : Kn P w K mg base (k + 1) x ps φ := by
  obtain ⟨f, fd, hm, F⟩ := hD.ex
  have lk : ∃ oc od osl, K.lookup f = some ⟨oc, od, .func fd, osl⟩ := by
    obtain ⟨oc, od, dV, kV, doc, pm, an, cdv, ct, osl, rfl, lk, hcd, _, _⟩ := F.ex
    exact ⟨oc, od, osl, lk⟩
  exact ⟨f, fd, hm, F.kp, F.bindsN hb, FunD.bindsA F hb, lk, okG F S len fun cdv A outer s H E hr => hbody f cdv A outer s H E hr⟩
theorem kn_ofD {P : Program} {w : World} {K : PySem.W.Frag} {mg : Str → Option Value} {base : Heap} {x : Str} {st : Stmt} {N ps : List Str} {k : Nat} {φ : VSp} (hD : Df K mg x st) (S : FnScope N ps (defScope st))
    (hb : ∀ (kV doc pm : Value) (an : Option Addr) (cdv ct : Value) (us : List Value), us.length = ps.length → bindArgs (PySem.W.fnOf x x (defArgs st) (defBody st) (defScope st) .none kV doc pm an cdv ct) ⟨us, []⟩ = pure (ps.zip us))
    (len : ∀ ds M Q, φ ds M Q → ds.length = ps.length)
    (hbody : ∀ (f : Addr) (cdv : Value) (A : Around) (outer : List Env) (s : Shared) (H : Hp) (E : XK), RmG k (A.deeper (envOfC x (defScope st) s.heap.objs.size f cdv)) →
      ∃ t, VSs (cxOf CX0 P w K mg base N x (defScope st) f cdv A outer s H E).nox (defBody st) t ∧ ∀ ds M Q, φ ds M Q → t { nx := fun _ M' => ∃ M'', Sub M'' M' ∧ Q .non M'', rt := fun d M' => ∃ M'', Sub M'' M' ∧ Q d M'' } (vstart N.length ds) M) : Kn P w K mg base (k + 1) x ps φ := by
  obtain ⟨f, fd, hm, F⟩ := hD.ex
  have lk : ∃ oc od osl, K.lookup f = some ⟨oc, od, .func fd, osl⟩ := by
    obtain ⟨oc, od, dV, kV, doc, pm, an, cdv, ct, osl, rfl, lk, hcd, _, _⟩ := F.ex
    exact ⟨oc, od, osl, lk⟩
  exact ⟨f, fd, hm, F.kp, F.bindsN hb, FunD.bindsA F hb, lk, okGD F S len fun cdv A outer s H E hr => hbody f cdv A outer s H E hr⟩
theorem Kn.imp {P : Program} {w : World} {K : PySem.W.Frag} {mg : Str → Option Value} {base : Heap} {k : Nat} {x : Str} {ps : List Str} {φ ψ : VSp} (h : Kn P w K mg base k x ps φ) (i : ∀ ds M Q, ψ ds M Q → φ ds M Q) : Kn P w K mg base k x ps ψ := by
  obtain ⟨f, fd, hm, kp, b1, b2, lk, F⟩ := h.ex
  refine ⟨f, fd, hm, kp, b1, b2, lk, ⟨fun vs H Q E ⟨F', M, G, ds, Q', dv, r, q, o⟩ => F.len vs H Q E ⟨F', M, G, ds, Q', dv, r, i _ _ _ q, o⟩, fun A outer s H args us vs Q E hr e0 bt rv ⟨F', M, G, ds, Q', dv, r, q, o⟩ => F.run A outer s H args us vs Q E hr e0 bt rv ⟨F', M, G, ds, Q', dv, r, i _ _ _ q, o⟩⟩⟩
section
variable {X : Cx} {e : Expr} {es : List Expr} {t : VTA} {pos p : Pos} {x : Str} {j k : Nat} {ps : List Str} {φ : VSp}
theorem v_callK (F : Kn X.prog X.w X.K X.mg X.base j x ps φ) (hr : RmG k X.A) (ha : VA X (e :: es) t) (hk : j ≤ k := by decide) (hg : Gl X x := by rfl)
    (hdb : (x == ("__debug__" : Str)) = false := by decide) (he : starEach (e :: es) X.env = (false, eval e X.env) :: starEach es X.env := by rfl) (hpl : (backTo pos (starEach es X.env)).any (·.1) = false := by rfl) :
    VE X (.Call (.Name x p) (e :: es) [] pos) (vFn φ t) := by
  obtain ⟨f, fd, hm, kp, b1, b2, lk, F⟩ := F.ex
  exact v_call (F.mono hk) hr hm kp b1 ha hg hdb he hpl
end
def pr1 (f : D → Mem → VK → Prop) : VSp := fun ds M Q => ∃ a, ds = [a] ∧ f a M Q
def pr2 (f : D → D → Mem → VK → Prop) : VSp := fun ds M Q => ∃ a b, ds = [a, b] ∧ f a b M Q
def pr3 (f : D → D → D → Mem → VK → Prop) : VSp := fun ds M Q => ∃ a b c, ds = [a, b, c] ∧ f a b c M Q
theorem pr1_len {f : D → Mem → VK → Prop} {x : Str} : ∀ ds M Q, pr1 f ds M Q → ds.length = [x].length := fun ds M Q ⟨a, e, _⟩ => by rw [e] <;> rfl
theorem pr2_len {f : D → D → Mem → VK → Prop} {x y : Str} : ∀ ds M Q, pr2 f ds M Q → ds.length = [x, y].length := fun ds M Q ⟨a, b, e, _⟩ => by rw [e] <;> rfl
theorem pr3_len {f : D → D → D → Mem → VK → Prop} {x y z : Str} : ∀ ds M Q, pr3 f ds M Q → ds.length = [x, y, z].length := fun ds M Q ⟨a, b, c, e, _⟩ => by rw [e] <;> rfl
/-- names that are built-ins -/
def Fr (mg : Str → Option Value) (bl : List Str) : Prop := ∀ x ∈ bl, mg x = none

theorem walk_K {l : PySem.W.OpenLaw} {n k : Nat} {q : Program} {loose : List Str} {XP : (Str → Option Value) → Heap → Prop} {YP : World → Heap → Prop} {d : DefRec} {x : Str} {φ : VSp}
    (most : l.most = some n) (short : n ≤ sizeLine) (nodef : d.params.defaults = []) (room : Room k callerA) (hφ : ∀ (ns : List Int), ns.length ≤ n → ∀ M : Mem, φ [.rd (ns.map D.int)] M fun d _ => d = .bl true)
    (F : ∀ (w : World) (mg : Str → Option Value) (h : Heap), YP w h → h.Ns mainGlobals mg → ∃ (K : PySem.W.Frag), K.In h ∧ ∀ base : Heap, K.In base → base.Ns mainGlobals mg → Kn l.prog w K mg base k d.name [x] φ) :
    PySem.W.WalkO q loose XP YP l.row.toRowW d [] (fun f vs => PySem.call f vs) :=
  walk_G most short nodef room fun w mg fa h Y G hmg => by
    obtain ⟨K, KX, hK⟩ := F w mg h Y G
    obtain ⟨f, fd, hm, kp, b1, b2, ⟨oc, od, osl, lk⟩, _⟩ := (hK h KX G).ex
    rw [hmg] at hm
    cases hm
    refine ⟨K, fd, φ, KX, fun s u => b2 s [u] rfl, hφ, fun base hb hG => ?_⟩
    obtain ⟨f', fd', hm', kp', b1', b2', ⟨oc', od', osl', lk'⟩, F'⟩ := (hK base hb hG).ex
    rw [hmg] at hm'
    cases hm'
    rw [lk] at lk'
    cases lk'
    exact F'
end VL
namespace VL
open PySem PySem.Spec L2
@[simp] theorem oEq_int {i j : Int} {M : Mem} {Q : VL.VK} : oEq (.int i) (.int j) M Q ↔ Q (.bl (decide (i = j))) M := by
  unfold oEq
  constructor
  · rintro (⟨a, b, e, _⟩ | ⟨_, _, q⟩)
    · cases e
    · rw [fz_int, fz_int, eqD_int] at q; exact q
  · intro q
    exact .inr ⟨sh_int, sh_int, by rw [fz_int, fz_int, eqD_int]; exact q⟩
@[simp] theorem oNe_int {i j : Int} {M : Mem} {Q : VL.VK} : oNe (.int i) (.int j) M Q ↔ Q (.bl (!decide (i = j))) M := by
  unfold oNe
  constructor
  · rintro (⟨a, b, e, _⟩ | ⟨_, _, q⟩)
    · cases e
    · rw [fz_int, fz_int, eqD_int] at q; exact q
  · intro q
    exact .inr ⟨sh_int, sh_int, by rw [fz_int, fz_int, eqD_int]; exact q⟩
@[simp] theorem oNe_str {i j : Str} {M : Mem} {Q : VL.VK} : oNe (.str i) (.str j) M Q ↔ Q (.bl (!decide (i = j))) M := by
  unfold oNe
  constructor
  · rintro (⟨a, b, e, e2, q⟩ | ⟨_, _, q⟩)
    · cases e; cases e2; exact q
    · rw [fz_str, fz_str, eqD_str] at q; exact q
  · intro q
    exact .inl ⟨i, j, rfl, rfl, q⟩
@[simp] theorem oEq_str {i j : Str} {M : Mem} {Q : VL.VK} : oEq (.str i) (.str j) M Q ↔ Q (.bl (decide (i = j))) M := by
  unfold oEq
  constructor
  · rintro (⟨a, b, e, e2, q⟩ | ⟨_, _, q⟩)
    · cases e; cases e2; exact q
    · rw [fz_str, fz_str, eqD_str] at q; exact q
  · intro q
    exact .inl ⟨i, j, rfl, rfl, q⟩
theorem eqDs_nil_iff {xs : List D} : eqDs xs [] = xs.isEmpty := by
  cases xs with
  | nil => rw [eqDs_nil] <;> rfl
  | cons x xs => rw [eqDs_cn] <;> rfl
theorem fz_of {M : Mem} {d : D} {xs : List D} (h : asL M d = some xs) : fz M d = .lst xs := by unfold fz; rw [h]
/-- xs != [] -/
theorem oNe_nil {d : D} {xs : List D} {M : Mem} {Q : VL.VK} (h : asL M d = some xs) (s : ∀ x ∈ xs, Sh 29 x) (q : Q (.bl (!xs.isEmpty)) M) : oNe d (.lst []) M Q :=
  .inr ⟨by rw [fz_of h]; exact s, by rw [fz_lst]; exact (fun _ z => nomatch z), by rw [fz_of h, fz_lst, eqD_lst, eqDs_nil_iff]; exact q⟩
@[simp] theorem asL_lst {M : Mem} {xs : List D} : asL M (.lst xs) = some xs := rfl
@[simp] theorem asL_rd {M : Mem} {xs : List D} : asL M (.rd xs) = some xs := rfl
@[simp] theorem asP_lst {M : Mem} {xs : List D} : asP M (.lst xs) = some xs := rfl
@[simp] theorem asL_tup {M : Mem} {xs : List D} : asL M (.tup xs) = none := rfl
@[simp] theorem mupd_same' {M : Mem} {a : Addr} {o : MO} : mupd M a o a = some o := mupd_same
@[simp] theorem kB_int_int : kitB "int" "int" = some true := by decide +kernel
@[simp] theorem kB_int_bool : kitB "int" "bool" = some false := by decide +kernel
@[simp] theorem kB_tup_tup : kitB "tuple" "tuple" = some true := by decide +kernel
@[simp] theorem fz_int' {M : Mem} {i : Int} : fz M (.int i) = .int i := rfl
@[simp] theorem pr1_at {f : D → Mem → VL.VK → Prop} {a : D} {M : Mem} {Q : VL.VK} : pr1 f [a] M Q ↔ f a M Q := ⟨fun ⟨_, e, h⟩ => by cases e; exact h, fun h => ⟨a, rfl, h⟩⟩
@[simp] theorem pr2_at {f : D → D → Mem → VL.VK → Prop} {a b : D} {M : Mem} {Q : VL.VK} : pr2 f [a, b] M Q ↔ f a b M Q := ⟨fun ⟨_, _, e, h⟩ => by cases e; exact h, fun h => ⟨a, b, rfl, h⟩⟩
@[simp] theorem pr3_at {f : D → D → D → Mem → VL.VK → Prop} {a b c : D} {M : Mem} {Q : VL.VK} : pr3 f [a, b, c] M Q ↔ f a b c M Q := ⟨fun ⟨_, _, _, e, h⟩ => by cases e; exact h, fun h => ⟨a, b, c, rfl, h⟩⟩
@[simp] theorem oSl_tup {xs : List D} {lo hi : Option Int} {M : Mem} {Q : VL.VK} : oSl (.tup xs) lo hi M Q ↔ Q (.tup (cutD xs lo hi)) M := Iff.rfl
@[simp] theorem oSl_lst {xs : List D} {lo hi : Option Int} {M : Mem} {Q : VL.VK} : oSl (.lst xs) lo hi M Q ↔ Q (.lst (cutD xs lo hi)) M := ⟨fun ⟨_, e, q⟩ => by cases e; exact q, fun q => ⟨_, rfl, q⟩⟩
@[simp] theorem oSl_rd {xs : List D} {lo hi : Option Int} {M : Mem} {Q : VL.VK} : oSl (.rd xs) lo hi M Q ↔ Q (.lst (cutD xs lo hi)) M := ⟨fun ⟨_, e, q⟩ => by cases e; exact q, fun q => ⟨_, rfl, q⟩⟩
theorem cut_tail {α : Type} (xs : List α) : cutD xs (some 1) none = xs.tail := by
  unfold cutD
  cases xs with
  | nil => rfl
  | cons x xs =>
    have e1 : HT.sIx (x :: xs).length 0 (some 1) = 1 := by
      show (if (1 : Int) < 0 then ((1 : Int) + ((x :: xs).length : Int)).toNat else min (1 : Int).toNat (x :: xs).length) = 1
      rw [if_neg (by decide)]
      simp
    have e2 : HT.sIx (x :: xs).length (x :: xs).length none = (x :: xs).length := rfl
    rw [e1, e2]
    simp
theorem cut_take {α : Type} (xs : List α) (k : Nat) : cutD xs none (some (k : Int)) = xs.take k := by
  unfold cutD
  have e2 : HT.sIx xs.length xs.length (some (k : Int)) = min k xs.length := HT.sIx_nat _ _ _
  have e1 : HT.sIx xs.length 0 none = 0 := rfl
  rw [e1, e2, List.drop_zero, Nat.sub_zero]
  rcases Nat.le_total k xs.length with h | h
  · rw [Nat.min_eq_left h]
  · rw [Nat.min_eq_right h, List.take_length, List.take_of_length_le h]
@[simp] theorem gMore_cons {t : VTG} {u : VTGs} {d : D} {ds : List D} {e : VEnv} {M : Mem} {Q : VEnv → Mem → Prop} : gMore t u (d :: ds) e M Q ↔ t d e M fun e1 M1 => u ds e1 M1 Q := ⟨fun ⟨_, _, e, q⟩ => by cases e; exact q, fun q => ⟨d, ds, rfl, q⟩⟩
@[simp] theorem gNone_nil {e : VEnv} {M : Mem} {Q : VEnv → Mem → Prop} : gNone [] e M Q ↔ Q e M := ⟨fun q => q.2, fun q => ⟨rfl, q⟩⟩
theorem atI_ge {α : Type} {xs : List α} {i : Int} (h : 0 ≤ i) : L2.atI xs i = xs[i.toNat]? := by
  unfold L2.atI L2.ixN
  rw [if_pos h]
  by_cases h1 : i < xs.length
  · rw [if_pos h1] <;> rfl
  · rw [if_neg h1, List.getElem?_eq_none (by omega)] <;> rfl
@[simp] theorem atI_0 {α : Type} {xs : List α} : L2.atI xs 0 = xs[0]? := atI_ge (by decide)
@[simp] theorem atI_1 {α : Type} {xs : List α} : L2.atI xs 1 = xs[1]? := atI_ge (by decide)
@[simp] theorem atI_2 {α : Type} {xs : List α} : L2.atI xs 2 = xs[2]? := atI_ge (by decide)
theorem atI_k {α : Type} {xs : List α} {k : Nat} : L2.atI xs (k : Int) = xs[k]? := by rw [atI_ge (by omega)]; simp
@[simp] theorem asL_mupd {M : Mem} {a : Addr} {xs : List D} : asL (mupd M a (.lst xs)) (.obj a) = some xs := asL_obj mupd_same
@[simp] theorem asP_mupd {M : Mem} {a : Addr} {xs : List D} : asP (mupd M a (.lst xs)) (.obj a) = some xs := asP_obj mupd_same
@[simp] theorem mupd_mupd' {M : Mem} {a : Addr} {o u : MO} : mupd (mupd M a o) a u = mupd M a u := mupd_mupd
theorem pow3_ok {X : Int} (h0 : 0 ≤ X) (h1 : X < 9223372036854775808) : PowOk X 3 := by
  refine ⟨by decide, by decide, ?_, ?_⟩
  · have : X.natAbs.log2 ≤ 63 := by
      rcases Nat.eq_zero_or_pos X.natAbs with h | h
      · rw [h]; decide
      · have := (Nat.log2_lt (n := X.natAbs) (k := 63) (by omega)).mpr (by omega)
        omega
    omega
  · have : X.natAbs.log2 ≤ 63 := by
      rcases Nat.eq_zero_or_pos X.natAbs with h | h
      · rw [h]; decide
      · have := (Nat.log2_lt (n := X.natAbs) (k := 63) (by omega)).mpr (by omega)
        omega
    omega
theorem take_bd {x n k c : Int} (x1 : 0 ≤ x) (x2 : x < 4611686018427387904) (n1 : 0 ≤ n) (n2 : n ≤ 1000000) (k1 : 0 ≤ k) (k2 : k ≤ 1000000) (c1 : 0 ≤ c) (c2 : c ≤ 1000000) : 0 ≤ x + k * n * n + c ∧ x + k * n * n + c < 9223372036854775808 := by
  have q1 : n * n ≤ 1000000 * 1000000 := Int.mul_le_mul n2 n2 n1 (by decide)
  have q0 : 0 ≤ n * n := Int.mul_nonneg n1 n1
  have q2 : k * (n * n) ≤ 1000000 * (1000000 * 1000000) := Int.mul_le_mul k2 q1 q0 (by decide)
  have q3 : 0 ≤ k * (n * n) := Int.mul_nonneg k1 q0
  rw [Int.mul_assoc]
  omega
theorem log2_small {n : Nat} (h : n ≤ 10000000) : n.log2 < 9000 := by
  rcases Nat.eq_zero_or_pos n with h0 | h0
  · rw [h0]; decide
  · have := (Nat.log2_lt (n := n) (k := 24) (by omega)).mpr (by omega)
    omega
theorem ite01 {p : Prop} [Decidable p] : 0 ≤ (if p then (1 : Int) else 0) := by split <;> decide
theorem ite01a {p : Prop} [Decidable p] : (if p then (1 : Int) else 0).natAbs < 18446744073709551616 := by split <;> decide
theorem mupd3_a {M : Mem} {p a b : Addr} {l l' x y : MO} (h1 : p ≠ a) (h2 : p ≠ b) : mupd (mupd (mupd (mupd M p l) a x) b y) p l' = mupd (mupd (mupd M p l') a x) b y := by
  funext c
  simp only [mupd]
  by_cases e1 : c = p
  · subst e1; simp [h1, h2]
  · simp [e1]
theorem mupd3_b {M : Mem} {a b : Addr} {x y x' : MO} (h : a ≠ b) : mupd (mupd (mupd M a x) b y) a x' = mupd (mupd M a x') b y := by
  funext c
  simp only [mupd]
  by_cases e1 : c = a
  · subst e1; simp [h]
  · simp [e1]
theorem size1000 : 1000 < sizeLine := by decide
/-- for over the items, the body goes on: J i e M holds ahead of the i-th item -/
theorem sFor_by {ti : VTI} {g : VTG} {tb : VTS} {D : VEnds} {e : VEnv} {M : Mem} (w : VIt) (P : Nat → VEnv → Mem → Prop)
    (hi : ∀ R : VIt → Mem → Prop, R w M → ti e M R) (h0 : P 0 e M) (hok : ∀ i e M, i ≤ w.ds.length → P i e M → w.ok M)
    (ht : ∀ i d e M, w.ds[i]? = some d → P i e M → g d e M fun e2 M2 => tb { D with nx := P (i + 1), ct := P (i + 1), bk := D.nx } e2 M2) (hd : ∀ e M, P w.ds.length e M → D.nx e M) : sFor ti g tb D e M :=
  hi _ ⟨P, h0, hok, ht, hd⟩
/-- a comprehension that changes nothing: each item gives a value or nothing -/
def fmap (f : D → Option D) (xs : List D) : List D := xs.filterMap f
theorem vLc_by {ti : VTI} {g : VTG} {tt : VTT} {te : VTE} {vs : List Nat} {e : VEnv} {M : Mem} {Q : VL.VK} (w : VIt) (f : D → Option D) (hi : ∀ R : VIt → Mem → Prop, R w M → ti e M R) (hok : w.ok M) (hl : w.ds.length < sizeLine)
    (ht : ∀ d ∈ w.ds, ∀ (A : D → Mem → Prop) (B : Mem → Prop), (∀ y, f d = some y → A y M) → (f d = none → B M) → g d (vwipe e vs) M fun e2 M2 => tt e2 M2 fun b M3 => if b = true then te e2 M3 A else B M3)
    (q : Q (.lst (w.ds.filterMap f)) M) : vLc ti g tt te vs e M Q := by
  refine hi _ ⟨fun i acc M' => M' = M ∧ i ≤ w.ds.length ∧ acc = (w.ds.take i).filterMap f, ⟨rfl, Nat.zero_le _, by simp⟩, fun i acc M' _ z => by rw [z.1]; exact hok, fun i d acc M' hd ⟨e1, hi, e2⟩ => ?_, fun acc M' ⟨e1, _, e2⟩ => ?_⟩
  · subst e1
    have hlt : i < w.ds.length := by
      rcases Nat.lt_or_ge i w.ds.length with h1 | h1
      · exact h1
      · rw [List.getElem?_eq_none h1] at hd; cases hd
    have hmem : d ∈ w.ds := List.mem_of_getElem? hd
    have htk : w.ds.take (i + 1) = w.ds.take i ++ [d] := by
      rw [List.take_add_one, hd] <;> rfl
    have hal : acc.length < sizeLine := by
      have h1 : acc.length ≤ (w.ds.take i).length := by rw [e2]; exact List.length_filterMap_le ..
      have h2 : (w.ds.take i).length ≤ w.ds.length := by rw [List.length_take]; exact Nat.min_le_right _ _
      omega
    exact ht d hmem (fun y M4 => acc.length < sizeLine ∧ M4 = M' ∧ i + 1 ≤ w.ds.length ∧ acc ++ [y] = (w.ds.take (i + 1)).filterMap f) (fun M3 => M3 = M' ∧ i + 1 ≤ w.ds.length ∧ acc = (w.ds.take (i + 1)).filterMap f)
      (fun y hy => ⟨hal, rfl, hlt, by rw [htk, List.filterMap_append, e2]; simp [hy]⟩) (fun hn => ⟨rfl, hlt, by rw [htk, List.filterMap_append, e2]; simp [hn]⟩)
  · subst e1
    rw [e2, List.take_length]
    exact q
@[simp] theorem sz0 : 0 ≤ sizeLine := by decide
@[simp] theorem sz1 : 1 ≤ sizeLine := by decide
@[simp] theorem sz2 : 2 ≤ sizeLine := by decide
@[simp] theorem sz3 : 3 ≤ sizeLine := by decide
@[simp] theorem sz4 : 4 ≤ sizeLine := by decide
@[simp] theorem sz5 : 5 ≤ sizeLine := by decide
@[simp] theorem sz6 : 6 ≤ sizeLine := by decide
@[simp] theorem sz7 : 7 ≤ sizeLine := by decide
@[simp] theorem sz8 : 8 ≤ sizeLine := by decide
@[simp] theorem sz9 : 9 ≤ sizeLine := by decide
theorem sFor_al {α : Type} {ti : VTI} {g : VTG} {tb : VTS} {D' : VEnds} {e : VEnv} {M : Mem} {w : VIt} (xs : List α) (f : α → D) (P : Nat → VEnv → Mem → Prop)
    (hi : ∀ R : VIt → Mem → Prop, R w M → ti e M R) (hw : w.ds = xs.map f) (h0 : P 0 e M) (hok : ∀ i e M, i ≤ xs.length → P i e M → w.ok M)
    (ht : ∀ i x e M, xs[i]? = some x → i < xs.length → P i e M → g (f x) e M fun e2 M2 => tb { D' with nx := P (i + 1), ct := P (i + 1), bk := D'.nx } e2 M2) (hd : ∀ e M, P xs.length e M → D'.nx e M) : sFor ti g tb D' e M := by
  have hl : w.ds.length = xs.length := by rw [hw, List.length_map]
  refine hi _ ⟨P, h0, fun i e M hi => hok i e M (by rw [← hl]; exact hi), fun i d e M hd' hp => ?_, fun e M hp => hd e M (by rw [← hl]; exact hp)⟩
  rw [hw, List.getElem?_map] at hd'
  cases hx : xs[i]? with
  | none => rw [hx] at hd'; cases hd'
  | some x =>
    rw [hx] at hd'
    cases hd'
    exact ht i x e M hx (by rcases Nat.lt_or_ge i xs.length with h1 | h1; exact h1; rw [List.getElem?_eq_none h1] at hx; cases hx) hp
/-- what is asked of a comprehension once its items are known -/
def LcEx (g : VTG) (tt : VTT) (te : VTE) (vs : List Nat) (e : VEnv) (Q : VL.VK) (w : VIt) (M1 : Mem) : Prop := ∃ P : Nat → List D → Mem → Prop, P 0 [] M1 ∧ (∀ i acc M, i ≤ w.ds.length → P i acc M → w.ok M) ∧
  (∀ i d acc M, w.ds[i]? = some d → P i acc M → g d (vwipe e vs) M fun e2 M2 => tt e2 M2 fun b M3 => if b = true then te e2 M3 fun y M4 => acc.length < sizeLine ∧ P (i + 1) (acc ++ [y]) M4 else P (i + 1) acc M3) ∧
  ∀ acc M, P w.ds.length acc M → Q (.lst acc) M
theorem vLc_of {ti : VTI} {g : VTG} {tt : VTT} {te : VTE} {vs : List Nat} {e : VEnv} {M : Mem} {Q : VL.VK} (h : ti e M fun w M1 => LcEx g tt te vs e Q w M1) : vLc ti g tt te vs e M Q := h
theorem lcEx_alF {α : Type} {g : VTG} {tt : VTT} {te : VTE} {vs : List Nat} {e : VEnv} {M : Mem} {Q : VL.VK} {w : VIt} (xs : List α) (f : α → D) (p : α → Bool) (h : α → D) (hw : w.ds = xs.map f) (hok : w.ok M) (hl : xs.length < sizeLine)
    (ht : ∀ x ∈ xs, ∀ (A : D → Mem → Prop) (B : Mem → Prop), (p x = true → A (h x) M) → (p x = false → B M) → g (f x) (vwipe e vs) M fun e2 M2 => tt e2 M2 fun b M3 => if b = true then te e2 M3 A else B M3)
    (q : Q (.lst ((xs.filter p).map h)) M) : LcEx g tt te vs e Q w M := by
  have hlw : w.ds.length = xs.length := by rw [hw, List.length_map]
  refine ⟨fun i acc M' => M' = M ∧ i ≤ xs.length ∧ acc = ((xs.take i).filter p).map h, ⟨rfl, Nat.zero_le _, by simp⟩, fun i acc M' _ z => by rw [z.1]; exact hok, fun i d acc M' hd ⟨e1, hi, e2⟩ => ?_, fun acc M' ⟨e1, _, e2⟩ => ?_⟩
  · subst e1
    rw [hw, List.getElem?_map] at hd
    cases hx : xs[i]? with
    | none => rw [hx] at hd; cases hd
    | some x =>
      rw [hx] at hd
      cases hd
      have hlt : i < xs.length := by
        rcases Nat.lt_or_ge i xs.length with h1 | h1
        · exact h1
        · rw [List.getElem?_eq_none h1] at hx; cases hx
      have htk : xs.take (i + 1) = xs.take i ++ [x] := by
        rw [List.take_add_one, hx] <;> rfl
      have hal : acc.length < sizeLine := by
        have h1 : acc.length ≤ (xs.take i).length := by rw [e2, List.length_map]; exact List.length_filter_le ..
        have h2 : (xs.take i).length ≤ xs.length := by rw [List.length_take]; exact Nat.min_le_right _ _
        omega
      exact ht x (List.mem_of_getElem? hx) (fun y M4 => acc.length < sizeLine ∧ M4 = M' ∧ i + 1 ≤ xs.length ∧ acc ++ [y] = ((xs.take (i + 1)).filter p).map h) (fun M3 => M3 = M' ∧ i + 1 ≤ xs.length ∧ acc = ((xs.take (i + 1)).filter p).map h)
        (fun hp => ⟨hal, rfl, hlt, by rw [htk, List.filter_append, List.map_append, e2]; simp [hp]⟩) (fun hn => ⟨rfl, hlt, by rw [htk, List.filter_append, List.map_append, e2]; simp [hn]⟩)
  · subst e1
    rw [e2, hlw, List.take_length]
    exact q
theorem vLc_alF {α : Type} {ti : VTI} {g : VTG} {tt : VTT} {te : VTE} {vs : List Nat} {e : VEnv} {M : Mem} {Q : VL.VK} {w : VIt} (xs : List α) (f : α → D) (p : α → Bool) (h : α → D) (hi : ∀ R : VIt → Mem → Prop, R w M → ti e M R) (hw : w.ds = xs.map f) (hok : w.ok M) (hl : xs.length < sizeLine)
    (ht : ∀ x ∈ xs, ∀ (A : D → Mem → Prop) (B : Mem → Prop), (p x = true → A (h x) M) → (p x = false → B M) → g (f x) (vwipe e vs) M fun e2 M2 => tt e2 M2 fun b M3 => if b = true then te e2 M3 A else B M3)
    (q : Q (.lst ((xs.filter p).map h)) M) : vLc ti g tt te vs e M Q := hi _ (lcEx_alF xs f p h hw hok hl ht q)
theorem lcEx_al {α : Type} {g : VTG} {te : VTE} {vs : List Nat} {e : VEnv} {M : Mem} {Q : VL.VK} {w : VIt} (xs : List α) (f : α → D) (h : α → D) (hw : w.ds = xs.map f) (hok : w.ok M) (hl : xs.length < sizeLine)
    (ht : ∀ x ∈ xs, ∀ (A : D → Mem → Prop), A (h x) M → g (f x) (vwipe e vs) M fun e2 M2 => te e2 M2 A)
    (q : Q (.lst (xs.map h)) M) : LcEx g vYes te vs e Q w M := by
  refine lcEx_alF xs f (fun _ => true) h hw hok hl (fun d hd A B hA _ => ?_) (by rw [List.filter_eq_self.mpr (fun _ _ => rfl)]; exact q)
  have := ht d hd A (hA rfl)
  simpa using this
theorem vLc_al {α : Type} {ti : VTI} {g : VTG} {te : VTE} {vs : List Nat} {e : VEnv} {M : Mem} {Q : VL.VK} {w : VIt} (xs : List α) (f : α → D) (h : α → D) (hi : ∀ R : VIt → Mem → Prop, R w M → ti e M R) (hw : w.ds = xs.map f) (hok : w.ok M) (hl : xs.length < sizeLine)
    (ht : ∀ x ∈ xs, ∀ (A : D → Mem → Prop), A (h x) M → g (f x) (vwipe e vs) M fun e2 M2 => te e2 M2 A)
    (q : Q (.lst (xs.map h)) M) : vLc ti g vYes te vs e M Q := by
  refine vLc_alF xs f (fun _ => true) h hi hw hok hl (fun d hd A B hA _ => ?_) (by rw [List.filter_eq_self.mpr (fun _ _ => rfl)]; exact q)
  have := ht d hd A (hA rfl)
  simpa using this
/-- a list that may change, made item by item, the memory left alone -/
theorem vLcO_al {α : Type} {ti : VTI} {g : VTG} {te : VTE} {vs : List Nat} {e : VEnv} {M : Mem} {Q : VL.VK} {w : VIt} (xs : List α) (f : α → D) (h : α → D) (hi : ∀ R : VIt → Mem → Prop, R w M → ti e M R) (hw : w.ds = xs.map f) (hok : w.ok M) (hl : xs.length < sizeLine)
    (ht : ∀ x ∈ xs, ∀ (A : D → Mem → Prop), A (h x) M → g (f x) (vwipe e vs) M fun e2 M2 => te e2 M2 A)
    (q : ∀ p, M p = none → Q (.obj p) (mupd M p (.lst (xs.map h)))) : vLcO ti g vYes te vs e M Q := by
  have hlw : w.ds.length = xs.length := by rw [hw, List.length_map]
  refine hi _ ⟨fun i acc M' => M' = M ∧ i ≤ xs.length ∧ acc = (xs.take i).map h, ⟨rfl, Nat.zero_le _, by simp⟩, fun i acc M' _ z => by rw [z.1]; exact hok, fun i d acc M' hd ⟨e1, hi, e2⟩ => ?_, fun acc M' ⟨e1, _, e2⟩ => ?_⟩
  · subst e1
    rw [hw, List.getElem?_map] at hd
    cases hx : xs[i]? with
    | none => rw [hx] at hd; cases hd
    | some x =>
      rw [hx] at hd
      cases hd
      have hlt : i < xs.length := by
        rcases Nat.lt_or_ge i xs.length with h1 | h1
        · exact h1
        · rw [List.getElem?_eq_none h1] at hx; cases hx
      have htk : xs.take (i + 1) = xs.take i ++ [x] := by
        rw [List.take_add_one, hx] <;> rfl
      have hal : acc.length < sizeLine := by
        have h2 : acc.length ≤ xs.length := by rw [e2, List.length_map, List.length_take]; exact Nat.min_le_right _ _
        omega
      have := ht x (List.mem_of_getElem? hx) (fun y M4 => acc.length < sizeLine ∧ M4 = M' ∧ i + 1 ≤ xs.length ∧ acc ++ [y] = (xs.take (i + 1)).map h) ⟨hal, rfl, hlt, by rw [htk, List.map_append, e2] <;> rfl⟩
      simpa using this
  · subst e1
    rw [e2, hlw, List.take_length]
    exact q
theorem ixN_lt {n j : Nat} (hj : j < n) : L2.ixN n (j : Int) = some j := by
  unfold L2.ixN
  rw [if_pos (by omega), if_pos (by omega)]
  simp
theorem perm_erase {α : Type} : ∀ (l : List α) (i : Nat) (h : i < l.length), (l[i] :: l.eraseIdx i).Perm l
  | x :: l, 0, _ => .refl _
  | x :: l, i + 1, h => by
    simp only [List.getElem_cons_succ, List.eraseIdx_cons_succ]
    exact (List.Perm.swap _ _ _).trans ((perm_erase l i (by simpa using h)).cons x)
theorem flat_len {α β : Type} (f : α → List β) (b : Nat) : ∀ (xs : List α), (∀ x ∈ xs, (f x).length ≤ b) → ((xs.map f).flatten).length ≤ xs.length * b
  | [], _ => by simp
  | x :: xs, h => by
    have ih := flat_len f b xs fun y hy => h y (List.mem_cons_of_mem _ hy)
    have h0 := h x List.mem_cons_self
    rw [List.map_cons, List.flatten_cons, List.length_append, List.length_cons, Nat.succ_mul]
    omega
theorem vLc_map {ti : VTI} {g : VTG} {te : VTE} {vs : List Nat} {e : VEnv} {M : Mem} {Q : VL.VK} {w : VIt} (f : D → D) (hi : ∀ R : VIt → Mem → Prop, R w M → ti e M R) (hok : w.ok M) (hl : w.ds.length < sizeLine)
    (ht : ∀ d ∈ w.ds, ∀ (A : D → Mem → Prop), A (f d) M → g d (vwipe e vs) M fun e2 M2 => te e2 M2 A)
    (q : Q (.lst (w.ds.map f)) M) : vLc ti g vYes te vs e M Q := by
  refine vLc_by w (fun d => some (f d)) hi hok hl (fun d hd A B hA _ => ?_) (by rw [show (fun d => some (f d)) = some ∘ f from rfl, List.filterMap_eq_map]; exact q)
  have := ht d hd A (hA _ rfl)
  simpa using this
end VL
namespace VL
open PySem PySem.Spec L2

section
variable {K : PySem.W.Frag}
mutual
def dB (K : PySem.W.Frag) : D → Value → Bool
  | .non, .none => true
  | .bl b, .bool c => decide (b = c)
  | .int i, .int j _ => decide (i = j)
  | .str x, .str y _ => decide (x = y)
  | .tup ds, .ref a => (match K.lookup a with
    | some ⟨.type c, _, .seq its _, _⟩ => decide (c = "tuple") && (decide (its.size ≤ sizeLine) && dsB K ds its.toList)
    | _ => false)
  | _, _ => false
def dsB (K : PySem.W.Frag) : List D → List Value → Bool
  | [], [] => true
  | d :: ds, v :: vs => dB K d v && dsB K ds vs
  | _, _ => false
end
mutual
theorem dB_ok : ∀ (d : D) (v : Value), dB K d v = true → ∃ x : V, RelV x v ∧ ∀ F, DR K F x d
  | .non, v, h => by
    cases v <;> first | exact ⟨.non, rfl, fun _ => .non⟩ | (unfold dB at h; cases h)
  | .bl b, v, h => by
    cases v <;> first | (unfold dB at h; rw [of_decide_eq_true h]; exact ⟨.bl _, rfl, fun _ => .bl _⟩) | (unfold dB at h; cases h)
  | .int i, v, h => by
    cases v <;> first | (unfold dB at h; rw [of_decide_eq_true h]; exact ⟨.int _, ⟨_, rfl⟩, fun _ => .int _⟩) | (unfold dB at h; cases h)
  | .str i, v, h => by
    cases v <;> first | (unfold dB at h; rw [of_decide_eq_true h]; exact ⟨.str _, ⟨_, rfl⟩, fun _ => .str _⟩) | (unfold dB at h; cases h)
  | .tup ds, v, h => by
    cases v with
    | ref a =>
      unfold dB at h
      split at h
      · rename_i c od its n sl hl
        have h1 := Bool.and_eq_true_iff.mp h
        have h2 := Bool.and_eq_true_iff.mp h1.2
        obtain ⟨xs, hv, hd⟩ := dsB_ok ds its.toList h2.2
        refine ⟨.ref a, rfl, fun F => .tup (.inr ⟨_, its, n, hl, congrArg Value.type (of_decide_eq_true h1.1), rfl, of_decide_eq_true h2.1, hv⟩) (hd F)⟩
      · cases h
    | _ => unfold dB at h; cases h
  | .lst _, v, h => by cases v <;> (unfold dB at h; cases h)
  | .rd _, v, h => by cases v <;> (unfold dB at h; cases h)
  | .obj _, v, h => by cases v <;> (unfold dB at h; cases h)
theorem dsB_ok : ∀ (ds : List D) (vs : List Value), dsB K ds vs = true → ∃ xs : List V, Vals xs vs ∧ ∀ F, DRs K F xs ds
  | [], [], _ => ⟨[], .nil, fun _ => .nil⟩
  | [], _ :: _, h => by unfold dsB at h; cases h
  | _ :: _, [], h => by unfold dsB at h; cases h
  | d :: ds, v :: vs, h => by
    unfold dsB at h
    have h' := Bool.and_eq_true_iff.mp h
    obtain ⟨x, h1, h2⟩ := dB_ok d v h'.1
    obtain ⟨xs, h3, h4⟩ := dsB_ok ds vs h'.2
    exact ⟨x :: xs, .cons h1 h3, fun F => .cons (h2 F) (h4 F)⟩
end
/-- a name of the module's is this data -/
def gdB (K : PySem.W.Frag) (p : Str × D) : Bool := match PySem.W.nsIn K mainGlobals p.1 with
  | some (some v) => dB K p.2 v
  | _ => false
theorem gdB_ok {h : Heap} {mg : Str → Option Value} {x : Str} {d : D} (X : K.In h) (G : h.Ns mainGlobals mg) (q : gdB K (x, d) = true) : ∃ u v, mg x = some u ∧ RelV v u ∧ ∀ F, DR K F v d := by
  unfold gdB at q
  split at q
  · rename_i v hv
    obtain ⟨w, h1, h2⟩ := dB_ok d v q
    exact ⟨v, w, PySem.W.mg_of X G hv, h1, h2⟩
  · cases q
/-- a dict by ints -/
def ksB (K : PySem.W.Frag) : List (Int × D) → List DictEntry → Bool
  | [], [] => true
  | p :: ps, e :: es => (match e.key with
    | .int i _ => decide (i = p.1) && decide (e.hash = hashInt p.1)
    | _ => false) && (dB K p.2 e.val && ksB K ps es)
  | _, _ => false
/-- the dict at a: its keys and what stands under them -/
structure KI (K : PySem.W.Frag) (a : Addr) (tb : List (Int × D)) : Prop where
  ex : ∃ es n, K.lookup a = some ⟨.type "dict", none, .dict es n, #[]⟩ ∧ ksB K tb es.toList = true ∧ (a == sysModules) = false
def kiB (K : PySem.W.Frag) (p : Str × List (Int × D)) : Bool := match PySem.W.nsIn K mainGlobals p.1 with
  | some (some (.ref a)) => (match K.lookup a with
    | some ⟨.type c, none, .dict es _, sl⟩ => decide (c = "dict") && (decide (sl.size = 0) && (ksB K p.2 es.toList && !(a == sysModules)))
    | _ => false)
  | _ => false
theorem kiB_ok {h : Heap} {mg : Str → Option Value} {x : Str} {tb : List (Int × D)} (X : K.In h) (G : h.Ns mainGlobals mg) (q : kiB K (x, tb) = true) : ∃ a, mg x = some (.ref a) ∧ KI K a tb := by
  unfold kiB at q
  split at q
  · rename_i a ha
    split at q
    · rename_i c es n sl hl
      have h1 := Bool.and_eq_true_iff.mp q
      have h2 := Bool.and_eq_true_iff.mp h1.2
      have h3 := Bool.and_eq_true_iff.mp h2.2
      have e1 : c = "dict" := of_decide_eq_true h1.1
      have e2 : sl = #[] := Array.eq_empty_of_size_eq_zero (of_decide_eq_true h2.1)
      subst e1 e2
      exact ⟨a, PySem.W.mg_of X G ha, ⟨es, n, hl, h3.1, by simpa using h3.2⟩⟩
    · cases q
  · cases q
theorem ksB_keys {prog : Program} {w : World} : ∀ {tb : List (Int × D)} {es : List DictEntry}, ksB K tb es = true → ∀ e ∈ es, ∃ k, (PySem.intKind prog w).is k e.key = true ∧ e.hash = (PySem.intKind prog w).hash k
  | [], [], _, e, he => nomatch he
  | [], _ :: _, h, _, _ => by unfold ksB at h; cases h
  | _ :: _, [], h, _, _ => by unfold ksB at h; cases h
  | p :: ps, e :: es, h, e', he => by
    unfold ksB at h
    have h1 := Bool.and_eq_true_iff.mp h
    have h2 := Bool.and_eq_true_iff.mp h1.2
    rcases List.mem_cons.mp he with rfl | he
    · have h3 := h1.1
      split at h3
      · rename_i i t hk
        have h4 := Bool.and_eq_true_iff.mp h3
        exact ⟨p.1, by rw [hk, of_decide_eq_true h4.1]; exact PySem.intKind_is prog w _ _, of_decide_eq_true h4.2⟩
      · cases h3
    · exact ksB_keys h2.2 e' he
theorem ksB_find : ∀ {tb : List (Int × D)} {es : List DictEntry} (i : Int), ksB K tb es = true → (match tb.lookup i with
    | some d => ∃ e, es.find? (fun e => Value.isInt i e.key) = some e ∧ dB K d e.val = true
    | none => es.find? (fun e => Value.isInt i e.key) = none)
  | [], [], _, _ => rfl
  | [], _ :: _, _, h => by unfold ksB at h; cases h
  | _ :: _, [], _, h => by unfold ksB at h; cases h
  | p :: ps, e :: es, i, h => by
    unfold ksB at h
    have h1 := Bool.and_eq_true_iff.mp h
    have h2 := Bool.and_eq_true_iff.mp h1.2
    have h3 := h1.1
    split at h3
    · rename_i j t hk
      have h4 := Bool.and_eq_true_iff.mp h3
      have ej : j = p.1 := of_decide_eq_true h4.1
      have ih := ksB_find i h2.2
      obtain ⟨p1, p2⟩ := p
      by_cases q : i = p1
      · have e1 : ((p1, p2) :: ps).lookup i = some p2 := by
          show (match i == p1 with | true => some p2 | false => ps.lookup i) = _
          rw [show (i == p1) = true from beq_iff_eq.mpr q]
        rw [e1]
        exact ⟨e, by rw [List.find?_cons, hk]; simp [Value.isInt, ej, q], h2.1⟩
      · have e1 : ((p1, p2) :: ps).lookup i = ps.lookup i := by
          show (match i == p1 with | true => some p2 | false => ps.lookup i) = _
          rw [show (i == p1) = false from beq_eq_false_iff_ne.mpr q]
        have e2 : List.find? (fun e => Value.isInt i e.key) (e :: es) = List.find? (fun e => Value.isInt i e.key) es := by
          rw [List.find?_cons, hk]
          have : Value.isInt i (.int j t) = false := by
            have q' : ¬ p1 = i := fun z => q z.symm
            have ej' : j = p1 := ej
            simp [Value.isInt, ej', q', q]
          rw [this]
        rw [e1, e2]; exact ih
    · cases h3
end
section
variable {X : Cx} {a : Addr} {tb : List (Int × D)}
theorem ki_map (T : KI X.K a tb) {s : Shared} (hK : X.K.In s.heap) : ∃ f, s.heap.MapOf (PySem.intKind X.prog X.w) a f ∧ (∀ i, (f i).isSome = (tb.lookup i).isSome) ∧ ∀ i d, tb.lookup i = some d → ∃ v, f i = some v ∧ dB X.K d v = true := by
  obtain ⟨es, n, hl, hb, _⟩ := T.ex
  refine ⟨fun k => findBy Value.isInt es k, ⟨_, es, n, hK _ _ hl, ⟨rfl, rfl, rfl⟩, rfl, fun e he => ksB_keys hb e (Array.mem_toList_iff.mpr he), fun _ => rfl⟩, fun i => ?_, fun i d hd => ?_⟩
  · have := ksB_find i hb
    obtain ⟨l⟩ := es
    have ef : findBy Value.isInt ⟨l⟩ i = (l.find? fun e => Value.isInt i e.key).map (·.val) := by
      unfold findBy
      rw [List.find?_toArray]
    show (findBy Value.isInt ⟨l⟩ i).isSome = _
    rw [ef]
    cases q : tb.lookup i with
    | none => rw [q] at this; dsimp only at this; rw [this] <;> rfl
    | some d => rw [q] at this; obtain ⟨e, h1, h2⟩ := this; dsimp only at h1; rw [h1] <;> rfl
  · have := ksB_find i hb
    rw [hd] at this
    obtain ⟨e, h1, h2⟩ := this
    obtain ⟨l⟩ := es
    have ef : findBy Value.isInt ⟨l⟩ i = (l.find? fun e => Value.isInt i e.key).map (·.val) := by
      unfold findBy
      rw [List.find?_toArray]
    show ∃ v, findBy Value.isInt ⟨l⟩ i = some v ∧ _
    rw [ef]
    dsimp only at h1
    rw [h1]
    exact ⟨e.val, rfl, h2⟩
def oInK (a : Addr) (tb : List (Int × D)) : VR2 := fun x y M Q => ∃ i, x = .int i ∧ y = .obj a ∧ Q (.bl (tb.lookup i).isSome) M
def oNotInK (a : Addr) (tb : List (Int × D)) : VR2 := fun x y M Q => ∃ i, x = .int i ∧ y = .obj a ∧ Q (.bl (!(tb.lookup i).isSome)) M
theorem o_inK (T : KI X.K a tb) : OpR X (compareOp .In) (l2 X.K (oInK a tb)) := fun pins s σ H x y v u Q I rx ry ⟨F, M, G, dx, dy, Q', r, da, db, ⟨i, e1, e2, q⟩, o⟩ => by
  subst e1 e2
  cases da; cases db
  obtain ⟨t, rfl⟩ := rx
  cases ry
  obtain ⟨f, h1, h2, h3⟩ := ki_map T I.kIn
  obtain ⟨es, n, hl, hb, hs⟩ := T.ex
  refine wpAny_in_of (PySem.intKind_is X.prog X.w i t) hs h1 ?_
  rw [h2]
  exact ⟨.bl _, H, I.tok _, rfl, o.stay r (.bl _) q⟩
theorem o_notInK (T : KI X.K a tb) : OpR X (compareOp .NotIn) (l2 X.K (oNotInK a tb)) := fun pins s σ H x y v u Q I rx ry ⟨F, M, G, dx, dy, Q', r, da, db, ⟨i, e1, e2, q⟩, o⟩ => by
  subst e1 e2
  cases da; cases db
  obtain ⟨t, rfl⟩ := rx
  cases ry
  obtain ⟨f, h1, h2, h3⟩ := ki_map T I.kIn
  obtain ⟨es, n, hl, hb, hs⟩ := T.ex
  refine wpAny_notIn_of (PySem.intKind_is X.prog X.w i t) hs h1 ?_
  rw [h2]
  exact ⟨.bl _, H, I.tok _, rfl, o.stay r (.bl _) q⟩
def oIxK (a : Addr) (tb : List (Int × D)) : VR2 := fun x y M Q => ∃ i d, x = .obj a ∧ y = .int i ∧ tb.lookup i = some d ∧ Q d M
theorem o_ixK (T : KI X.K a tb) : IxR X (l2 X.K (oIxK a tb)) := fun value slice pins s σ H x y v u Q I rx ry ⟨F, M, G, dx, dy, Q', r, da, db, ⟨i, d, e1, e2, hd, q⟩, o⟩ hs => by
  subst e1 e2
  cases da; cases db
  cases rx
  obtain ⟨t, rfl⟩ := ry
  obtain ⟨f, h1, h2, h3⟩ := ki_map T I.kIn
  obtain ⟨w, hw, hdb⟩ := h3 i d hd
  obtain ⟨z, rz, hz⟩ := dB_ok d w hdb
  exact PyProof.Rows.tail_any h1.typeIs PySem.F.slot_dict_getitem.lookup (wpAny_getItem_of (PySem.intKind_is X.prog X.w i t) h1 hw ⟨z, H, I.tok _, rz, o.stay r (hz F) q⟩) hs
theorem v_ixK {e b : Expr} {te tb' : VTE} {pos : Pos} (T : KI X.K a tb) (ha : VE X e te) (hb : VE X b tb') (hs : PlainIx b := by exact fun _ _ => rfl) : VE X (.Subscript e b pos) (vOp (oIxK a tb) te tb') :=
  v_pe (pe_ix (o_ixK T) ha hb hs) fun F M G σ H e Q' Q hs hr q o => ⟨F, M, G, e, _, hs, hr, q, fun x H1 F1 M1 d s1 r1 d1 q1 => ⟨F1, M1, G, e, _, hs.up s1, r1, q1, fun y H2 F2 M2 d' s2 r2 d2 q2 => ⟨F2, M2, G, d, d', Q', r2, d1.up s2, d2, q2, o.up (s1.trans s2)⟩⟩⟩
end

def cB (ts : List (Str × D)) (ks : List (Str × List (Int × D))) (K : PySem.W.Frag) : Bool := (ts.all fun p => gdB K p) && ks.all fun p => kiB K p
def hookC (n : Nat) (fa : List He.Fa) (fn : List He.DefD) (ts : List (Str × D)) (ks : List (Str × List (Int × D))) : PySem.W.Hook where
  α := He.AlD × Bool
  obs := fun s => (He.obsDG n fa fn s.heap.get?, cB ts ks (He.frG s.heap.get? (He.asD s.heap.get? n)))
  val := fun _ => (He.valD fn, true)
  says := fun _ h => ∃ K : PySem.W.Frag, K.In h ∧ He.SaysD fa fn K ∧ cB ts ks K = true
  of := fun _ s e => by
    have e1 : (He.obsDG n fa fn s.heap.get?, cB ts ks (He.frG s.heap.get? (He.asD s.heap.get? n))) = (He.valD fn, true) := e
    have e2 := Prod.mk.inj e1
    exact ⟨_, He.frG_in, e2.1, e2.2⟩
  keeps := fun _ _ _ ⟨K, hK, c⟩ k => ⟨K, PySem.W.Frag.In.keeps hK k, c⟩
def obsC (n : Nat) (fa : List He.Fa) (fn : List He.DefD) (ts : List (Str × D)) (ks : List (Str × List (Int × D))) (g : Addr → Option Obj) : He.AlD × Bool := (He.obsDG n fa fn g, cB ts ks (He.frG g (He.asD g n)))
theorem obsC_eq {n : Nat} {fa : List He.Fa} {fn : List He.DefD} {ts : List (Str × D)} {ks : List (Str × List (Int × D))} {g : Addr → Option Obj} {s : Shared} (h : ∀ a, g a = s.heap.get? a) : obsC n fa fn ts ks g = (hookC n fa fn ts ks).obs s := by
  have e : g = s.heap.get? := funext h
  rw [e] <;> rfl
theorem cB_t {ts : List (Str × D)} {ks : List (Str × List (Int × D))} {K : PySem.W.Frag} (h : cB ts ks K = true) (i : Nat) {p : Str × D} (e : ts[i]? = some p := by rfl) : gdB K p = true :=
  List.all_eq_true.mp (Bool.and_eq_true_iff.mp h).1 p (List.mem_of_getElem? e)
theorem cB_k {ts : List (Str × D)} {ks : List (Str × List (Int × D))} {K : PySem.W.Frag} (h : cB ts ks K = true) (i : Nat) {p : Str × List (Int × D)} (e : ks[i]? = some p := by rfl) : kiB K p = true :=
  List.all_eq_true.mp (Bool.and_eq_true_iff.mp h).2 p (List.mem_of_getElem? e)
end VL
namespace VL
open PySem PySem.Spec L2
section
open PyProof.Rows HT
variable {prog : Program} {w : World} {A : Around} {E : Value → Shared → Prop} {s : Shared}
theorem adjust_rev (n : Nat) : Builtin.Slice.sliceAdjust none none (-1) (n : Int) = ((n : Int) - 1, -1) := by
  unfold Builtin.Slice.sliceAdjust
  simp
theorem places_rev (n : Nat) : Builtin.Slice.slicePlaces ((n : Int) - 1) (-1) (-1) = n := by
  unfold Builtin.Slice.slicePlaces
  simp
  omega
theorem applied_rev {sl : Addr} {t : Tok} {n : Nat} {Q : Int × Int × Nat → Shared → Prop} (hs : s.heap.IsSliceOf sl .none .none (.int (-1) t))
    (h : Q ((n : Int) - 1, -1, n) s) : wpAny (model prog w) A (Builtin.Slice.sliceApplied (.ref sl) (pure (n : Int))) Q E s := by
  obtain ⟨os, hos, hcs, hds⟩ := id hs
  unfold Builtin.Slice.sliceApplied Builtin.Slice.sliceFields
  refine wpAny_bind (wpAny_bind (wpAny_field hos hds (x := .none) rfl (wpAny_bind (wpAny_field hos hds (x := .none) rfl (wpAny_bind (wpAny_field hos hds (x := .int (-1) t) rfl (wpAny_pure ?_)))))))
  refine wpAny_bind (slicePart_int ?_)
  show wpAny _ _ (if ((-1 : Int) == 0) = true then _ else _) _ _ s
  rw [if_neg (by decide)]
  refine wpAny_bind (slicePart_none (wpAny_bind (slicePart_none (wpAny_bind (wpAny_pure ?_)))))
  show wpAny _ _ (match Builtin.Slice.sliceAdjust none none (-1) (n : Int) with | (lo, hi) => pure (lo, (-1 : Int), Builtin.Slice.slicePlaces lo hi (-1))) _ _ s
  rw [adjust_rev n]
  show wpAny _ _ (pure ((n : Int) - 1, (-1 : Int), Builtin.Slice.slicePlaces ((n : Int) - 1) (-1) (-1))) _ _ s
  rw [places_rev]
  exact wpAny_pure h
theorem fm_congr {α β : Type} {f g : α → Option β} : ∀ {l : List α}, (∀ x ∈ l, f x = g x) → l.filterMap f = l.filterMap g
  | [], _ => rfl
  | x :: l, h => by
    rw [List.filterMap_cons, List.filterMap_cons, h x List.mem_cons_self, fm_congr fun y hy => h y (List.mem_cons_of_mem _ hy)]
theorem pick_rev (xs : Array Value) : ((List.range xs.size).filterMap fun (m : Nat) => xs[(((xs.size : Int) - 1) + (m : Int) * (-1)).toNat]?).toArray = xs.toList.reverse.toArray := by
  congr 1
  have e : (List.range xs.size).filterMap (fun (m : Nat) => xs[(((xs.size : Int) - 1) + (m : Int) * (-1)).toNat]?) = (List.range xs.size).filterMap fun m => xs.toList.reverse[m]? := by
    refine fm_congr fun m hm => ?_
    have hm' := List.mem_range.mp hm
    rw [List.getElem?_reverse (by rw [Array.length_toList]; exact hm'), Array.length_toList, Array.getElem?_toList]
    congr 1
    omega
  rw [e]
  have hl : xs.size = xs.toList.reverse.length := by rw [List.length_reverse, Array.length_toList]
  rw [hl]
  generalize xs.toList.reverse = l
  induction l with
  | nil => rfl
  | cons a l ih =>
    rw [List.length_cons, List.range_succ_eq_map, List.filterMap_cons]
    simp only [List.getElem?_cons_zero, List.filterMap_map]
    congr 1
theorem getItem_tuple_rev {t sl : Addr} {items : Array Value} {k : Tok} {Q : Value → Shared → Prop} (ht : IsTup s.heap t items) (hs : s.heap.IsSliceOf sl .none .none (.int (-1) k))
    (h : Q (.ref s.heap.objs.size) { s with heap := s.heap.push { cls := .type "tuple", data := .seq items.toList.reverse.toArray } })
    (hsz : items.size ≤ sizeLine) : wpAny (model prog w) A (getItem (.ref t) (.ref sl)) Q E s := by
  have htake : sizeOk (.seq items.toList.reverse.toArray) := by
    show items.toList.reverse.toArray.size ≤ sizeLine
    rw [List.size_toArray, List.length_reverse, Array.length_toList]
    exact hsz
  obtain ⟨os, hos, hcs, hds⟩ := id hs
  have hTs : s.TypeIs (.ref sl) "slice" := ⟨os, hos, hcs⟩
  unfold getItem
  try with_reducible refine wpAny_holding ?_
  first | refine wpAny_bind (wpAny_pure ?_) | skip
  refine wpAny_bind (wpAny_sequenceKey ht.typeIs (by decide) ?_)
  refine wpAny_bind (wpAny_callSpecial?_slot (name := Str.ofString "__getitem__") ht.typeIs PyProof.Rows.slot_tuple_getitem
    (wpAny_call_entry PyProof.Rows.slot_tuple_getitem ht.typeIs entry_tuple_getitem ?_ (args_tuple_getitem _ _)))
  show wpAny _ _ (Builtin.Tuple.tupleItemsOf (.ref t) >>= _) _ _ s
  refine wpAny_bind (tupleItemsOf_ ht ?_)
  refine wpAny_bind (wpAny_typeOf hTs ?_)
  rw [if_pos (by decide)]
  refine wpAny_bind (applied_rev hs ?_)
  have hno : ¬ ((((items.size : Int) - 1) == 0 && (-1 : Int) == 1 && items.size == items.size) = true) := by
    intro q
    rw [Bool.and_eq_true, Bool.and_eq_true] at q
    exact absurd q.1.2 (by decide)
  show wpAny _ _ (if (((items.size : Int) - 1) == 0 && (-1 : Int) == 1 && items.size == items.size) = true then _ else _) _ _ s
  rw [if_neg hno, pick_rev]
  first
    | exact wpAny_bind (m := Builtin.Tuple.tupleExact _) (wpAny_newObj_type (wpAny_pure ⟨_, rfl, wpAny_pure h⟩) htake)
    | exact wpAny_bind (m := Builtin.Tuple.tupleExact _) (wpAny_newObj_type (wpAny_bind (wpAny_pure (wpAny_pure ⟨_, rfl, wpAny_pure h⟩))) htake)
    | exact wpAny_bind (wpAny_bind (m := Builtin.Tuple.tupleExact _) (wpAny_newObj_type (wpAny_pure (wpAny_pure ⟨_, rfl, wpAny_pure h⟩)) htake))
    | exact wpAny_bind (wpAny_bind (m := Builtin.Tuple.tupleExact _) (wpAny_newObj_type (wpAny_pure ⟨_, rfl, wpAny_pure h⟩) htake))
end
section
variable {X : Cx} {e : Expr} {te : VTE} {pos p1 p2 p3 : Pos} {k : Nat}
/-- x[::-1], a tuple -/
def tRevT (K : PySem.W.Frag) (te : TE) : TE := fun σ H Q => te σ H fun x H1 => ∃ a xs, x = .ref a ∧ SqT K H1 a xs ∧ ∀ p, H1 p = none → Q (.ref p) (upd H1 p (.tup xs.reverse))
open PyProof.Rows in
theorem pe_revT {te : TE} (he : PE X e te) : PE X (.Subscript e (.Slice none none (some (.UnaryOp .USub (.Constant (.int 1) k p1) p2)) p3) pos) (tRevT X.K te) := by
  refine ⟨fun pins s σ H Q I h => ?_⟩
  refine Subscript_ (thn (he.run pins s σ H _ I h) fun v s1 ⟨x, H1, I1, r1, q1⟩ => ?_)
  obtain ⟨a, xs, ex, hx, q⟩ := q1
  subst ex
  cases r1
  have hst : PO X (some (.UnaryOp .USub (.Constant (.int 1) k p1) p2)) (tPart (tUn (rU fun i => .int (-i)) (tC (.int 1)))) := po_some (pe_un un_neg pe_int)
  refine wpAny_Slice (thn (po_none.run pins s1 σ H1 (fun o H2 => o = none ∧ H2 = H1) I1 ⟨rfl, rfl⟩) fun vl s2 ⟨l, H2, I2, pl, el, e2⟩ => ?_)
  subst el e2
  refine thn (po_none.run pins s2 σ H2 (fun o H3 => o = none ∧ H3 = H2) I2 ⟨rfl, rfl⟩) fun vu s3 ⟨u, H3, I3, pu, eu, e3⟩ => ?_
  subst eu e3
  refine thn (hst.run pins s3 σ H3 (fun o H4 => o = some (-1) ∧ H4 = H3) I3 ⟨1, rfl, -1, rfl, rfl, rfl⟩) fun vs s4 ⟨o, H4, I4, ps, eo, e4⟩ => ?_
  subst eo e4
  have I5 : Inv X pins σ H4 { s4 with heap := s4.heap.push { cls := .type "slice", data := .fields #[vl, vu, vs] } } := I4.kept (t' := s4.toks) fun b ob q => Heap.get?_push_of_some _ q
  obtain ⟨its, r, ht, hz⟩ := I5.tuple hx
  have hlen := r.length
  cases pl; cases pu
  obtain ⟨tk, rfl⟩ : ∃ tk, vs = .int (-1) tk := by cases ps; exact ⟨_, rfl⟩
  show wpAny (model X.prog X.w) X.A (subscriptTail e (.Slice none none (some (.UnaryOp .USub (.Constant (.int 1) k p1) p2)) p3) (.ref a) (.ref s4.heap.objs.size)) (EP X pins σ Q) X.xe { s4 with heap := s4.heap.push { cls := .type "slice", data := .fields #[.none, .none, .int (-1) tk] } }
  refine PyProof.Rows.tail_any (ops := [.ref a, .ref s4.heap.objs.size]) ht.typeIs PyProof.Rows.slot_tuple_getitem.lookup ?_ (by with_unfolding_all rfl)
  refine getItem_tuple_rev ht (Heap.IsSliceOf.new _ .none .none (.int (-1) tk)) ?_ (by rw [List.size_toArray]; omega)
  refine ⟨.ref _, _, I5.laid (t' := s4.toks) (o := .tup xs.reverse) (fun b ob q => Heap.get?_push_of_some _ q) (Nat.le_refl _) ?_, rfl, q _ (I5.hok.fresh (Nat.le_refl _))⟩
  exact ⟨by rw [List.length_reverse]; exact hz, _, r.reverse, PyProof.Rows.IsTup.new _ _⟩
@[simp] def vRevT (te : VTE) : VTE := fun e M Q => te e M fun x M1 => ∃ xs, x = .tup xs ∧ Q (.tup xs.reverse) M1
theorem v_revT (he : VE X e te) : VE X (.Subscript e (.Slice none none (some (.UnaryOp .USub (.Constant (.int 1) k p1) p2)) p3) pos) (vRevT te) :=
  v_pe (pe_revT he) fun F M G σ H e Q' Q hs hr q o => ⟨F, M, G, e, _, hs, hr, q, fun v H1 F1 M1 d s1 r1 d1 ⟨xs, ed, q1⟩ => by
    subst ed
    cases d1 with
    | tup h z => exact ⟨_, _, rfl, same_tup r1.sub h, fun p hp => (o.up s1).newT r1 z.rev q1 p hp⟩⟩
/-- {} -/
@[simp] def vDict0 : VTE := fun _ M Q => ∀ p, M p = none → Q (.obj p) (mupd M p (.dk []))
theorem v_dict0 : VE X (.Dict [] [] pos) vDict0 := v_pe pe_dnewK fun F M G σ H e Q' Q hs hr q o => fun p hp => o.newO hr (m := .dk []) ⟨[], rfl, rfl, .nil⟩ p hp (q p (hr.m0 hp))
/-- {'a': 1} -/
@[simp] def vDictC (x : Str) (i : Int) : VTE := fun _ M Q => ∀ p, M p = none → Q (.obj p) (mupd M p (.dk [(.inr x, .int i)]))
theorem v_dictC {x : Str} {i : Int} {j j' : Nat} : VE X (.Dict [some (.Constant (.str x) j p1)] [.Constant (.int i) j' p2] pos) (vDictC x i) :=
  v_pe (pe_disp (pps_cons (pe_str (x := x)) (pe_int (i := i)) pps_nil) rfl rfl (by simp) (by show 1 ≤ 15; decide)) fun F M G σ H e Q' Q hs hr q o => fun p hp => by
    refine ⟨upd_same, [(.inr x, .int i)], rfl, by show 1 ≤ 15; decide, ?_⟩
    have := o.newO hr (m := .dk [(.inr x, .int i)]) (ho := .dK [(.inr x, .int i)]) ⟨[(.inr x, .int i)], rfl, rfl, .cons (.int i) .nil⟩ p hp (q p (hr.m0 hp))
    rw [upd_upd]
    exact this
@[simp] def rStrI : VRs
  | [.int i], M, Q => i.natAbs.log2 < 1920 ∧ Q (.str (toString i)) M
  | _, _, _ => False
theorem c_strI : CallR X (.type "str") (ls X.K rStrI) := cr_of call_str_int fun F M G H xs ds Q' Q r dv q o => by
  unfold rStrI at q
  split at q
  · obtain ⟨v, rfl, z⟩ := one_of dv
    cases z
    exact ⟨_, rfl, q.1, o.stay r (.str _) q.2⟩
  · exact q.elim
/-- repr of a bool -/
@[simp] def rReprB : VRs
  | [.bl b], M, Q => Q (.str (if b then "True" else "False")) M
  | _, _, _ => False
theorem c_reprB : CallR X (.builtin "repr") (ls X.K rReprB) := by
  intro pins s σ H xs us Q I r ⟨F, M, G, ds, Q', rel, dv, q, o⟩
  unfold rReprB at q
  split at q
  · obtain ⟨v, rfl, z⟩ := one_of dv
    cases z
    obtain ⟨u, rfl, ru⟩ := r.one
    cases ru
    exact PySem.P.repr_of_bool ⟨.str _, H, I.tok _, ⟨_, rfl⟩, o.stay rel (.str _) q⟩
  · exact q.elim
end
end VL
namespace PySem
open AutoSeq1 (wpAny_loadPart')
open MeetsSeq MeetsSeq2 MeetsSeq3 SeqRoads2
theorem VLx.list_extend_tup (l : Addr) (items : Array Value) (n : Nat) (b : Addr) (items2 : Array Value) (n2 : Nat) (dd : Option Addr) (sl : Array (Option Value)) (hc0 : ¬(!items.isEmpty && Builtin.List.listTooLong (items.size + items2.size)) = true) (hc1 : items.size ≤ sizeLine) (hs2 : items.size + items2.size ≤ sizeLine + 1) :
    Meets (Builtin.«list.extend» ⟨[.ref l, .ref b], []⟩) (fun _ R s => s.heap.get? l = some { cls := .type "list", dict := none, data := .seq items n, slots := #[] } ∧ s.heap.get? b = some { cls := .type "tuple", dict := dd, data := .seq items2 n2, slots := sl } ∧ R (.ok (.ret Value.none)) { s with heap := s.heap.update l (Obj.mapSeq fun x => x ++ items2), toks := s.toks }) :=
  .of_wp fun prog w A R s h => by
    obtain ⟨hp, g, d, tk, os⟩ := s
    obtain ⟨hl, hb, h⟩ := h
    have f1 := AutoSeq1.idx_int
    have f2 := AutoSeq1.sub_tuple_tuple
    have f3 := AutoSeq1.sub_list_list
    have f4 := AutoSeq1.sub_tuple_list
    have f5 := AutoSeq1.sub_list_tuple
    have hz0 : (items ++ items2).size ≤ sizeLine + 1 := by
      rw [Array.size_append]
      exact hs2
    wp_walk using (wpAny_updateSeq hl rfl (hz := hc1) (_hz' := hz0)), wpAny_loadPart' hl, wpAny_loadPart' hb
    exact ⟨_, rfl, h⟩
end PySem
namespace VL
open PySem PySem.Spec L2
section
variable {X : Cx}
/-- extend by a list or a tuple -/
def rExtendA (K : PySem.W.Frag) : V → List V → Hp → L2.VK → Prop := fun x vs H Q => ∃ l b xs zs, x = .ref l ∧ vs = [.ref b] ∧ H l = some (.lst xs) ∧ SqT K H b zs ∧ xs.length + zs.length ≤ sizeLine ∧ Q .non (upd H l (.lst (xs ++ zs)))
theorem mt_extendT : MtM X "list.extend" (rExtendA X.K) := by
  intro pins s σ H x vs v us Q I rx rv h
  obtain ⟨l, b, xs, zs, rfl, rfl, hH, hB, hz, q⟩ := h
  cases rx
  obtain ⟨u, rfl, ru⟩ := rv.one
  cases ru
  obtain ⟨z, its, n, r, hl, e⟩ := I.lstM hH
  obtain ⟨its2, r2, pl, z2⟩ := I.tuple hB
  have hl2 := r2.length
  obtain ⟨⟨oc, od, dt, sl⟩, e2, hc, n2, hd⟩ := id pl
  simp only at hc hd
  subst hc hd
  have hsz : its.toArray.size + its2.toArray.size ≤ sizeLine := by rw [List.size_toArray, List.size_toArray]; omega
  have hlong : ¬ (!its.toArray.isEmpty && Builtin.List.listTooLong (its.toArray.size + its2.toArray.size)) = true := by
    rw [notLongL hsz, Bool.and_false]
    exact Bool.false_ne_true
  refine call_meets PySem.F.slot_list_extend ⟨_, e, rfl⟩ PySem.F.entry_list_extend (PySem.F.args_list_extend_2 _ _)
    (PySem.VLx.list_extend_tup l its.toArray n b its2.toArray n2 od sl hlong (by rw [List.size_toArray]; omega) (by omega)) ⟨e, e2, ?_⟩
  refine ⟨.non, _, I.lset (its' := its ++ its2) hH e (by simp) (r.append r2) ?_, rfl, q⟩
  rw [List.length_append]
  omega
@[simp] def rExtT : Addr → List D → Mem → VK → Prop := fun a ds M Q => ∃ y l zs, ds = [y] ∧ M a = some (.lst l) ∧ y = .tup zs ∧ l.length + zs.length ≤ sizeLine ∧ Q .non (mupd M a (.lst (l ++ zs)))
theorem i_extT : ∀ F M G H a ds vs Q' Q, Rel X.K F M G H → DRs X.K F vs ds → rExtT a ds M Q' → OutE X.K F G Q' Q → rExtendA X.K (.ref a) vs H Q := fun F M G H a ds vs Q' Q r dv ⟨y, l, zs, e, hM, hy, hz, q⟩ o => by
  subst e hy
  obtain ⟨v, rfl, z⟩ := one_of dv
  obtain ⟨_, _, ho, h1, ws, rfl, z1⟩ := r.ob a _ hM
  cases z with
  | tup h2 z2 => exact ⟨a, _, ws, _, rfl, rfl, h1, same_tup r.sub h2, by rw [z1.len, z2.len]; exact hz, o _ _ _ _ _ (Same.refl F) (r.wr hM (m := .lst (l ++ zs)) ⟨_, rfl, z1.app z2⟩) .non q⟩
theorem v_extendT {e : Expr} {es : List Expr} {t : VTA} {pos apos : Pos} {o : Expr} {to : VTE} (ho : VE X o to) (ha : VA X (e :: es) t)
    (hbase : attributeBase o "extend" X.env (eval o X.env) = eval o X.env := by rfl)
    (hfew : ((backTo pos (starEach (e :: es) X.env)).all (fun x => !x.1) && (backToKw pos (keywordEach [] X.env)).all (fun x => x.1.isSome)
      && decide ((e :: es).length + ([] : List Keyword).length + (if ([] : List Keyword).isEmpty then 0 else 1) < 30)) = true := by rfl)
    (hline : (apos.endLine == pos.line) = true := by rfl) (hs : starEach (e :: es) X.env = (false, eval e X.env) :: starEach es X.env := by rfl) (hplain : (backTo pos (starEach es X.env)).any (·.1) = false := by rfl) :
    VE X (.Call (.Attribute o "extend" apos) (e :: es) [] pos) (vMtL rExtT to t) := v_mtL mt_extendT PySem.F.slot_list_extend PySem.F.type_list_extend i_extT ho ha hbase hfew hline hs hplain
end
mutual
/-- a value of the kind that the laws draw: what is no tuple is never looked into -/
def Okv (M : Mem) : D → Prop
  | .non => True
  | .bl _ => True
  | .int _ => True
  | .str _ => True
  | .lst _ => True
  | .tup xs => xs.length ≤ 1000 ∧ Okvs M xs
  | .obj a => ∃ kvs, M a = some (.dk kvs)
  | .rd _ => False
  | .exc _ _ => False
def Okvs (M : Mem) : List D → Prop
  | [] => True
  | x :: xs => Okv M x ∧ Okvs M xs
end
theorem okvs_mem {M : Mem} : ∀ {xs : List D}, Okvs M xs → ∀ x ∈ xs, Okv M x
  | [], _, _, h => nomatch h
  | x :: xs, h, y, hy => by
    unfold Okvs at h
    rcases List.mem_cons.mp hy with rfl | hy
    · exact h.1
    · exact okvs_mem h.2 y hy
theorem okvs_of {M : Mem} : ∀ {xs : List D}, (∀ x ∈ xs, Okv M x) → Okvs M xs
  | [], _ => by unfold Okvs; trivial
  | x :: xs, h => by unfold Okvs; exact ⟨h x List.mem_cons_self, okvs_of fun y hy => h y (List.mem_cons_of_mem _ hy)⟩
mutual
theorem Okv.sub {M M' : Mem} (s : Sub M M') : ∀ (d : D), Okv M d → Okv M' d
  | .non, _ => by unfold Okv; trivial
  | .bl _, _ => by unfold Okv; trivial
  | .int _, _ => by unfold Okv; trivial
  | .str _, _ => by unfold Okv; trivial
  | .lst _, _ => by unfold Okv; trivial
  | .tup xs, h => by unfold Okv at h ⊢; exact ⟨h.1, Okvs.sub s xs h.2⟩
  | .obj a, h => by unfold Okv at h ⊢; obtain ⟨k, h⟩ := h; exact ⟨k, s _ _ h⟩
  | .rd _, h => by unfold Okv at h; exact h.elim
  | .exc _ _, h => by unfold Okv at h; exact h.elim
theorem Okvs.sub {M M' : Mem} (s : Sub M M') : ∀ (xs : List D), Okvs M xs → Okvs M' xs
  | [], _ => by unfold Okvs; trivial
  | x :: xs, h => by unfold Okvs at h ⊢; exact ⟨Okv.sub s x h.1, Okvs.sub s xs h.2⟩
end
/-- isinstance(x, T), of such a value -/
@[simp] theorem kb_NoneType_int : kitB "NoneType" "int" = some false := by decide +kernel
@[simp] theorem kb_bool_int : kitB "bool" "int" = some true := by decide +kernel
@[simp] theorem kb_int_int : kitB "int" "int" = some true := by decide +kernel
@[simp] theorem kb_str_int : kitB "str" "int" = some false := by decide +kernel
@[simp] theorem kb_list_int : kitB "list" "int" = some false := by decide +kernel
@[simp] theorem kb_tuple_int : kitB "tuple" "int" = some false := by decide +kernel
@[simp] theorem kb_dict_int : kitB "dict" "int" = some false := by decide +kernel
@[simp] theorem kb_NoneType_bool : kitB "NoneType" "bool" = some false := by decide +kernel
@[simp] theorem kb_bool_bool : kitB "bool" "bool" = some true := by decide +kernel
@[simp] theorem kb_int_bool : kitB "int" "bool" = some false := by decide +kernel
@[simp] theorem kb_str_bool : kitB "str" "bool" = some false := by decide +kernel
@[simp] theorem kb_list_bool : kitB "list" "bool" = some false := by decide +kernel
@[simp] theorem kb_tuple_bool : kitB "tuple" "bool" = some false := by decide +kernel
@[simp] theorem kb_dict_bool : kitB "dict" "bool" = some false := by decide +kernel
@[simp] theorem kb_NoneType_str : kitB "NoneType" "str" = some false := by decide +kernel
@[simp] theorem kb_bool_str : kitB "bool" "str" = some false := by decide +kernel
@[simp] theorem kb_int_str : kitB "int" "str" = some false := by decide +kernel
@[simp] theorem kb_str_str : kitB "str" "str" = some true := by decide +kernel
@[simp] theorem kb_list_str : kitB "list" "str" = some false := by decide +kernel
@[simp] theorem kb_tuple_str : kitB "tuple" "str" = some false := by decide +kernel
@[simp] theorem kb_dict_str : kitB "dict" "str" = some false := by decide +kernel
@[simp] theorem kb_NoneType_tuple : kitB "NoneType" "tuple" = some false := by decide +kernel
@[simp] theorem kb_bool_tuple : kitB "bool" "tuple" = some false := by decide +kernel
@[simp] theorem kb_int_tuple : kitB "int" "tuple" = some false := by decide +kernel
@[simp] theorem kb_str_tuple : kitB "str" "tuple" = some false := by decide +kernel
@[simp] theorem kb_list_tuple : kitB "list" "tuple" = some false := by decide +kernel
@[simp] theorem kb_tuple_tuple : kitB "tuple" "tuple" = some true := by decide +kernel
@[simp] theorem kb_dict_tuple : kitB "dict" "tuple" = some false := by decide +kernel
def isInt : D → Bool
  | .bl _ => true
  | .int _ => true
  | _ => false
theorem isi_int {te : VTE} {e : VEnv} {M : Mem} {Q : VL.VK} (d : D) (h : ∀ R : VL.VK, R d M → te e M R) (ok : Okv M d) (q : Q (.bl (isInt d)) M) : vIsi "int" te e M Q := by
  refine h _ ?_
  cases d with
  | non => exact ⟨_, _, rfl, kb_NoneType_int, q⟩
  | bl b => exact ⟨_, _, rfl, kb_bool_int, q⟩
  | int i => exact ⟨_, _, rfl, kb_int_int, q⟩
  | str x => exact ⟨_, _, rfl, kb_str_int, q⟩
  | lst x => exact ⟨_, _, rfl, kb_list_int, q⟩
  | tup x => exact ⟨_, _, rfl, kb_tuple_int, q⟩
  | obj a => unfold Okv at ok; obtain ⟨kvs, hk⟩ := ok; exact ⟨_, _, by simp [tyD, hk], kb_dict_int, q⟩
  | rd x => unfold Okv at ok; exact ok.elim
  | exc _ _ => unfold Okv at ok; exact ok.elim
def isBool : D → Bool
  | .bl _ => true
  | _ => false
theorem isi_bool {te : VTE} {e : VEnv} {M : Mem} {Q : VL.VK} (d : D) (h : ∀ R : VL.VK, R d M → te e M R) (ok : Okv M d) (q : Q (.bl (isBool d)) M) : vIsi "bool" te e M Q := by
  refine h _ ?_
  cases d with
  | non => exact ⟨_, _, rfl, kb_NoneType_bool, q⟩
  | bl b => exact ⟨_, _, rfl, kb_bool_bool, q⟩
  | int i => exact ⟨_, _, rfl, kb_int_bool, q⟩
  | str x => exact ⟨_, _, rfl, kb_str_bool, q⟩
  | lst x => exact ⟨_, _, rfl, kb_list_bool, q⟩
  | tup x => exact ⟨_, _, rfl, kb_tuple_bool, q⟩
  | obj a => unfold Okv at ok; obtain ⟨kvs, hk⟩ := ok; exact ⟨_, _, by simp [tyD, hk], kb_dict_bool, q⟩
  | rd x => unfold Okv at ok; exact ok.elim
  | exc _ _ => unfold Okv at ok; exact ok.elim
def isStr : D → Bool
  | .str _ => true
  | _ => false
theorem isi_str {te : VTE} {e : VEnv} {M : Mem} {Q : VL.VK} (d : D) (h : ∀ R : VL.VK, R d M → te e M R) (ok : Okv M d) (q : Q (.bl (isStr d)) M) : vIsi "str" te e M Q := by
  refine h _ ?_
  cases d with
  | non => exact ⟨_, _, rfl, kb_NoneType_str, q⟩
  | bl b => exact ⟨_, _, rfl, kb_bool_str, q⟩
  | int i => exact ⟨_, _, rfl, kb_int_str, q⟩
  | str x => exact ⟨_, _, rfl, kb_str_str, q⟩
  | lst x => exact ⟨_, _, rfl, kb_list_str, q⟩
  | tup x => exact ⟨_, _, rfl, kb_tuple_str, q⟩
  | obj a => unfold Okv at ok; obtain ⟨kvs, hk⟩ := ok; exact ⟨_, _, by simp [tyD, hk], kb_dict_str, q⟩
  | rd x => unfold Okv at ok; exact ok.elim
  | exc _ _ => unfold Okv at ok; exact ok.elim
def isTuple : D → Bool
  | .tup _ => true
  | _ => false
theorem isi_tuple {te : VTE} {e : VEnv} {M : Mem} {Q : VL.VK} (d : D) (h : ∀ R : VL.VK, R d M → te e M R) (ok : Okv M d) (q : Q (.bl (isTuple d)) M) : vIsi "tuple" te e M Q := by
  refine h _ ?_
  cases d with
  | non => exact ⟨_, _, rfl, kb_NoneType_tuple, q⟩
  | bl b => exact ⟨_, _, rfl, kb_bool_tuple, q⟩
  | int i => exact ⟨_, _, rfl, kb_int_tuple, q⟩
  | str x => exact ⟨_, _, rfl, kb_str_tuple, q⟩
  | lst x => exact ⟨_, _, rfl, kb_list_tuple, q⟩
  | tup x => exact ⟨_, _, rfl, kb_tuple_tuple, q⟩
  | obj a => unfold Okv at ok; obtain ⟨kvs, hk⟩ := ok; exact ⟨_, _, by simp [tyD, hk], kb_dict_tuple, q⟩
  | rd x => unfold Okv at ok; exact ok.elim
  | exc _ _ => unfold Okv at ok; exact ok.elim
end VL
namespace VL
open PySem PySem.Spec L2
section
variable {X : Cx}
/-- list + list, the sum may change -/
@[simp] def oAddO : VR2 := fun x y M Q => ∃ xs ys, asP M x = some xs ∧ asP M y = some ys ∧ xs.length + ys.length ≤ sizeLine ∧ ∀ p, M p = none → Q (.obj p) (mupd M p (.lst (xs ++ ys)))
theorem o_addO : OpR X (binaryOp .Add) (l2 X.K oAddO) := fun pins s σ H x y v u Q I rx ry ⟨F, M, G, a, b, Q', r, da, db, ⟨xs, ys, ea, eb, hl, q⟩, o⟩ => by
  obtain ⟨p, vs, rfl, hp, dv⟩ := asP_at r da ea
  obtain ⟨p', ws, rfl, hp', dw⟩ := asP_at r db eb
  exact op_cat pins s σ H _ _ v u Q I rx ry ⟨p, p', vs, ws, rfl, rfl, hp, hp', by rw [dv.len, dw.len]; exact hl, fun n hn => o.newO r (m := .lst (xs ++ ys)) ⟨_, rfl, dv.app dw⟩ n hn (q n (r.m0 hn))⟩
theorem size16 : 16000000 < sizeLine := by decide
theorem repr_seq {k : Nat} (hr : RmG k X.A) {F M G H x d Q' Q pins σ s u} (I : L2.Inv X pins σ H s) (ru : RelV x u) (rel : Rel X.K F M G H) (hd : DR X.K F x d) (sh : Sh 30 (fz M d)) (sw : (py (fz M d)).showable = true) (sl : (py (fz M d)).shown.length ≤ 16000000) (href : ∃ a, x = V.ref a)
    (q : Q' (.str (py (fz M d)).shown) M) (o : OutE X.K F G Q' Q) : wpAny (model X.prog X.w) X.A (call (.builtin "repr") [u]) (EP X pins σ Q) X.xe s := by
  obtain ⟨as, rd⟩ := Dp.reads I _ _ _ (fz_dp rel hd sh) ru
  obtain ⟨a, rfl⟩ := href
  cases ru
  have hp := (sh_py 30 _ sh).2
  have hu := hu64 hr.r
  have s16 := size16
  exact PySem.repr_of_reads' rd sw (fun z => by rw [noDict] at z; cases z) hr.g (by omega) (fun _ _ e => e) (fun h' u tk hk => ⟨.str _, H, I.kept hk, ⟨_, rfl⟩, o.stay rel (.str _) q⟩) (by omega)
theorem c_repr {k : Nat} (hr : RmG k X.A) : CallR X (.builtin "repr") (ls X.K rRepr) := by
  intro pins s σ H xs us Q I r ⟨F, M, G, ds, Q', rel, dv, q, o⟩
  unfold rRepr at q
  split at q
  · rename_i d
    obtain ⟨v, rfl, z⟩ := one_of dv
    obtain ⟨u, rfl, ru⟩ := r.one
    obtain ⟨sh, sw, sl, q⟩ := q
    have s16 := size16
    cases d with
    | non =>
      cases z; cases ru
      have e : (py (fz M .non)).shown = "None" := by rw [fz_non]; simp [py, PyData.shown]
      rw [e] at q
      exact PySem.P.repr_of_none ⟨.str _, H, I.tok _, ⟨_, rfl⟩, o.stay rel (.str _) q⟩
    | bl b =>
      cases z; cases ru
      have e : (py (fz M (.bl b))).shown = (if b then ("True" : Str) else "False") := by
        rw [fz_bl]
        simp [py, PyData.shown]
      rw [e] at q
      exact PySem.P.repr_of_bool ⟨.str _, H, I.tok _, ⟨_, rfl⟩, o.stay rel (.str _) q⟩
    | int i =>
      cases z
      obtain ⟨t, rfl⟩ := ru
      have e : (py (fz M (.int i))).shown = toString i := by rw [fz_int]; simp [py, PyData.shown]
      rw [e] at q
      have w : i.natAbs.log2 < 1920 := by rw [fz_int] at sw; simpa [py, PyData.showable] using sw
      exact PySem.P.repr_of_int w ⟨.str _, H, I.tok _, ⟨_, rfl⟩, o.stay rel (.str _) q⟩
    | str x =>
      cases z
      obtain ⟨t, rfl⟩ := ru
      have e : (py (fz M (.str x))).shown = PySem.reprText x := by rw [fz_str]; simp [py, PyData.shown]
      rw [e] at q sl
      exact PySem.P.repr_of_str ⟨.str _, H, I.tok _, ⟨_, rfl⟩, o.stay rel (.str _) q⟩ (by omega)
    | lst xs => exact repr_seq hr I ru rel z sh sw sl (by cases z; exact ⟨_, rfl⟩) q o
    | tup xs => exact repr_seq hr I ru rel z sh sw sl (by cases z; exact ⟨_, rfl⟩) q o
    | obj a => exact repr_seq hr I ru rel z sh sw sl (by cases z; exact ⟨_, rfl⟩) q o
    | exc C y =>
      rw [show fz M (.exc C y) = .exc C y from rfl] at sh
      exact sh.elim
    | rd xs => exact repr_seq hr I ru rel z sh sw sl (by cases z; exact ⟨_, rfl⟩) q o
  · exact q.elim
end
end VL
namespace VL
open PySem PySem.Spec L2
section
variable {X : Cx}
/-- [..] * k, the list may change -/
def oRepO : VR2 := fun x y M Q => ∃ xs k, asP M x = some xs ∧ y = .int k ∧ -(2 ^ 63) ≤ k ∧ k < 2 ^ 63 ∧ xs.length * k.toNat ≤ sizeLine ∧ ∀ p, M p = none → Q (.obj p) (mupd M p (.lst (List.replicate k.toNat xs).flatten))
theorem o_repO : OpR X (binaryOp .Mult) (l2 X.K oRepO) :=
  OpR_imp op_rep fun x y H Q ⟨F, M, G, a, b, Q', r, da, db, q, o⟩ => by
    obtain ⟨xs, k, ea, rfl, h1, h2, hl, q⟩ := q
    cases db
    obtain ⟨p, vs, rfl, hp, dv⟩ := asP_at r da ea
    refine ⟨p, k, vs, rfl, rfl, hp, h1, h2, by rw [dv.len]; exact hl, fun n hn => ?_⟩
    exact o.newO r (m := .lst _) ⟨_, rfl, dv.rep _⟩ n hn (q n (r.m0 hn))
@[simp] def oFdivN : VR2 := fun x y M Q => ∃ i j, x = .int i ∧ y = .int j ∧ CDivN i j ∧ Q (.int (i.fdiv j)) M
theorem o_fdivN : OpR X (binaryOp .FloorDiv) (l2 X.K oFdivN) := of_int2 (C := CDivN) op_fdivN
end
/-- the promise of the call one level down -/
def prev (p : Nat → VSp) : Nat → VSp
  | 0 => fun _ _ _ => False
  | n + 1 => p n
theorem kn_void {P : Program} {w : World} {K : PySem.W.Frag} {mg : Str → Option Value} {base : Heap} {x : Str} {st : Stmt} {ps : List Str} {k : Nat} (hD : Df K mg x st)
    (hb : ∀ (kV doc pm : Value) (an : Option Addr) (cdv ct : Value) (us : List Value), us.length = ps.length → bindArgs (PySem.W.fnOf x x (defArgs st) (defBody st) (defScope st) .none kV doc pm an cdv ct) ⟨us, []⟩ = pure (ps.zip us)) : Kn P w K mg base k x ps (fun _ _ _ => False) := by
  obtain ⟨f, fd, hm, F⟩ := hD.ex
  have lk : ∃ oc od osl, K.lookup f = some ⟨oc, od, .func fd, osl⟩ := by
    obtain ⟨oc, od, dV, kV, doc, pm, an, cdv, ct, osl, rfl, lk, hcd, _, _⟩ := F.ex
    exact ⟨oc, od, osl, lk⟩
  exact ⟨f, fd, hm, F.kp, F.bindsN hb, FunD.bindsA F hb, lk, ⟨fun vs H Q E h => by obtain ⟨_, _, _, _, _, _, _, h, _⟩ := h; exact h.elim, fun A outer s H args us vs Q E _ _ _ _ h => by obtain ⟨_, _, _, _, _, _, _, h, _⟩ := h; exact h.elim⟩⟩
/-- plain data of small depth -/
def Bt : Nat → D → Prop
  | _, .non => True
  | _, .bl _ => True
  | _, .int _ => True
  | _, .str x => PyData.strOk x = true
  | 0, .tup xs => xs = []
  | n + 1, .tup xs => xs.length ≤ 100 ∧ ∀ x ∈ xs, Bt n x
  | _, .lst _ => False
  | _, .rd _ => False
  | _, .obj _ => False
  | _, .exc _ _ => False
theorem Bt.ok {M : Mem} : ∀ (n : Nat) (d : D), Bt n d → Okv M d
  | n, .non, _ => by unfold Okv; trivial
  | n, .bl _, _ => by unfold Okv; trivial
  | n, .int _, _ => by unfold Okv; trivial
  | n, .str _, _ => by unfold Okv; trivial
  | 0, .tup xs, h => by cases h; simp [Okv, Okvs]
  | n + 1, .tup xs, h => by unfold Okv; exact ⟨by have := h.1; omega, okvs_of fun x hx => Bt.ok n x (h.2 x hx)⟩
  | n, .lst _, h => by cases n <;> exact h.elim
  | n, .rd _, h => by cases n <;> exact h.elim
  | n, .obj _, h => by cases n <;> exact h.elim
  | n, .exc _ _, h => by cases n <;> exact h.elim
theorem Bt.sh : ∀ (n : Nat) (d : D), Bt n d → Sh (n + 1) d
  | n, .non, _ => by trivial
  | n, .bl _, _ => by trivial
  | n, .int _, _ => by trivial
  | n, .str _, h => by cases n <;> exact h
  | 0, .tup xs, h => by cases h; exact fun x hx => by cases hx
  | n + 1, .tup xs, h => fun x hx => Bt.sh n x (h.2 x hx)
  | n, .lst _, h => by cases n <;> exact h.elim
  | n, .rd _, h => by cases n <;> exact h.elim
  | n, .obj _, h => by cases n <;> exact h.elim
  | n, .exc _ _, h => by cases n <;> exact h.elim
mutual
theorem okvUpd {M : Mem} {p : Addr} {l l' : List D} (hM : M p = some (.lst l)) : ∀ (d : D), Okv M d → Okv (mupd M p (.lst l')) d
  | .non, _ => by unfold Okv; trivial
  | .bl _, _ => by unfold Okv; trivial
  | .int _, _ => by unfold Okv; trivial
  | .str _, _ => by unfold Okv; trivial
  | .lst _, _ => by unfold Okv; trivial
  | .tup xs, h => by unfold Okv at h ⊢; exact ⟨h.1, okvsUpd hM xs h.2⟩
  | .obj a, h => by
    unfold Okv at h ⊢
    obtain ⟨k, h⟩ := h
    refine ⟨k, ?_⟩
    have : a ≠ p := fun e => by subst e; rw [hM] at h; cases h
    simp [mupd, this, h]
  | .rd _, h => by unfold Okv at h; exact h.elim
  | .exc _ _, h => by unfold Okv at h; exact h.elim
theorem okvsUpd {M : Mem} {p : Addr} {l l' : List D} (hM : M p = some (.lst l)) : ∀ (xs : List D), Okvs M xs → Okvs (mupd M p (.lst l')) xs
  | [], _ => by unfold Okvs; trivial
  | x :: xs, h => by unfold Okvs at h ⊢; exact ⟨okvUpd hM x h.1, okvsUpd hM xs h.2⟩
end
theorem cut_len {α : Type} (xs : List α) (lo hi : Option Int) : (cutD xs lo hi).length ≤ xs.length := by
  unfold cutD
  rw [List.length_take, List.length_drop]
  omega
theorem cut_mem {α : Type} {xs : List α} {lo hi : Option Int} {x : α} (h : x ∈ cutD xs lo hi) : x ∈ xs := by
  unfold cutD at h
  exact List.mem_of_mem_drop (List.mem_of_mem_take h)
theorem oNe_nilT {xs : List D} {M : Mem} {Q : VL.VK} (s : ∀ x ∈ xs, Sh 29 x) (q : Q (.bl (!xs.isEmpty)) M) : oNe (.tup xs) (.tup []) M Q :=
  .inr ⟨by rw [fz_tup]; exact s, by rw [fz_tup]; exact (fun _ z => nomatch z), by rw [fz_tup, fz_tup, eqD_tup, eqDs_nil_iff]; exact q⟩
theorem Sh.up : ∀ (n m : Nat) (d : D), n ≤ m → Sh n d → Sh m d
  | n, m, .non, _, _ => by cases m <;> trivial
  | n, m, .bl _, _, _ => by cases m <;> trivial
  | n, m, .int _, _, _ => by cases m <;> trivial
  | n, m, .str _, _, h => by cases m <;> cases n <;> exact h
  | n + 1, m + 1, .lst xs, l, h => fun x hx => Sh.up n m x (by omega) (h x hx)
  | n + 1, m + 1, .tup xs, l, h => fun x hx => Sh.up n m x (by omega) (h x hx)
  | n + 1, m + 1, .rd xs, l, h => fun x hx => Sh.up n m x (by omega) (h x hx)
  | 0, m, .lst xs, l, h => h.elim
  | 0, m, .tup xs, l, h => h.elim
  | 0, m, .rd xs, l, h => h.elim
  | n, m, .obj _, l, h => by cases n <;> exact h.elim
  | n, m, .exc _ _, l, h => by cases n <;> exact h.elim
theorem s_split {t R : VTS} {K : VEnds} {e : VEnv} {M : Mem} (P : Mem → Prop) (h : ∀ M1, P M1 → R K e M1) (q : ∀ R' : VTS, (∀ M1, P M1 → R' K e M1) → sSeq t R' K e M) : sSeq t R K e M := q R h
end VL
namespace VL
open PySem PySem.Spec L2
theorem updN {H : Hp} {a b : Nat} {o : HO} (h : b ≠ a) : upd H a o b = H b := upd_ne h
theorem mupdN {M : Mem} {a b : Nat} {o : MO} (h : b ≠ a) : mupd M a o b = M b := mupd_ne h
theorem dropN {H : Hp} {a b : Nat} (h : b ≠ a) : ItX.dropH H a b = H b := ItX.dropH_ne h
theorem inv_many {X : Cx} {pins : List (Addr × Obj)} {σ : L2.St} {H H' : Hp} {s : Shared} {h' : Heap} {t' : Nat} (I : Inv X pins σ H s) (k : ∀ b u, s.heap.get? b = some u → h'.get? b = some u) (old : ∀ b, b < s.heap.objs.size → H' b = H b)
    (new : ∀ b u, H' b = some u → s.heap.objs.size ≤ b → ObjOk X.prog X.w H' h' b u) : Inv X pins σ H' { s with heap := h', toks := t' } := by
  have same : ∀ b u, H b = some u → H' b = some u := fun b u e => by rw [old b (I.hok.lt e)]; exact e
  refine I.un (t' := t') (h' := h') ⟨fun b u q _ _ _ => k b u q, fun b u q _ _ _ => ⟨u.slots, k b u q⟩, fun b u q n _ => by rw [old b (Heap.lt_size q)]; exact n, fun b u q _ => ⟨u, k b u q⟩, fun b xs e => same b _ e, fun b o u e => same b _ e, fun b ps e => ⟨#[], by rw [same b _ e]; simp⟩⟩ fun b u e => ?_
  by_cases hb : b < s.heap.objs.size
  · rw [old b hb] at e
    exact (I.hok b u e).stay (fun c v _ q => k c v q) (fun c q => same c _ q) fun c xs q => same c _ q
  · exact new b u e (Nat.le_of_not_lt hb)
def phZ (n b : Nat) (h : Heap) : Prop := n ≤ b ∧ PySem.IsZip h (b + 4) (b + 2) (b + 3) .none
def phI (b : Nat) (h : Heap) : Prop := PySem.IsPair h (b + 2) (.ref b) (.ref (b + 1))
def phO (b : Nat) (h : Heap) : Prop := PySem.IsPair h (b + 3) .none .none
def phT (b p a : Nat) (h : Heap) : Prop := a < b ∧ h.IsTupleIter p a 0
def zipH (H : Hp) (n b x y : Nat) : Hp := upd (upd (upd (upd (upd H b (.ext (phT b b x))) (b + 1) (.ext (phT b (b + 1) y))) (b + 2) (.ext (phI b))) (b + 3) (.ext (phO b))) (b + 4) (.ext (phZ n b))
def mzip (M : Mem) (n b : Nat) (us vs : List D) : Mem := mupd (mupd (mupd (mupd (mupd M b (.ti b b us)) (b + 1) (.ti b (b + 1) vs)) (b + 2) (.ex (phI b))) (b + 3) (.ex (phO b))) (b + 4) (.ex (phZ n b))
theorem zipH_old {H : Hp} {n b x y c : Nat} (h : ∀ k : Nat, k < 5 → c ≠ b + k) : zipH H n b x y c = H c := by
  have h0 : c ≠ b := h 0 (by omega)
  have h1 := h 1 (by omega)
  have h2 := h 2 (by omega)
  have h3 := h 3 (by omega)
  have h4 := h 4 (by omega)
  unfold zipH
  rw [upd_ne h4, upd_ne h3, upd_ne h2, upd_ne h1, upd_ne h0]
theorem zipH_0 {H : Hp} {n b x y : Nat} : zipH H n b x y b = some (.ext (phT b b x)) := by
  unfold zipH
  rw [updN (by omega), updN (by omega), updN (by omega), updN (by omega), upd_same]
theorem zipH_1 {H : Hp} {n b x y : Nat} : zipH H n b x y (b + 1) = some (.ext (phT b (b + 1) y)) := by
  unfold zipH
  rw [updN (by omega), updN (by omega), updN (by omega), upd_same]
theorem zipH_2 {H : Hp} {n b x y : Nat} : zipH H n b x y (b + 2) = some (.ext (phI b)) := by
  unfold zipH
  rw [updN (by omega), updN (by omega), upd_same]
theorem zipH_3 {H : Hp} {n b x y : Nat} : zipH H n b x y (b + 3) = some (.ext (phO b)) := by
  unfold zipH
  rw [updN (by omega), upd_same]
theorem zipH_4 {H : Hp} {n b x y : Nat} : zipH H n b x y (b + 4) = some (.ext (phZ n b)) := upd_same
theorem mzip_old {M : Mem} {n b c : Nat} {us vs : List D} (h : ∀ k : Nat, k < 5 → c ≠ b + k) : mzip M n b us vs c = M c := by
  have h0 : c ≠ b := h 0 (by omega)
  have h1 := h 1 (by omega)
  have h2 := h 2 (by omega)
  have h3 := h 3 (by omega)
  have h4 := h 4 (by omega)
  unfold mzip
  rw [mupd_ne h4, mupd_ne h3, mupd_ne h2, mupd_ne h1, mupd_ne h0]
theorem mzip_0 {M : Mem} {n b : Nat} {us vs : List D} : mzip M n b us vs b = some (.ti b b us) := by
  unfold mzip
  rw [mupdN (by omega), mupdN (by omega), mupdN (by omega), mupdN (by omega), mupd_same]
theorem mzip_1 {M : Mem} {n b : Nat} {us vs : List D} : mzip M n b us vs (b + 1) = some (.ti b (b + 1) vs) := by
  unfold mzip
  rw [mupdN (by omega), mupdN (by omega), mupdN (by omega), mupd_same]
theorem mzip_2 {M : Mem} {n b : Nat} {us vs : List D} : mzip M n b us vs (b + 2) = some (.ex (phI b)) := by
  unfold mzip
  rw [mupdN (by omega), mupdN (by omega), mupd_same]
theorem mzip_3 {M : Mem} {n b : Nat} {us vs : List D} : mzip M n b us vs (b + 3) = some (.ex (phO b)) := by
  unfold mzip
  rw [mupdN (by omega), mupd_same]
theorem mzip_4 {M : Mem} {n b : Nat} {us vs : List D} : mzip M n b us vs (b + 4) = some (.ex (phZ n b)) := mupd_same
/-- zip(a, b) of two tuples, kept -/
@[simp] def rZipN (n : Nat) : VRs := fun ds M Q => ∃ us vs, ds = [.tup us, .tup vs] ∧ ∀ b : Nat, (∀ k : Nat, k < 5 → M (b + k) = none) → Q (.obj (b + 4)) (mzip M n b us vs)
section
variable {X : Cx}
theorem c_zipN : CallR X (.type "zip") (ls X.K (rZipN X.s_0.heap.objs.size)) := by
  intro pins s σ H xs ws Q I r ⟨F, M, G, ds, Q', rel, dv, ⟨ua, va, e, q⟩, o⟩
  subst e
  obtain ⟨vx, vy, rfl, z1, z2⟩ := two_of dv
  cases z1 with
  | @tup a us _ h1 y1 =>
    cases z2 with
    | @tup c vs _ h2 y2 =>
      obtain ⟨u1, u2, rfl, r1, r2⟩ := vals2 r
      cases r1
      cases r2
      obtain ⟨its, rv, p1, _⟩ := I.tuple (same_tup rel.sub h1)
      obtain ⟨its2, rv2, p2, _⟩ := I.tuple (same_tup rel.sub h2)
      refine RZ.call_zipT (show s.heap.IsTuple a its.toArray from p1) (show s.heap.IsTuple c its2.toArray from p2) fun h' hz hTI hTO hi1 hi2 hsz hk => ?_
      obtain ⟨oa, hoa, _⟩ := id p1
      obtain ⟨oc, hoc, _⟩ := id p2
      have la : a < s.heap.objs.size := Heap.lt_size hoa
      have lc : c < s.heap.objs.size := Heap.lt_size hoc
      have fr : ∀ k, H (s.heap.objs.size + k) = none := fun k => I.hok.fresh (Nat.le_add_right _ _)
      have q1 := q s.heap.objs.size fun k _ => rel.m0 (fr k)
      refine ⟨.ref (s.heap.objs.size + 4), zipH H X.s_0.heap.objs.size s.heap.objs.size a c, inv_many (t' := s.toks) I hk (fun b hb => zipH_old fun k _ => by omega) (fun b u e hb => ?_), rfl, ?_⟩
      · by_cases n4 : b = s.heap.objs.size + 4
        · subst n4; rw [zipH_4] at e; cases e
          exact ⟨⟨I.sz, hz⟩, ⟨_, hz⟩, fun h1 h2 p k => ⟨p.1, k _ p.2⟩⟩
        by_cases n3 : b = s.heap.objs.size + 3
        · subst n3; rw [zipH_3] at e; cases e
          exact ⟨hTO, ⟨_, hTO⟩, fun h1 h2 p k => k _ p⟩
        by_cases n2 : b = s.heap.objs.size + 2
        · subst n2; rw [zipH_2] at e; cases e
          exact ⟨hTI, ⟨_, hTI⟩, fun h1 h2 p k => k _ p⟩
        by_cases n1 : b = s.heap.objs.size + 1
        · subst n1; rw [zipH_1] at e; cases e
          exact ⟨⟨lc, hi2⟩, (by obtain ⟨ob, e, _⟩ := hi2; exact ⟨ob, e⟩), fun h1 h2 p k => ⟨p.1, p.2.at fun ob => k ob⟩⟩
        by_cases n0 : b = s.heap.objs.size
        · subst n0; rw [zipH_0] at e; cases e
          exact ⟨⟨la, hi1⟩, (by obtain ⟨ob, e, _⟩ := hi1; exact ⟨ob, e⟩), fun h1 h2 p k => ⟨p.1, p.2.at fun ob => k ob⟩⟩
        · exfalso
          have hb' : H b = none := I.hok.fresh hb
          have far : ∀ k : Nat, k < 5 → b ≠ s.heap.objs.size + k := fun k hk z => by
            have : k = 0 ∨ k = 1 ∨ k = 2 ∨ k = 3 ∨ k = 4 := by omega
            rcases this with rfl | rfl | rfl | rfl | rfl
            · exact n0 z
            · exact n1 z
            · exact n2 z
            · exact n3 z
            · exact n4 z
          rw [zipH_old far, hb'] at e
          cases e
      · refine o _ _ F _ _ (Same.refl F) ?_ (.obj _) q1
        unfold mzip zipH
        have f1 : ∀ {H1 : Hp} {p : Nat} {oo : HO} {c : Nat}, H1 c = none → c ≠ p → upd H1 p oo c = none := fun e n => by rw [updN n]; exact e
        have g0 := rel.newM (fr 0) (m := .ti s.heap.objs.size s.heap.objs.size ua) (o := .ext (phT s.heap.objs.size s.heap.objs.size a)) ⟨a, rfl, .tup h1 y1⟩
        have g1 := g0.newM (f1 (fr 1) (by omega)) (m := .ti s.heap.objs.size (s.heap.objs.size + 1) va) (o := .ext (phT s.heap.objs.size (s.heap.objs.size + 1) c)) ⟨c, rfl, .tup h2 y2⟩
        have g2 := g1.newM (f1 (f1 (fr 2) (by omega)) (by omega)) (m := .ex (phI s.heap.objs.size)) (o := .ext (phI s.heap.objs.size)) rfl
        have g3 := g2.newM (f1 (f1 (f1 (fr 3) (by omega)) (by omega)) (by omega)) (m := .ex (phO s.heap.objs.size)) (o := .ext (phO s.heap.objs.size)) rfl
        exact g3.newM (f1 (f1 (f1 (f1 (fr 4) (by omega)) (by omega)) (by omega)) (by omega)) (m := .ex (phZ X.s_0.heap.objs.size s.heap.objs.size)) (o := .ext (phZ X.s_0.heap.objs.size s.heap.objs.size)) rfl
/-- for a, b in z: z holds a zip that has not moved; behind it the zip is forgotten -/
def iZipN (n i : Nat) : VTI := fun e M R => ∃ (M0 : Mem) (b : Nat) (us vs : List D), e[i]? = some (some (.obj (b + 4))) ∧ M = mzip M0 n b us vs ∧ (∀ k : Nat, k < 5 → M0 (b + k) = none) ∧ R ⟨zipD us vs, fun _ => True⟩ M0
theorem vi_zipN {i : Nat} {x : Str} {p tpos : Pos} {elts : List Expr} {kk : Nat} (hv : PE X (.Name x p) (tVar i)) : VI X (.Tuple elts kk tpos) (.Name x p) (iZipN X.s_0.heap.objs.size i) := by
  refine ⟨fun pins s σ H R I ⟨F, M, G, e, R', hs, hr, ⟨M0, b, us, vs, he, hM, h0, q⟩, o⟩ => ?_⟩
  subst hM
  obtain ⟨v, hσ, dv⟩ := hs.get he
  cases dv
  refine thn (hv.run pins s σ H (fun v H1 => v = .ref (b + 4) ∧ H1 = H) I ⟨.ref (b + 4), hσ, rfl, rfl⟩) fun u s1 ⟨v, H1, I1, r1, ev, eH⟩ => ?_
  subst ev
  rw [eH] at I1
  cases r1
  obtain ⟨f0, g0, _, k0, a, rfl, d1⟩ := hr.ob b _ mzip_0
  obtain ⟨f1, g1, _, k1, c, rfl, d2⟩ := hr.ob (b + 1) _ mzip_1
  obtain ⟨f2, g2, _, k2, rfl⟩ := hr.ob (b + 2) _ mzip_2
  obtain ⟨f3, g3, _, k3, rfl⟩ := hr.ob (b + 3) _ mzip_3
  obtain ⟨f4, g4, _, k4, rfl⟩ := hr.ob (b + 4) _ mzip_4
  obtain ⟨la, hi1⟩ := (I1.hok b _ k0).1
  obtain ⟨lc, hi2⟩ := (I1.hok (b + 1) _ k1).1
  have hTI : phI b s1.heap := (I1.hok (b + 2) _ k2).1
  have hTO : phO b s1.heap := (I1.hok (b + 3) _ k3).1
  have hz : phZ X.s_0.heap.objs.size b s1.heap := (I1.hok (b + 4) _ k4).1
  obtain ⟨hn, hz⟩ := hz
  cases d1 with
  | @tup _ ws _ h1 y1 =>
    cases d2 with
    | @tup _ ws2 _ h2 y2 =>
      -- the five are forgotten
      have e1 : ItX.dropH H (b + 4) (b + 3) = some (.ext (phO b)) := by rw [dropN (by omega)]; exact k3
      have e2 : ItX.dropH (ItX.dropH H (b + 4)) (b + 3) (b + 2) = some (.ext (phI b)) := by rw [dropN (by omega), dropN (by omega)]; exact k2
      have e3 := (show ItX.dropH (ItX.dropH (ItX.dropH H (b + 4)) (b + 3)) (b + 2) (b + 1) = H (b + 1) by rw [dropN (by omega), dropN (by omega), dropN (by omega)]).trans k1
      have e4 := (show ItX.dropH (ItX.dropH (ItX.dropH (ItX.dropH H (b + 4)) (b + 3)) (b + 2)) (b + 1) b = H b by rw [dropN (by omega), dropN (by omega), dropN (by omega), dropN (by omega)]).trans k0
      have J1 := ItX.inv_drop I1 k4
      have J2 := ItX.inv_drop J1 e1
      have J3 := ItX.inv_drop J2 e2
      have J4 := ItX.inv_drop J3 e3
      have J5 := ItX.inv_drop J4 e4
      have F0 := ItX.inv_fp J4 e4 (by omega)
      have F1 := ItX.inv_fp J3 e3 (by omega)
      have F2 := ItX.inv_fp J2 e2 (by omega)
      have F3 := ItX.inv_fp J1 e1 (by omega)
      have F4 := ItX.inv_fp I1 k4 (by omega)
      generalize hH5 : ItX.dropH (ItX.dropH (ItX.dropH (ItX.dropH (ItX.dropH H (b + 4)) (b + 3)) (b + 2)) (b + 1)) b = H5 at *
      have at5 : ∀ c', H5 c' = if (∃ k : Nat, k < 5 ∧ c' = b + k) then none else H c' := fun c' => by
        rw [← hH5]
        unfold ItX.dropH
        by_cases q4 : c' = b + 4
        · subst q4; simp
        by_cases q3 : c' = b + 3
        · subst q3; simp
        by_cases q2 : c' = b + 2
        · subst q2; simp
        by_cases q1 : c' = b + 1
        · subst q1; simp
        by_cases q0 : c' = b
        · subst q0; simp
        · rw [if_neg q0, if_neg q1, if_neg q2, if_neg q3, if_neg q4, if_neg]
          rintro ⟨k, hk, z⟩
          have : k = 0 ∨ k = 1 ∨ k = 2 ∨ k = 3 ∨ k = 4 := by omega
          rcases this with rfl | rfl | rfl | rfl | rfl
          · exact q0 z
          · exact q1 z
          · exact q2 z
          · exact q3 z
          · exact q4 z
      have fp : ∀ c' ∈ [b + 4, b + 2, b + 3, b, b + 1], FpOk X pins H5 c' := fun c' hc => by
        have z : H5 c' = none := by
          rw [at5, if_pos]
          simp only [List.mem_cons, List.not_mem_nil, or_false] at hc
          rcases hc with rfl | rfl | rfl | rfl | rfl
          · exact ⟨4, by omega, rfl⟩
          · exact ⟨2, by omega, rfl⟩
          · exact ⟨3, by omega, rfl⟩
          · exact ⟨0, by omega, rfl⟩
          · exact ⟨1, by omega, rfl⟩
        simp only [List.mem_cons, List.not_mem_nil, or_false] at hc
        rcases hc with rfl | rfl | rfl | rfl | rfl
        · exact ⟨z, F4.2⟩
        · exact ⟨z, F2.2⟩
        · exact ⟨z, F3.2⟩
        · exact ⟨z, F0.2⟩
        · exact ⟨z, F1.2⟩
      have st : PySem.IsZip s1.heap (b + 4) (b + 2) (b + 3) .none ∧ PySem.IsPair s1.heap (b + 2) (.ref b) (.ref (b + 1)) ∧ (∃ x y, PySem.IsPair s1.heap (b + 3) x y) ∧ s1.heap.IsTupleIter b a 0 ∧ s1.heap.IsTupleIter (b + 1) c 0 := ⟨hz, hTI, ⟨_, _, hTO⟩, hi1, hi2⟩
      have tn := RZ.turn_zipT (P := X.prog) (w := X.w) (K := X.K) (elts := elts) (kk := kk) (tpos := tpos) (PySem.W.ktu_apart b a c la lc)
      have rel : Rel X.K F M0 G H5 := by
        have off : ∀ {T : Hp} {c' : Addr} {oo : HO}, T c' = some oo → T b = none → T (b + 1) = none → T (b + 2) = none → T (b + 3) = none → T (b + 4) = none → ¬ ∃ k : Nat, k < 5 ∧ c' = b + k := fun {T c' oo} e t0 t1 t2 t3 t4 ⟨k, hk, z⟩ => by
          subst z
          have : k = 0 ∨ k = 1 ∨ k = 2 ∨ k = 3 ∨ k = 4 := by omega
          rcases this with rfl | rfl | rfl | rfl | rfl
          · rw [show b + 0 = b from rfl, t0] at e; cases e
          · rw [t1] at e; cases e
          · rw [t2] at e; cases e
          · rw [t3] at e; cases e
          · rw [t4] at e; cases e
        refine ⟨fun c' oo e => ?_, fun c' oo e => ?_, fun c' oo e => ?_, hr.dis⟩
        · rw [at5, if_neg (off e f0 f1 f2 f3 f4)]; exact hr.sub c' oo e
        · rw [at5, if_neg (off e g0 g1 g2 g3 g4)]; exact hr.hid c' oo e
        · have nn : ¬ ∃ k : Nat, k < 5 ∧ c' = b + k := fun ⟨k, hk, z⟩ => by
            subst z
            rw [h0 k hk] at e; cases e
          rw [at5, if_neg nn]
          refine hr.ob c' oo ?_
          rw [mzip_old fun k hk z => nn ⟨k, hk, z⟩]
          exact e
      exact tn.self X.A 0 s1 _ _ st ⟨b + 4, [b + 4, b + 2, b + 3, b, b + 1], _, _, H5, rfl, J5, tn, st, fp, o _ _ H5 F M0 (Same.refl F) rel (walk_zipT h1 h2 y1 y2) q⟩
end
end VL
namespace VL
open PySem PySem.Spec L2
section
variable {X : Cx} {e f o : Expr} {es : List Expr} {te tf to : VTE} {t : VTA} {p pos apos : Pos}
@[simp] def vaStar (te : VTE) (tr : VTA) : VTA := fun e M Q => te e M fun x M1 => ∃ xs, asI M1 x = some xs ∧ tr e M1 fun ys M2 => Q (xs ++ ys) M2
theorem va_star (he : VE X e te) (hr : VA X es t) (hs : starEach (.Starred e p :: es) X.env = (true, eval e X.env) :: starEach es X.env := by rfl) : VA X (.Starred e p :: es) (vaStar te t) :=
  PA_imp (StX.pa_star he hr hs) fun σ H Q ⟨F, M, G, e, Q', hs, hr, q, o⟩ => ⟨F, M, G, e, _, hs, hr, q, fun x H1 F1 M1 d s1 r1 d1 ⟨xs, ex, q1⟩ => by
    obtain ⟨a, ws, rfl, z, hh⟩ := asI_at r1 d1 ex
    exact ⟨a, ws, rfl, hh.elim (fun h => .inr h) (fun h => .inl h.1), F1, M1, G, e, _, hs.up s1, r1, q1, fun ys H2 F2 M2 ds s2 r2 d2 q2 => o _ H2 F2 M2 _ (s1.trans s2) r2 ((z.up s2).app d2) q2⟩⟩
@[simp] def vPop0 (to : VTE) : VTE := fun e M Q => to e M fun x M1 => ∃ a l y, x = .obj a ∧ M1 a = some (.lst l) ∧ l[l.length - 1]? = some y ∧ Q y (mupd M1 a (.lst l.dropLast))
theorem DRs.dropLast {K : PySem.W.Frag} {F : Hp} {vs : List V} {ds : List D} (h : DRs K F vs ds) : DRs K F vs.dropLast ds.dropLast := by
  rw [List.dropLast_eq_take, List.dropLast_eq_take, h.len]
  exact h.take _
theorem v_pop0 (ho : VE X o to) (hbase : attributeBase o "pop" X.env (eval o X.env) = eval o X.env := by rfl) (hline : (apos.endLine == pos.line) = true := by rfl) :
    VE X (.Call (.Attribute o "pop" apos) [] [] pos) (vPop0 to) :=
  v_pe (pe_bm0 PySem.F.plainAttrs_list PySem.F.slot_list_pop PySem.F.type_list_pop mt_pop ho hbase hline) fun F M G σ H e Q' Q hs hr q o => ⟨F, M, G, e, _, hs, hr, q, fun v H1 F1 M1 d s1 r1 d1 ⟨a, l, y, ed, hM, hy, q1⟩ => by
    subst ed
    cases d1
    obtain ⟨_, _, ho, h1, vs, rfl, z⟩ := r1.ob a _ hM
    obtain ⟨w, hw, dw⟩ := z.geti hy
    exact ⟨.inl ⟨rfl, vs, SqL.of h1⟩, a, vs, w, rfl, rfl, h1, by rw [z.len]; exact hw, o _ _ _ _ _ s1 (r1.wr hM (m := .lst l.dropLast) ⟨_, rfl, z.dropLast⟩) dw q1⟩⟩
@[simp] def vTupRg1 (te : VTE) : VTE := fun e M Q => te e M fun x M1 => ∃ n, x = .int n ∧ -4611686018427387904 ≤ n ∧ n ≤ 16777216 ∧ Q (.tup (rgD 0 n.toNat)) M1
theorem v_tupRg1 {a : Expr} {ta : VTE} {p2 pos2 : Pos} (hc : X.calm = true) (hm : X.mg "tuple" = none) (hr : X.mg "range" = none) (ha : VE X a ta) (hg : Gl X "tuple" := by rfl) (hg2 : Gl X "range" := by rfl)
    (na : starEach [a] X.env = (false, eval a X.env) :: starEach [] X.env := by rfl) (ne : starEach [.Call (.Name "range" p2) [a] [] pos2] X.env = (false, eval (.Call (.Name "range" p2) [a] [] pos2) X.env) :: starEach [] X.env := by rfl) :
    VE X (.Call (.Name "tuple" p) [.Call (.Name "range" p2) [a] [] pos2] [] pos) (vTupRg1 ta) :=
  v_pe (pe_tupRg hc hg hm (prg_1 hg2 hr ha na) ne) fun F M G σ H e Q' Q hs hr q o => ⟨F, M, G, e, _, hs, hr, q, fun v H1 F1 M1 d s1 r1 d1 ⟨n, ed, b1, b2, q1⟩ => by
    subst ed
    cases d1
    refine ⟨n, rfl, ⟨by omega, by omega, by omega, by omega, by omega⟩, fun p hp => ?_⟩
    have q2 : Q' (.tup (rgD 0 (n - 0).toNat)) M1 := by rw [Int.sub_zero]; exact q1
    exact o _ _ _ _ _ (s1.trans (r1.sF hp)) (r1.newF hp) (.tup (SqT.of upd_same) (drs_rg 0 n)) q2⟩
@[simp] def vDGet3 (i1 v1 i2 v2 i3 v3 : Int) (te tf : VTE) : VTE := fun e M Q => te e M fun x M1 => tf e M1 fun y M2 => ∃ i, x = .int i ∧ Q (if i = i1 then .int v1 else if i = i2 then .int v2 else if i = i3 then .int v3 else y) M2
theorem v_dget3 {k : Nat} {i1 v1 i2 v2 i3 v3 : Int} {j1 j2 j3 j4 j5 j6 : Nat} {p1 p2 p3 p4 p5 p6 pd : Pos} (hr : Room k X.A) (n12 : i2 ≠ i1) (n13 : i3 ≠ i1) (n23 : i3 ≠ i2) (he : VE X e te) (hf : VE X f tf)
    (m : M2 X (.Dict [some (.Constant (.int i1) j1 p1), some (.Constant (.int i2) j2 p2), some (.Constant (.int i3) j3 p3)] [.Constant (.int v1) j4 p4, .Constant (.int v2) j5 p5, .Constant (.int v3) j6 p6] pd) "get" apos e f pos) :
    VE X (.Call (.Attribute (.Dict [some (.Constant (.int i1) j1 p1), some (.Constant (.int i2) j2 p2), some (.Constant (.int i3) j3 p3)] [.Constant (.int v1) j4 p4, .Constant (.int v2) j5 p5, .Constant (.int v3) j6 p6] pd) "get" apos) [e, f] [] pos) (vDGet3 i1 v1 i2 v2 i3 v3 te tf) :=
  v_pe (pe_dget2 (by have := hu64 hr; omega) (pe_disp (pps_cons (pe_int (i := i1)) (pe_int (i := v1)) (pps_cons (pe_int (i := i2)) (pe_int (i := v2)) (pps_cons (pe_int (i := i3)) (pe_int (i := v3)) pps_nil))) rfl rfl (by simp) (by show 3 ≤ 15; decide)) he hf m) fun F M G σ H e Q' Q hs hr q o => fun p hp => by
    refine ⟨upd_same, [(.inl i1, .int v1), (.inl i2, .int v2), (.inl i3, .int v3)], rfl, by show 3 ≤ 15; decide, ?_⟩
    have hk : mergeK [] [((.inl i1 : L2.Key), V.int v1), (.inl i2, .int v2), (.inl i3, .int v3)] = [(.inl i1, .int v1), (.inl i2, .int v2), (.inl i3, .int v3)] := by
      simp [mergeK, putK, n12, n13, n23, Ne.symm n12, Ne.symm n13, Ne.symm n23]
    rw [upd_upd, hk]
    refine ⟨p, rfl, .inl ⟨_, Rd.of upd_same⟩, _, M, G, e, _, hs.up (hr.sF hp), hr.newF hp, q, fun y H1 F1 M1 d s1 r1 d1 q1 => ⟨F1, M1, G, e, _, hs.up ((hr.sF hp).trans s1), r1, q1, fun z H2 F2 M2 d2 s2 r2 d2' ⟨i, ei, q2⟩ => ?_⟩⟩
    subst ei
    cases d1
    refine ⟨valV [((Sum.inl i1 : L2.Key), V.int v1), (Sum.inl i2, V.int v2), (Sum.inl i3, V.int v3)] (Sum.inl i), .inl ⟨_, .inl i, Rd.of (r2.sub _ _ (s2 _ _ (s1 _ _ upd_same))), rfl, rfl⟩, ?_⟩
    have s3 := ((hr.sF hp).trans s1).trans s2
    refine o _ H2 F2 M2 _ s3 r2 ?_ q2
    unfold valV
    by_cases h1 : i = i1
    · subst h1; simp; exact .int _
    by_cases h2 : i = i2
    · subst h2; simp [h1, Ne.symm h1]; exact .int _
    by_cases h3 : i = i3
    · subst h3; simp [h1, h2, Ne.symm h1, Ne.symm h2]; exact .int _
    · simp [h1, h2, h3, Ne.symm h1, Ne.symm h2, Ne.symm h3]; exact d2'
end
end VL
namespace VL
open PySem PySem.Spec L2
section
open PyProof.Rows
variable {prog : Program} {w : World} {A : Around} {E : Value → Shared → Prop} {s : Shared}
theorem enT_step {e it t : Addr} {i : Nat} {its : Array Value} {x old : Value} {Q : Value → Shared → Prop} (he : PySem.IsEnum s.heap e it i old) (hit : s.heap.IsTupleIter it t i) (ht : s.heap.IsTuple t its) (hx : its[i]? = some x) (ne : e ≠ it)
    (k : ∀ h', PySem.IsEnumOut h' e it ((i : Int) + 1) x s.heap.objs.size → h'.IsTupleIter it t (i + 1) → h'.get? s.heap.objs.size = some { cls := .type "tuple", data := .seq #[.int i s.toks, x] } → h'.objs.size = s.heap.objs.size + 1 →
      (∀ b o, b ≠ e → b ≠ it → s.heap.get? b = some o → h'.get? b = some o) → Q (.ref s.heap.objs.size) { s with heap := h', toks := s.toks + 1 }) :
    wpAny (model prog w) A (Builtin.«enumerate.__next__» ⟨[.ref e], []⟩) (fun fin s' => ∃ v, fin = .done (.ret v) ∧ Q v s') E s := by
  obtain ⟨hp, g, d, tk, os⟩ := s
  refine (show wpAny _ _ (field (.ref e) 2 >>= _) _ _ _ from wpAny_bind (wpAny_field he rfl (x := .ref it) rfl (wpAny_bind (RZ.nextOf_tuple_item hit ht hx fun ha ita sa => ?_))))
  have sa' : Heap.SameBut it hp ha := sa
  have ea : PySem.IsEnum ha e it i old := (sa'.2 e ne).trans he
  refine (show wpAny _ _ (field (.ref e) 3 >>= _) _ _ ⟨ha, g, d, tk, os⟩ from wpAny_bind (wpAny_field ea rfl (x := rawInt i) rfl ?_))
  refine (show wpAny _ _ (field (.ref e) 4 >>= _) _ _ ⟨ha, g, d, tk, os⟩ from wpAny_bind (wpAny_field ea rfl (x := .none) rfl ?_))
  refine (show wpAny _ _ (mkInt i >>= _) _ _ ⟨ha, g, d, tk, os⟩ from wpAny_bind (wpAny_mkInt ?_))
  refine (show wpAny _ _ (setField (.ref e) 3 (rawInt ((i : Int) + 1)) >>= _) _ _ ⟨ha, g, d, tk + 1, os⟩ from wpAny_bind (wpAny_setField_rec ea (by simp) fun hb eb sb => ?_))
  have sb' : Heap.SameBut e ha hb := sb
  have eb' : PySem.IsEnum hb e it ((i : Int) + 1) old := eb
  refine (show wpAny _ _ (setField (.ref e) 4 .none >>= _) _ _ ⟨hb, g, d, tk + 1, os⟩ from wpAny_bind (wpAny_setField_rec eb' (by simp) fun hc ec sc => ?_))
  have sc' : Heap.SameBut e hb hc := sc
  have ec' : PySem.IsEnum hc e it ((i : Int) + 1) old := ec
  refine (show wpAny _ _ (newTuple [.int i tk, x] >>= _) _ _ ⟨hc, g, d, tk + 1, os⟩ from wpAny_bind (wpAny_newTuple ?_))
  have z0 : hc.objs.size = hp.objs.size := by rw [sc'.1, sb'.1, sa'.1]
  have el : e < hp.objs.size := Heap.lt_size he
  have k3 : ∀ b o, b ≠ e → b ≠ it → hp.get? b = some o → hc.get? b = some o := fun b o h1 h2 q => sc'.extBut b o h1 (sb'.extBut b o h1 (sa'.extBut b o h2 q))
  have ic : hc.IsTupleIter it t (i + 1) := (ita.extBut sb'.extBut (Ne.symm ne)).extBut sc'.extBut (Ne.symm ne)
  rw [z0]
  generalize hd : hc.push { cls := .type "tuple", data := .seq #[.int i tk, x] } = hf
  have ef : PySem.IsEnum hf e it ((i : Int) + 1) old := by rw [← hd]; exact Heap.get?_push_of_some _ ec'
  have tf : hf.get? hp.objs.size = some { cls := .type "tuple", data := .seq #[.int i tk, x] } := by rw [← hd, ← z0]; exact Heap.get?_push_size _ rfl
  have zf : hf.objs.size = hp.objs.size + 1 := by rw [← hd, Heap.size_push, z0]
  have kf : ∀ b o, b ≠ e → b ≠ it → hp.get? b = some o → hf.get? b = some o := fun b o h1 h2 q => by rw [← hd]; exact Heap.get?_push_of_some _ (k3 b o h1 h2 q)
  have jf : hf.IsTupleIter it t (i + 1) := by
    rw [← hd]; obtain ⟨o, q, r⟩ := ic
    exact ⟨o, Heap.get?_push_of_some _ q, r⟩
  clear hd k3 ic ec' ec sc' sc eb' eb sb' sb ea sa' sa ita z0
  refine (show wpAny _ _ (Builtin.SmallTypes.ownedTupleIsFree (.ref e) >>= _) _ _ ⟨hf, g, d, tk + 1, os⟩ from wpAny_bind ?_)
  unfold Builtin.SmallTypes.ownedTupleIsFree
  refine wpAny_bind (wpAny_field ef rfl (x := .none) rfl (wpAny_pure ?_))
  simp only [if_true]
  refine wpAny_bind (wpAny_rule (wpAny_bind (wpAny_field ef rfl (x := old) rfl (wpAny_bind (wpAny_setField_rec ef (by simp) fun h5 e5 s5 => ?_)))))
  have s5' : Heap.SameBut e hf h5 := s5
  have e5' : PySem.IsEnum h5 e it ((i : Int) + 1) x := e5
  refine (show wpAny _ _ (Builtin.SmallTypes.ownedTupleHandOut (.ref e) (.ref hp.objs.size) >>= _) _ _ ⟨h5, g, d, tk + 1, os⟩ from wpAny_bind ?_)
  unfold Builtin.SmallTypes.ownedTupleHandOut
  refine wpAny_bind (wpAny_setField_rec e5' (by simp) fun h6 e6 s6 => ?_)
  have s6' : Heap.SameBut e h5 h6 := s6
  have e6' : PySem.IsEnumOut h6 e it ((i : Int) + 1) x hp.objs.size := e6
  refine wpAny_setField_rec e6' (by simp) fun h7 e7 s7 => ?_
  have s7' : Heap.SameBut e h6 h7 := s7
  have e7' : PySem.IsEnumOut h7 e it ((i : Int) + 1) x hp.objs.size := e7
  have up : ∀ b o, b ≠ e → hf.get? b = some o → h7.get? b = some o := fun b o n q => s7'.extBut b o n (s6'.extBut b o n (s5'.extBut b o n q))
  refine wpAny_bind (wpAny_letGo (wpAny_pure ⟨_, rfl, k h7 e7' ?_ (up _ _ (Nat.ne_of_gt el) tf) (by rw [s7'.1, s6'.1, s5'.1, zf]) fun b o h1 h2 q => up b o h1 (kf b o h1 h2 q)⟩))
  obtain ⟨o, q, r⟩ := jf
  exact ⟨o, up it o (Ne.symm ne) q, r⟩
theorem enT_item {e it t : Addr} {i : Nat} {its : Array Value} {x old : Value} {Q : Option Value → Shared → Prop} (he : PySem.IsEnum s.heap e it i old) (hit : s.heap.IsTupleIter it t i) (ht : s.heap.IsTuple t its) (hx : its[i]? = some x) (ne : e ≠ it)
    (k : ∀ h', PySem.IsEnumOut h' e it ((i : Int) + 1) x s.heap.objs.size → h'.IsTupleIter it t (i + 1) → h'.get? s.heap.objs.size = some { cls := .type "tuple", data := .seq #[.int i s.toks, x] } → h'.objs.size = s.heap.objs.size + 1 →
      (∀ b o, b ≠ e → b ≠ it → s.heap.get? b = some o → h'.get? b = some o) → Q (some (.ref s.heap.objs.size)) { s with heap := h', toks := s.toks + 1 }) :
    wpAny (model prog w) A (pyNext (.ref e)) Q E s := by
  have ty : s.TypeIs (.ref e) "enumerate" := ⟨_, he, rfl⟩
  unfold pyNext
  exact wpAny_bind (wpAny_attempt (wpAny_callSpecial?_slot (name := Str.ofString "__next__") ty PySem.F.slot_enumerate_next (wpAny_call_entry PySem.F.slot_enumerate_next ty PySem.F.entry_enumerate_next (enT_step he hit ht hx ne fun h' a b c d q => wpAny_pure (k h' a b c d q)) (PySem.F.args_enumerate_next_1 _))))
theorem enT_end {e it t : Addr} {i : Nat} {its : Array Value} {old : Value} {Q : Option Value → Shared → Prop} (hh : A.handled = none) (he : PySem.IsEnum s.heap e it i old) (hit : s.heap.IsTupleIter it t i) (ht : s.heap.IsTuple t its) (hx : its[i]? = none)
    (k : ∀ h', Heap.ExtBut it s.heap h' → Q none { s with heap := h' }) : wpAny (model prog w) A (pyNext (.ref e)) Q E s := by
  have ty : s.TypeIs (.ref e) "enumerate" := ⟨_, he, rfl⟩
  unfold pyNext
  refine wpAny_bind (wpAny_attempt (wpAny_callSpecial?_slot (name := Str.ofString "__next__") ty PySem.F.slot_enumerate_next (wpAny_call_entry PySem.F.slot_enumerate_next ty PySem.F.entry_enumerate_next ?_ (PySem.F.args_enumerate_next_1 _))))
  refine (show wpAny _ _ (field (.ref e) 2 >>= _) _ _ _ from wpAny_bind (wpAny_field he rfl (x := .ref it) rfl (wpAny_bind (RZ.nextOf_tuple_end hh hit ht hx fun h' x he' hx' => ?_))))
  obtain ⟨o, ho, hc⟩ := hx'
  exact wpAny_bind (wpAny_isInstance (T := "StopIteration") (b := true) ⟨o, ho, hc⟩ isSubtype_stop (wpAny_pure (k _ he')))
end
end VL
namespace VL
open PySem PySem.Spec L2
section
open PyProof.Rows
open AutoSeq1 (wpAny_loadPart')
def tiObj (l : Addr) : Obj := { cls := .type "tuple_iterator", data := .fields #[.ref l, .int 0 0] }
def enObj (it : Addr) : Obj := { cls := .type "enumerate", data := .fields #[.none, .bool false, .ref it, rawInt 0, .none, .none] }
theorem enT_new (l : Addr) (its : Array Value) (ob : Obj) (hc : ob.cls = .type "tuple") (n : Nat) (hd : ob.data = .seq its n) :
    Meets (Builtin.«enumerate.__new__» ⟨[.type "enumerate", .ref l], []⟩) (fun _ R s => s.heap.get? l = some ob ∧
      R (.ok (.ret (.ref (s.heap.push (tiObj l)).objs.size))) { s with heap := (s.heap.push (tiObj l)).push (enObj s.heap.objs.size) }) :=
  .of_wp fun prog w A R s h => by
    obtain ⟨c, dct, dt, sl⟩ := ob
    obtain rfl : c = .type "tuple" := hc
    obtain rfl : dt = .seq its n := hd
    obtain ⟨hp, g, d, tk, os⟩ := s
    obtain ⟨hl, h⟩ := h
    have hsub := sub_enumerate
    have ht : Heap.IsTuple (Shared.heap ⟨hp, g, d, tk, os⟩) l its := ⟨_, hl, rfl, n, rfl⟩
    wp_walk using wpAny_loadPart' hl
    refine wpAny_stack_any fun st => wpAny_pure ?_
    split
    · rename_i c _ _ _ _ _
      cases (c == Value.type "enumerate") <;> (wp_walk using wpAny_loadPart' hl, wpAny_pyIter_tuple ht) <;> exact ⟨_, rfl, h⟩
    · wp_walk using wpAny_loadPart' hl, wpAny_pyIter_tuple ht
      exact ⟨_, rfl, h⟩
theorem enT_call {prog : Program} {w : World} {A : Around} {E : Value → Shared → Prop} {s : Shared} {l : Addr} {its : Array Value} {Q : Value → Shared → Prop} (ht : s.heap.IsTuple l its)
    (k : ∀ h', PySem.IsEnum h' (s.heap.objs.size + 1) s.heap.objs.size 0 .none → h'.IsTupleIter s.heap.objs.size l 0 → (∀ b o, s.heap.get? b = some o → h'.get? b = some o) → Q (.ref (s.heap.objs.size + 1)) { s with heap := h' }) :
    wpAny (model prog w) A (call (.type "enumerate") [.ref l]) Q E s := by
  obtain ⟨ob, hl, hc, n, hd⟩ := ht
  refine callType_new PySem.F.called_enumerate (by decide) (PySem.F.typeCall_enumerate_1 _) (PySem.F.newCall_enumerate_1 _) (fun obj => PySem.F.args_object_init_2 obj _) PySem.F.entry_enumerate_new (enT_new l its ob hc n hd) ⟨hl, ?_⟩
  have z : (s.heap.push (tiObj l)).objs.size = s.heap.objs.size + 1 := Heap.size_push ..
  have e := Heap.get?_push_size (s.heap.push (tiObj l)) (o := enObj s.heap.objs.size) rfl
  rw [z] at e
  show _ ∧ _
  rw [z]
  exact ⟨⟨_, e, rfl⟩, k _ e ⟨_, Heap.get?_push_of_some _ (Heap.get?_push_size _ rfl), rfl, rfl⟩ fun b o q => Heap.get?_push_of_some _ (Heap.get?_push_of_some _ q)⟩
end
/-- the tuple at a, each item in a new pair -/
def IteT (K : PySem.W.Frag) (a : Addr) : It :=
  ⟨fun i H => ∃ (xs : List V) (x : V), SqT K H a xs ∧ xs[i]? = some x, fun i H v H' => ∃ T x, v = .ref T ∧ H T = none ∧ H' = upd H T (.tup [.int (i : Nat), x]) ∧ ∀ xs, SqT K H a xs → xs[i]? = some x, fun i H => ∃ xs : List V, SqT K H a xs ∧ xs.length ≤ i⟩
theorem turn_enT {P : Program} {w : World} {K : PySem.W.Frag} {elts : List Expr} {kk : Nat} {tpos : Pos} (a e it : Addr) :
    Turn P w K (.Tuple elts kk tpos) (IteT K a) [e, it] e (fun i h => (∃ old, PySem.IsEnum h e it ((i : Nat) : Int) old) ∧ h.IsTupleIter it a i ∧ e ≠ it) where
  mem := List.mem_cons_self
  obj := fun i h ⟨⟨old, he⟩, ⟨o, ho, hc, hd⟩, _⟩ b hb => by
    rcases List.mem_cons.mp hb with rfl | hb
    · exact ⟨_, he, fun v q => by cases q⟩
    · cases List.mem_singleton.mp hb
      exact ⟨o, ho, fun v q => by rw [hd] at q; cases q⟩
  keep := fun i h h' ⟨⟨old, he⟩, hi, ne⟩ k => ⟨⟨old, k e List.mem_cons_self _ he⟩, hi.at fun o q => k it (List.mem_cons_of_mem _ List.mem_cons_self) o q, ne⟩
  item := fun X hP hw hK hc i pins s σ H E I hf st hg => by
    cases hP; cases hw; cases hK
    obtain ⟨⟨old, he⟩, hit, ne⟩ := st
    obtain ⟨xs, x, hq, hx⟩ := hg
    obtain ⟨its, rv, p, _⟩ := I.tuple hq
    obtain ⟨u, hu, ru⟩ := rv.get hx
    have l1 : e < s.heap.objs.size := Heap.lt_size he
    have l2 : it < s.heap.objs.size := by obtain ⟨_, q, _⟩ := hit; exact Heap.lt_size q
    have two : ∀ b, b ∈ [e, it] → b < s.heap.objs.size := fun b hb => by
      rcases List.mem_cons.mp hb with rfl | hb
      · exact l1
      · cases List.mem_singleton.mp hb; exact l2
    have off : ∀ b, b ∉ [e, it] → b ≠ e ∧ b ≠ it := fun b hb => ⟨fun z => hb (by rw [z]; exact List.mem_cons_self), fun z => hb (by rw [z]; exact List.mem_cons_of_mem _ List.mem_cons_self)⟩
    refine enT_item he hit (show s.heap.IsTuple a its.toArray from p) (x := u) (by rw [List.getElem?_toArray]; exact hu) ne fun h' ho hit' hT hsz hk => ?_
    refine ⟨_, rfl, wpAny_letOwnedTupleGo_enum (s := { s with heap := h', toks := s.toks + 1 }) ho fun h2 he2 sb => ?_⟩
    have hT2 : h2.get? s.heap.objs.size = some { cls := .type "tuple", data := .seq #[.int i s.toks, u] } := (sb.2 _ (Nat.ne_of_gt l1)).trans hT
    have I1 := I.turnedNew (h' := h2) (t' := s.toks + 1) (ob := .tup [.int (i : Nat), x]) (ch := [e, it]) (fun b o hb q => (sb.2 b (off b hb).1).trans (hk b o (off b hb).1 (off b hb).2 q)) hf (Nat.le_refl _)
      ⟨(by show 2 ≤ sizeLine; decide), [.int i s.toks, u], .cons ⟨_, rfl⟩ (.cons ru .nil), ⟨_, hT2, rfl, _, rfl⟩⟩
    refine ⟨.ref s.heap.objs.size, _, I1, rfl, ⟨_, x, rfl, I.hok.fresh (Nat.le_refl _), rfl, fun ys hy => by rw [I.tuple_inj hy hq]; exact hx⟩, ⟨⟨u, he2⟩, hit'.at fun o q => (sb.2 it (Ne.symm ne)).trans q, ne⟩, fun b hb => ?_⟩
    rw [upd_ne (Nat.ne_of_lt (two b hb))]
    exact (hf b hb).1
  done := fun X hP hw hK hc i pins s σ H E I hf st hg => by
    cases hP; cases hw; cases hK
    obtain ⟨⟨old, he⟩, hit, ne⟩ := st
    obtain ⟨xs, hq, hx⟩ := hg
    obtain ⟨its, rv, p, _⟩ := I.tuple hq
    obtain ⟨f0, f1, f2, f3, f4, f5⟩ := hf it (List.mem_cons_of_mem _ List.mem_cons_self)
    have hl := rv.length
    exact enT_end (I.ok.hd hc) he hit (show s.heap.IsTuple a its.toArray from p) (by simp; omega) fun h' eb => ⟨rfl, I.turned (t' := s.toks) (fun b o hb q => eb b o hb q) f0 f1 f3 f4 f5⟩
  self := fun A i s Q E st h => by
    obtain ⟨⟨_, he⟩, _⟩ := st
    exact wpAny_pyIter_enum he h
def tEnT (K : PySem.W.Frag) (ta : TA) : TI := fun σ H R => ta σ H fun vs H1 => ∃ a xs, vs = [.ref a] ∧ SqT K H1 a xs ∧ R (IteT K a) H1
theorem pi_enT {X : Cx} {e : Expr} {ta : TA} {p pos tpos : Pos} {elts : List Expr} {kk : Nat} (hg : Gl X "enumerate") (hm : X.mg "enumerate" = none) (ha : PA X [e] ta) (hs : starEach [e] X.env = [(false, eval e X.env)] := by rfl) :
    PI X (.Tuple elts kk tpos) (.Call (.Name "enumerate" p) [e] [] pos) (tEnT X.K ta) := by
  refine ⟨fun pins s σ H R I h => PyProof.Rows.Call_ (ld_blt I hg hm PyProof.Rows.boot_enumerate (PyProof.Rows.callWith_type1 (thn (ha.run pos pins s σ H _ I h) fun us s1 ⟨vs, H1, I1, r1, a, xs, ex, hq, q⟩ => ?_) hs rfl))⟩
  subst ex
  obtain ⟨u, rfl, ru⟩ := vals1 r1
  cases ru
  obtain ⟨its, rv, p', _⟩ := I1.tuple hq
  refine enT_call (show s1.heap.IsTuple a its.toArray from p') fun h' he hit hk => wpAny_pyIter_enum he ?_
  have I2 : Inv X pins σ H1 { s1 with heap := h' } := I1.kept (t' := s1.toks) hk
  refine ⟨s1.heap.objs.size + 1, [s1.heap.objs.size + 1, s1.heap.objs.size], _, _, H1, rfl, I2, turn_enT a (s1.heap.objs.size + 1) s1.heap.objs.size, ⟨⟨.none, he⟩, hit, Nat.succ_ne_self _⟩, fun b hb => ?_, q⟩
  have le : s1.heap.objs.size ≤ b := by
    rcases List.mem_cons.mp hb with rfl | hb
    · exact Nat.le_add_right _ _
    · cases List.mem_singleton.mp hb; exact Nat.le_refl _
  exact I1.fpOk le (I1.hok.fresh le)
theorem walk_enT {K : PySem.W.Frag} {F : Hp} {a : Addr} {us : List V} {xs : List D} {ok : Mem → Prop} (h : SqT K F a us) (z : DRs K F us xs) : VWalk K F (IteT K a) ⟨enD xs, ok⟩ := by
  refine ⟨fun i H F1 G M s r _ hi => ?_, fun H F1 G M s r _ => ?_, fun i H v H' F1 G M s r _ hi yd => ?_⟩
  · have l1 : i < us.length := by rw [z.len, ← enD_len]; exact hi
    exact ⟨us, us[i], same_tup r.sub (same_tup s h), by simp [l1]⟩
  · exact ⟨us, same_tup r.sub (same_tup s h), by rw [z.len, show (VIt.mk (enD xs) ok).ds = enD xs from rfl, enD_len]; exact Nat.le_refl _⟩
  · obtain ⟨T, p, rfl, hT, rfl, k1⟩ := yd
    obtain ⟨dx, e1, d1⟩ := (z.up s).get (k1 us (same_tup r.sub (same_tup s h)))
    obtain ⟨F2, s2, r2, d3⟩ := pair_new r hT (.int _) d1
    exact ⟨F2, _, s2, r2, enD_get e1, d3⟩
@[simp] def iEnT (t : VTA) : VTI := fun e M R => t e M fun ds M1 => ∃ xs, ds = [.tup xs] ∧ R ⟨enD xs, fun _ => True⟩ M1
section
variable {X : Cx} {a : Expr} {t : VTA} {p pos : Pos}
theorem vi_enumT {elts : List Expr} {kk : Nat} {tpos : Pos} (hm : X.mg "enumerate" = none) (ha : VA X [a] t) (hg : Gl X "enumerate" := by rfl) (hs : starEach [a] X.env = [(false, eval a X.env)] := by rfl) : VI X (.Tuple elts kk tpos) (.Call (.Name "enumerate" p) [a] [] pos) (iEnT t) :=
  PI_imp (pi_enT hg hm ha hs) fun σ H R ⟨F, M, G, e, R', hs, hr, q, o⟩ => ⟨F, M, G, e, _, hs, hr, q, fun vs H1 F1 M1 ds s1 r1 d1 ⟨xs, ed, q1⟩ => by
    subst ed
    obtain ⟨v, rfl, z1⟩ := one_of d1
    cases z1 with
    | @tup p1 ws _ h1 y1 => exact ⟨p1, ws, rfl, same_tup r1.sub h1, o _ _ H1 F1 M1 s1 r1 (walk_enT h1 y1) q1⟩⟩
end
end VL
namespace VL
open PySem PySem.Spec L2
section
open PyProof.Rows
theorem tup_once (l : Addr) (its : Array Value) (n : Nat) (dd : Option Addr) (sl : Array (Option Value)) (u : Tok) :
    Meets (Builtin.«tuple.__mul__» ⟨[.ref l, .int 1 u], []⟩) (fun _ R s => s.heap.get? l = some { cls := .type "tuple", dict := dd, data := .seq its n, slots := sl } ∧ R (.ok (.ret (.ref l))) s) :=
  .of_wp fun prog w A R s h => by
    obtain ⟨hp, g, d, tk, os⟩ := s
    obtain ⟨hl, h⟩ := h
    have idx := AutoSeq1.idx_int
    wp_walk using wpAny_loadPart' hl
    exact ⟨_, rfl, h⟩
def rOnceT (K : PySem.W.Frag) : R2 := fun x y H Q => ∃ l xs, x = .ref l ∧ y = .int 1 ∧ SqT K H l xs ∧ Q (.ref l) H
theorem op_onceT {X : Cx} : OpR X (binaryOp .Mult) (rOnceT X.K) := by
  intro pins s σ H x y v u Q I rx ry ⟨l, xs, ex, ey, hT, q⟩
  subst ex ey
  cases rx
  obtain ⟨t, rfl⟩ := ry
  obtain ⟨its, r, ⟨⟨cls, dd, data, sl⟩, ho, hc, n, hd⟩, hs⟩ := I.tuple hT
  obtain rfl : cls = .type "tuple" := hc
  obtain rfl : data = .seq its.toArray n := hd
  exact wpAny_binaryOp_repeat_ref (T := "tuple") (U := "int") (by decide) ⟨_, ho, rfl⟩ (fun s' => typeIs_int s' 1 t) noFill_tuple_mul F.fills_int_mul F.slot_int_rmul repeat_tuple F.slot_int_index.lookup
    (call_meets F.slot_int_rmul (typeIs_int s 1 t) F.entry_int_rmul (F.args_int_rmul_2 _ _) (int_rmul_tuple 1 t l its.toArray n dd sl) ⟨ho, rfl, ⟨_, ho, rfl⟩, call_meets F.slot_tuple_mul ⟨_, ho, rfl⟩ F.entry_tuple_mul (F.args_tuple_mul_2 _ _) (tup_once l its.toArray n dd sl t) ⟨ho, ⟨.ref l, H, I, rfl, q⟩⟩⟩)
end
def oRepT : VR2 := fun x y M Q => ∃ xs k, x = .tup xs ∧ y = .int k ∧ xs ≠ [] ∧ 1 ≤ k ∧ k ≤ 1000 ∧ xs.length ≤ 1000 ∧ Q (.tup (List.replicate k.toNat xs).flatten) M
theorem o_repT {X : Cx} : OpR X (binaryOp .Mult) (l2 X.K oRepT) := by
  intro pins s σ H x y v u Q I rx ry ⟨F, M, G, a, b, Q', r, da, db, ⟨xs, k, ea, eb, hne, k1, k2, hl, q⟩, o⟩
  subst ea eb
  cases db
  cases da with
  | @tup l vs _ h z =>
    by_cases e : k = 1
    · subst e
      refine op_onceT pins s σ H _ _ v u Q I rx ry ⟨l, vs, rfl, rfl, same_tup r.sub h, o _ H F M _ (Same.refl F) r (.tup h z) ?_⟩
      have : (List.replicate (1 : Int).toNat xs).flatten = xs := by simp
      rw [← this]
      exact q
    · refine op_repT pins s σ H _ _ v u Q I rx ry ⟨l, k, vs, rfl, rfl, same_tup r.sub h, fun e => hne (List.eq_nil_of_length_eq_zero (by rw [← z.len, e] <;> rfl)), by omega, k2, by rw [z.len]; exact hl, fun p hp => ?_⟩
      exact o _ _ _ _ _ (r.sF hp) (r.newF hp) (.tup (SqT.of upd_same) ((z.rep _).up (r.sF hp))) q
end VL
namespace VL
open PySem PySem.Spec L2
def pr4 (f : D → D → D → D → Mem → VK → Prop) : VSp := fun ds M Q => ∃ a b c d, ds = [a, b, c, d] ∧ f a b c d M Q
theorem pr4_len {f : D → D → D → D → Mem → VK → Prop} {x y z t : Str} : ∀ ds M Q, pr4 f ds M Q → ds.length = [x, y, z, t].length := fun ds M Q ⟨a, b, c, d, e, _⟩ => by rw [e] <;> rfl
theorem pr4_at {f : D → D → D → D → Mem → VK → Prop} {a b c d : D} {M : Mem} {Q : VK} : pr4 f [a, b, c, d] M Q ↔ f a b c d M Q := ⟨fun ⟨_, _, _, _, e, h⟩ => by cases e; exact h, fun h => ⟨a, b, c, d, rfl, h⟩⟩
end VL
namespace VL
open PySem PySem.Spec L2
section
variable {X : Cx} {a b e o i : Expr} {ta tb te to ti : VTE} {pos p q : Pos}
@[simp] def vDictS2 (k1 k2 : Str) (ta tb : VTE) : VTE := fun e M Q => ta e M fun a M1 => tb e M1 fun b M2 => ∀ p, M2 p = none → Q (.obj p) (mupd M2 p (.dk [(.inr k1, a), (.inr k2, b)]))
theorem v_dictS2 {k1 k2 : Str} {j1 j2 : Nat} {p1 p2 : Pos} (hne : k2 ≠ k1) (ha : VE X a ta) (hb : VE X b tb) : VE X (.Dict [some (.Constant (.str k1) j1 p1), some (.Constant (.str k2) j2 p2)] [a, b] pos) (vDictS2 k1 k2 ta tb) :=
  v_pe (pe_disp (pps_cons (pe_str (x := k1)) ha (pps_cons (pe_str (x := k2)) hb pps_nil)) rfl rfl (by simp) (by show 2 ≤ 15; decide)) fun F M G σ H e Q' Q hs hr q o => fun p hp => by
    show lE X.K ta σ (upd H p (.dK [])) _
    have gp : G p = none := hr.g0 hp
    refine ⟨F, M, upd G p (.dK []), e, _, hs, hr.hide hp, q, fun v1 H1 F1 M1 d1 s1 r1 z1 q1 => ?_⟩
    refine ⟨F1, M1, upd G p (.dK []), e, _, hs.up s1, r1, q1, fun v2 H2 F2 M2 d2 s2 r2 z2 q2 => ?_⟩
    refine ⟨r2.hid p _ upd_same, [(.inr k1, v1), (.inr k2, v2)], rfl, by show 2 ≤ 15; decide, ?_⟩
    have hk : mergeK [] [((.inr k1 : L2.Key), v1), (.inr k2, v2)] = [(.inr k1, v1), (.inr k2, v2)] := by
      simp [mergeK, putK, hne, Ne.symm hne]
    rw [hk]
    have hm : M2 p = none := by
      cases e : M2 p with
      | none => rfl
      | some m =>
        have := (r2.ob p m e).2.1
        rw [upd_same] at this; cases this
    have r3 := r2.hwr (o := .dK [((.inr k1 : L2.Key), v1), (.inr k2, v2)]) upd_same
    rw [upd_upd] at r3
    exact o _ _ _ _ _ (s1.trans s2) (r3.giveM (m := .dk [(.inr k1, d1), (.inr k2, d2)]) gp ⟨[(.inr k1, v1), (.inr k2, v2)], rfl, rfl, .cons (z1.up s2) (.cons z2 .nil)⟩ hm) (.obj p) (q2 p hm)
/-- d['k'] = .., a key that is new -/
@[simp] def gSubS (to ti : VTE) : VTG := fun d e M Q => to e M fun o M1 => ti e M1 fun i M2 => ∃ p kvs w, o = .obj p ∧ i = .str w ∧ M2 p = some (.dk kvs) ∧ kvs.length < 1000 ∧ (∀ kv ∈ kvs, kv.1 ≠ .inr w) ∧ Q e (mupd M2 p (.dk (kvs ++ [(.inr w, d)])))
theorem put_new {kws : List (L2.Key × V)} {k : L2.Key} {v : V} (h : ∀ kv ∈ kws, kv.1 ≠ k) : putK kws k v = kws ++ [(k, v)] := by
  unfold putK
  rw [if_neg]
  rw [List.any_eq_true]
  rintro ⟨kv, hkv, e⟩
  exact h kv hkv (of_decide_eq_true e)
theorem keys_new {kws : List (L2.Key × V)} {kvs : List (L2.Key × D)} (e : kws.map (·.1) = kvs.map (·.1)) {k : L2.Key} (h : ∀ kv ∈ kvs, kv.1 ≠ k) : ∀ kv ∈ kws, kv.1 ≠ k := fun kv hkv z => by
  have : kv.1 ∈ kvs.map (·.1) := by rw [← e]; exact List.mem_map_of_mem hkv
  obtain ⟨y, hy, ey⟩ := List.mem_map.mp this
  exact h y hy (ey.trans z)
theorem vg_subS {k : Nat} (hr : Room k X.A) (ho : VE X o to) (hi : VE X i ti)
    (ha : ∀ v, assign (.Subscript o i pos) X.env v = (do
      let ov ← holding [v] (eval o X.env)
      let iv ← holding [v, ov] (eval i X.env)
      standAt pos
      holding [v, ov, iv] (setItem ov iv v)
      release [v, ov, iv] []) := by intro _; rfl) : VG X (.Subscript o i pos) (gSubS to ti) :=
  PG_imp (pg_sub ho hi (set_dict (by have := hu64 hr; omega)) ha) fun v σ H Q ⟨F, M, G, e, d, Q', hs, hr, dv, q, o⟩ => ⟨F, M, G, e, _, hs, hr, q, fun x H1 F1 M1 dx s1 r1 d1 q1 => ⟨F1, M1, G, e, _, hs.up s1, r1, q1, fun y H2 F2 M2 dy s2 r2 d2 q2 => by
    obtain ⟨p, kvs, w, rfl, rfl, hp, hl, hn, q2⟩ := q2
    cases d1; cases d2
    obtain ⟨_, _, ho, e1, kws, rfl, k1, z⟩ := r2.ob p _ hp
    have kl : kws.length = kvs.length := by have := congrArg List.length k1; simpa using this
    have sz := size1000
    refine ⟨p, _, rfl, .inl ⟨kws, .inr w, e1, rfl, by omega, rfl⟩, ?_⟩
    rw [put_new (keys_new k1 hn)]
    exact o _ _ _ _ _ (s1.trans s2) (r2.wr hp (m := .dk (kvs ++ [(.inr w, d)])) ⟨kws ++ [(.inr w, v)], rfl, by simp [k1], by rw [List.map_append, List.map_append]; exact z.app (.cons (dv.up (s1.trans s2)) .nil)⟩) (hs.up (s1.trans s2)) q2⟩⟩
def findD (kvs : List (L2.Key × D)) (k : L2.Key) : Option D := (kvs.find? fun kv => decide (kv.1 = k)).map (·.2)
theorem find_dr {K : PySem.W.Frag} {F : Hp} {k : L2.Key} {d : D} : ∀ {kvs : List (L2.Key × D)} {kws : List (L2.Key × V)}, kws.map (·.1) = kvs.map (·.1) → DRs K F (kws.map (·.2)) (kvs.map (·.2)) → findD kvs k = some d → ∃ v, valV kws k = some v ∧ DR K F v d
  | [], _, _, _, h => by simp [findD] at h
  | (k1, d1) :: kvs, kws, e, z, h => by
    cases kws with
    | nil => simp at e
    | cons w kws =>
      obtain ⟨k2, v1⟩ := w
      simp only [List.map_cons, List.cons.injEq] at e z
      cases z with
      | cons z1 z2 =>
        obtain ⟨e1, e2⟩ := e
        have e1' : k2 = k1 := e1
        subst e1'
        unfold findD at h
        unfold valV
        by_cases q : k2 = k
        · simp [q] at h ⊢
          rw [← h]; exact z1
        · simp [q] at h ⊢
          have := find_dr (kvs := kvs) (kws := kws) e2 z2 (by unfold findD; simpa using h)
          simpa [valV] using this
@[simp] def vIxS (to ti : VTE) : VTE := fun e M Q => to e M fun o M1 => ti e M1 fun i M2 => ∃ p kvs w d, o = .obj p ∧ i = .str w ∧ M2 p = some (.dk kvs) ∧ findD kvs (.inr w) = some d ∧ Q d M2
theorem v_ixS {k : Nat} (hr : Room k X.A) (ho : VE X o to) (hi : VE X i ti) (hs : NoSl i := by exact fun _ _ => rfl) : VE X (.Subscript o i pos) (vIxS to ti) :=
  v_pe (pe_dget (by have := hu64 hr; omega) ho hi hs) fun F M G σ H e Q' Q hs hr q o => ⟨F, M, G, e, _, hs, hr, q, fun x H1 F1 M1 d s1 r1 d1 q1 => ⟨F1, M1, G, e, _, hs.up s1, r1, q1, fun y H2 F2 M2 d' s2 r2 d2 q2 => by
    obtain ⟨p, kvs, w, dd, rfl, rfl, hp, hf, q2⟩ := q2
    cases d1; cases d2
    obtain ⟨_, _, ho, e1, kws, rfl, k1, z⟩ := r2.ob p _ hp
    obtain ⟨v, h1, h2⟩ := find_dr k1 z hf
    exact ⟨p, v, rfl, .inl ⟨kws, .inr w, .inl e1, rfl, h1.symm⟩, o _ H2 F2 M2 _ (s1.trans s2) r2 h2 q2⟩⟩⟩
def many (ns : List Int) : Nat := (PyProof.Rows.firstMet (fun i => ns.getD i 0) ns.length).length
theorem met_one {val : Nat → Int} {c : Int} : ∀ i, (∀ j, j < i + 1 → val j = c) → PyProof.Rows.firstMet val (i + 1) = [c]
  | 0, h => by
    rw [PyProof.Rows.firstMet_succ, PyProof.Rows.firstMet_zero, h 0 (by omega)]
    rfl
  | i + 1, h => by
    rw [PyProof.Rows.firstMet_succ, met_one i (fun j hj => h j (by omega)), h (i + 1) (by omega)]
    simp [PyProof.Rows.step_dedup]
theorem many_one {ns : List Int} (h : ns ≠ []) : many ns = 1 ↔ ∀ x ∈ ns, x = ns.headD 0 := by
  obtain ⟨c, cs, rfl⟩ : ∃ c cs, ns = c :: cs := by
    cases ns with
    | nil => exact absurd rfl h
    | cons c cs => exact ⟨c, cs, rfl⟩
  unfold many
  constructor
  · intro h1 x hx
    have key := fun k => PyProof.Rows.firstMet_any (fun i => (c :: cs).getD i 0) (c :: cs).length k
    obtain ⟨y, hy⟩ : ∃ y, PyProof.Rows.firstMet (fun i => (c :: cs).getD i 0) (c :: cs).length = [y] := by
      match PyProof.Rows.firstMet (fun i => (c :: cs).getD i 0) (c :: cs).length, h1 with
      | [y], _ => exact ⟨y, rfl⟩
    rw [hy] at key
    have one : ∀ k, k ∈ c :: cs → y = k := fun k hk => by
      have := key k
      obtain ⟨i, hi, e⟩ := List.getElem_of_mem hk
      have ha : ((List.range (c :: cs).length).map fun i => (c :: cs).getD i 0).any (· == k) = true := by
        rw [List.any_eq_true]
        refine ⟨k, List.mem_map.mpr ⟨i, List.mem_range.mpr hi, ?_⟩, by simp⟩
        rw [List.getD_eq_getElem?_getD, List.getElem?_eq_getElem hi, ← e] <;> rfl
      rw [ha] at this
      simpa using this
    rw [← one x hx, one c List.mem_cons_self]
    rfl
  · intro h1
    rw [List.length_cons, met_one (c := c) cs.length (fun j hj => ?_)]
    · rfl
    · have hj' : j < (c :: cs).length := by simpa using hj
      rw [List.getD_eq_getElem?_getD, List.getElem?_eq_getElem hj']
      exact h1 _ (List.getElem_mem hj')
@[simp] def vLenSetI (te : VTE) : VTE := fun e M Q => te e M fun x M1 => ∃ ns : List Int, asL M1 x = some (ns.map D.int) ∧ ns.length ≤ 4000 ∧ Q (.int (many ns : Nat)) M1
def tLenSetI (K : PySem.W.Frag) (ta : TE) : TE := fun σ H Q => ta σ H fun x H1 => ∃ (l : Addr) (ns : List Int), x = .ref l ∧ SqL K H1 l (ns.map V.int) ∧ ns.length ≤ 4000 ∧ Q (.int (many ns : Nat)) H1
theorem pe_manyI {ta : TE} {p2 : Pos} (hg : Gl X "len") (hm : X.mg "len" = none) (hg2 : Gl X "set") (hm2 : X.mg "set" = none) (ha : PE X a ta) (hc : X.calm = true)
    (na : starEach [a] X.env = (false, eval a X.env) :: starEach [] X.env) : PE X (.Call (.Name "len" p) [.Call (.Name "set" p2) [a] [] q] [] pos) (tLenSetI X.K ta) := by
  refine ⟨fun pins s σ H Q I h => PyProof.Rows.Call_ (ld_blt I hg hm PySem.boot_len (PyProof.Rows.callWith_builtin1 (PyProof.Rows.args_cons (PyProof.Rows.Call_ (ld_blt I hg2 hm2 PyProof.Rows.boot_set ?_)) rfl) rfl rfl))⟩
  refine PyProof.Rows.callWith_type1 (PyProof.Rows.args_cons (thn (ha.run pins s σ H _ I h) fun v s1 ⟨x, H1, I1, r1, l, ns, ex, hq, hl, q1⟩ => PyProof.Rows.args_nil ?_) na) na rfl
  subst ex
  cases r1
  obtain ⟨its, r, pl, hz⟩ := I1.list hq
  have len0 : its.toArray.size = ns.length := by rw [List.size_toArray, ← r.length, List.length_map]
  refine PySem.call_set_list (I1.ok.hd hc) pl.isList (by simpa using RZ.intsAre_vals r) (by rw [len0]; unfold PySem.scanBound; omega) fun h' tk hS hk => PyProof.Rows.args_nil ?_
  rw [len0] at hS
  have lm := PyProof.Rows.firstMet_length_le (fun i => ns.getD i 0) ns.length
  obtain ⟨o, es, ep, t, ho, hex, hd, _, _, _, hf, hn⟩ := hS
  have I2 : Inv X pins σ H1 { s1 with heap := h', toks := tk } := I1.kept fun b o e => hk b o (Heap.lt_size e) e
  exact PySem.call_len_set ho hex hd hf (by rw [hn] <;> omega) ⟨.int (many ns : Nat), H1, I2.tok _, ⟨_, by rw [hn] <;> rfl⟩, q1⟩
theorem v_lenSetI {p2 : Pos} (hc : X.calm = true) (hm : X.mg "len" = none) (hm2 : X.mg "set" = none) (ha : VE X a ta) (hg : Gl X "len" := by rfl) (hg2 : Gl X "set" := by rfl)
    (na : starEach [a] X.env = (false, eval a X.env) :: starEach [] X.env := by rfl) : VE X (.Call (.Name "len" p) [.Call (.Name "set" p2) [a] [] q] [] pos) (vLenSetI ta) :=
  v_pe (pe_manyI hg hm hg2 hm2 ha hc na) fun F M G σ H e Q' Q hs hr q o => ⟨F, M, G, e, _, hs, hr, q, fun v H1 F1 M1 d s1 r1 d1 ⟨ns, ed, hl, q1⟩ => by
    obtain ⟨l, vs, rfl, hq, z⟩ := asL_at r1 d1 ed
    rw [drs_ints z] at hq
    exact ⟨l, ns, rfl, hq, hl, o _ H1 F1 M1 _ s1 r1 (.int _) q1⟩⟩
end
end VL
namespace VL
open PySem PySem.Spec L2
structure KwK (K : PySem.W.Frag) (mg : Str → Option Value) (x : Str) (ps ks : List Str) : Prop where
  ex : ∃ f fd, mg x = some (.ref f) ∧ (∃ oc od osl, K.lookup f = some ⟨oc, od, .func fd, osl⟩) ∧ ∀ ws : List Value, ws.length = ks.length → bindArgs fd ⟨[], ks.zip ws⟩ = pure (ps.zip ws.reverse)
theorem kwk_of {K : PySem.W.Frag} {mg : Str → Option Value} {x : Str} {st : Stmt} {ps ks : List Str} (hD : Df K mg x st)
    (h : ∀ (kV doc pm : Value) (an : Option Addr) (cdv ct : Value) (ws : List Value), ws.length = ks.length → bindArgs (PySem.W.fnOf x x (defArgs st) (defBody st) (defScope st) .none kV doc pm an cdv ct) ⟨[], ks.zip ws⟩ = pure (ps.zip ws.reverse)) : KwK K mg x ps ks := by
  obtain ⟨f, fd, hm, F⟩ := hD.ex
  obtain ⟨oc, od, dV, kV, doc, pm, an, cdv, ct, osl, rfl, lk, hcd, hd, _⟩ := F.ex
  rcases hd with ⟨_, rfl⟩ | ⟨e, _⟩
  · exact ⟨f, _, hm, ⟨oc, od, osl, lk⟩, h kV doc pm an cdv ct⟩
  · exact absurd rfl e
section
variable {X : Cx} {e : Expr} {kws : List Keyword} {te : VTE} {t : VTA} {pos p kpos : Pos} {x : Str} {ps ks : List Str} {φ : VSp} {j k : Nat} {nm : Option Str}
def VKs (X : Cx) (kws : List Keyword) (t : VTA) : Prop := PK X kws (lA X.K t)
theorem PK_imp {t t' : TA} (h : PK X kws t) (i : ∀ σ H Q, t' σ H Q → t σ H Q) : PK X kws t' := ⟨fun po p s σ H Q I w => h.run po p s σ H Q I (i _ _ _ w)⟩
theorem vk_nil : VKs X [] vaNil := PK_imp pk_nil fun σ H Q ⟨F, M, G, e, Q', hs, hr, q, o⟩ => o [] H F M [] (Same.refl F) hr .nil q
theorem vk_cons (ha : VE X e te) (hr : VKs X kws t) : VKs X (⟨nm, e, kpos⟩ :: kws) (vaCons te t) :=
  PK_imp (pk_cons ha hr) fun σ H Q ⟨F, M, G, e, Q', hs, hr, q, o⟩ => ⟨F, M, G, e, _, hs, hr, q, fun x H1 F1 M1 d s1 r1 d1 q1 => ⟨F1, M1, G, e, _, hs.up s1, r1, q1, fun xs H2 F2 M2 ds s2 r2 d2 q2 =>
    o _ H2 F2 M2 _ (s1.trans s2) r2 (.cons (d1.up s2) d2) q2⟩⟩
@[simp] def vFnR (φ : VSp) (t : VTA) : VTE := fun e M Q => t e M fun ds M1 => φ ds.reverse M1 Q
theorem DRs.rev' {K : PySem.W.Frag} {F : Hp} {vs : List V} {ds : List D} (h : DRs K F vs ds) : DRs K F vs.reverse ds.reverse := h.rev
theorem vals_rev {vs : List V} {us : List Value} (h : Vals vs us) : Vals vs.reverse us.reverse := by
  have go : ∀ {vs : List V} {us : List Value}, Vals vs us → Vals vs.reverse us.reverse := by
    intro vs us h
    induction h with
    | nil => exact .nil
    | cons a r ih => rw [List.reverse_cons, List.reverse_cons]; exact ih.append (.cons a .nil)
  exact go h
theorem v_callKw (F : Kn X.prog X.w X.K X.mg X.base j x ps φ) (W : KwK X.K X.mg x ps ks) (hr : RmG k X.A) (ha : VKs X kws t) (hjk : j ≤ k) (hlen : ps.length = ks.length)
    (hall : (backToKw pos (keywordEach kws X.env)).all (·.1.isSome) = true := by rfl) (hks : (backToKw pos (keywordEach kws X.env)).filterMap (·.1) = ks := by rfl) (hg : Gl X x := by rfl)
    (hdb : (x == ("__debug__" : Str)) = false := by decide) (hpl : ((backTo pos (starEach [] X.env)).any (·.1) || (backToKw pos (keywordEach kws X.env)).any (·.1.isNone)) = false := by rfl) :
    VE X (.Call (.Name x p) [] kws pos) (vFnR φ t) := by
  obtain ⟨f, fd, hm, kp, b1, b2, ⟨oc, od, osl, lk⟩, F⟩ := F.ex
  obtain ⟨f', fd', hm', ⟨oc', od', osl', lk'⟩, hb⟩ := W.ex
  rw [hm] at hm'
  cases hm'
  rw [lk] at lk'
  cases lk'
  refine ⟨fun pins s σ H Q I ⟨F', M, G, e', Q', hs, hr', q, o⟩ => ?_⟩
  refine wpAny_Call_Name_kw (ld_glob I hg hm ?_ hdb)
  refine PySem.W.callWith_KW0 (h₀ := X.base) I.ok.mod.kin kp hall (thn (ha.run pos pins s σ H (fun vs H1 => lSp X.K φ vs.reverse H1 Q E0) I ⟨F', M, G, e', _, hs, hr', q, fun vs H1 F1 M1 ds s1 r1 d1 q1 => ⟨F1, M1, G, ds.reverse, Q', d1.rev, r1, q1, o.up s1⟩⟩) fun us s1 ⟨vs, H1, I1, r, q1⟩ => ⟨I1.kIn, ?_⟩) hpl
  rw [hks]
  have rr := vals_rev r
  have hl : us.reverse.length = ps.length := by rw [← rr.length]; exact F.len _ _ _ _ q1
  have hl2 : us.length = ks.length := by rw [← List.length_reverse, hl, hlen]
  refine wpAny_call (codeAny_mono (F.run X.A X.stack s1 H1 ⟨[] ++ [], ks.zip us⟩ us.reverse vs.reverse Q E0 (hr.mono hjk) I1.env0 (.of_eq (hb us hl2)) rr q1) fun res s' done => ?_)
  match res, done with
  | .error err, done => exact pass0 pins σ H1 s1 err s' I1 done
  | .ok (.ret u), done => exact I1.after done
theorem v_callK0 (F : Kn X.prog X.w X.K X.mg X.base j x ps φ) (hr : RmG k X.A) (hk : j ≤ k := by decide) (hg : Gl X x := by rfl) (hdb : (x == ("__debug__" : Str)) = false := by decide) :
    VE X (.Call (.Name x p) [] [] pos) (vFn φ vaNil) := by
  obtain ⟨f, fd, hm, kp, b1, b2, lk, F⟩ := F.ex
  exact v_call0 (F.mono hk) hr hm kp b1 hg hdb
end
end VL
namespace VL
open PySem PySem.Spec L2
section
variable {X : Cx} {e : Expr} {te : VTE} {pos : Pos}
/-- return of an own list, which changes no more -/
@[simp] def sRetS (t : VTE) : VTS := fun D e M => t e M fun x M1 => ∃ p xs, x = .obj p ∧ M1 p = some (.lst xs) ∧ D.rt (.lst xs) (mdel M1 p)
theorem vs_retS (he : VE X e te) : VS X (.Return (some e) pos) (sRetS te) := vs_ps (ps_ret he) fun F M G σ H e D' D hs hr q o => ⟨F, M, G, e, _, hs, hr, q, fun v H1 F1 M1 d s1 r1 d1 ⟨p, xs, ed, hM, q1⟩ => by
  subst ed
  cases d1
  obtain ⟨vs, e1, z, s2, r2⟩ := r1.shut hM
  exact o.rt _ _ _ _ _ (s1.trans s2) r2 (.lst upd_same (z.up s2)) q1⟩
theorem mdel_new {M : Mem} {p : Addr} {m : MO} (h : M p = none) : Sub M (mdel (mupd M p m) p) := by
  rw [mdel_mupd h]
  exact Sub.refl
end
end VL
namespace VL
open PySem PySem.Spec L2
def pr0 (f : Mem → VK → Prop) : VSp := fun ds M Q => ds = [] ∧ f M Q
theorem pr0_len {f : Mem → VK → Prop} : ∀ ds M Q, pr0 f ds M Q → ds.length = ([] : List Str).length := fun ds M Q ⟨e, _⟩ => by rw [e] <;> rfl
theorem pr0_at {f : Mem → VK → Prop} {M : Mem} {Q : VK} : pr0 f [] M Q ↔ f M Q := ⟨fun ⟨_, h⟩ => h, fun h => ⟨rfl, h⟩⟩
end VL
namespace VL
open PySem PySem.Spec L2
open PyProof.Rows (envOfC)

abbrev VXK := Addr → D → Mem → Prop
abbrev VTEX := VEnv → Mem → VK → VXK → Prop
abbrev VTSX := VEnds → VXK → VEnv → Mem → Prop
abbrev VSpX := List D → Mem → VK → VXK → Prop
def OutX (K : PySem.W.Frag) (F G : Hp) (E' : VXK) (E : XK) : Prop := ∀ (C dx : Addr) (v : V) (d : D) (H F' : Hp) (M : Mem), Same F F' → Rel K F' M G H → F' dx = some (.xd [("value", v)]) → DR K F' v d → E' C d M → E (.ref C) (some dx) H
theorem OutX.up {K : PySem.W.Frag} {F F' G : Hp} {E' : VXK} {E : XK} (o : OutX K F G E' E) (s : Same F F') : OutX K F' G E' E := fun C dx v d H F1 M s1 => o C dx v d H F1 M (s.trans s1)
def lEX (K : PySem.W.Frag) (E : XK) (t : VTEX) : TE := fun σ H Q => ∃ F M G e Q' E', SR K F σ e ∧ Rel K F M G H ∧ t e M Q' E' ∧ OutE K F G Q' Q ∧ OutX K F G E' E
def lSX (K : PySem.W.Frag) (E : XK) (t : VTSX) : TS := fun D σ H => ∃ F M G e D' E', SR K F σ e ∧ Rel K F M G H ∧ t D' E' e M ∧ OutD K F G D' D ∧ OutX K F G E' E
def lSpX (K : PySem.W.Frag) (φ : VSpX) : Sp := fun vs H Q E => ∃ F M G ds Q' E', DRs K F vs ds ∧ Rel K F M G H ∧ φ ds M Q' E' ∧ OutE K F G Q' Q ∧ OutX K F G E' E
def VEX (X : Cx) (E : XK) (e : Expr) (t : VTEX) : Prop := PE X e (lEX X.K E t)
def VSX (X : Cx) (E : XK) (st : Stmt) (t : VTSX) : Prop := PS X st (lSX X.K E t)
def VSsX (X : Cx) (E : XK) (st : List Stmt) (t : VTSX) : Prop := PSs X st (lSX X.K E t)
section
variable {X : Cx} {E : XK} {e : Expr} {es : List Expr} {te : VTE} {tx : VTEX} {t : VTA} {pos p : Pos} {st : Stmt} {rest : List Stmt} {u : VTS} {u1 u2 : VTSX}
@[simp] def xE (t : VTE) : VTEX := fun e M Q _ => t e M Q
@[simp] def xS (t : VTS) : VTSX := fun D _ e M => t D e M
theorem vx_e (h : VE X e te) : VEX X E e (xE te) := PE_imp h fun σ H Q ⟨F, M, G, e, Q', _, hs, hr, q, o, _⟩ => ⟨F, M, G, e, Q', hs, hr, q, o⟩
theorem vsx_s (h : VS X st u) : VSX X E st (xS u) := PS_imp h fun D σ H ⟨F, M, G, e, D', _, hs, hr, q, o, _⟩ => ⟨F, M, G, e, D', hs, hr, q, o⟩
@[simp] def xNext : VTSX := fun D _ e M => D.nx e M
theorem vssx_nil : VSsX X E [] xNext := PSs_imp pss_nil fun D σ H ⟨F, M, G, e, D', _, hs, hr, q, o, _⟩ => o.nx σ H F M e (Same.refl F) hr hs q
theorem vssx_one (h : VSX X E st u1) : VSsX X E [st] u1 := pss_one h
@[simp] def xSeq (t u : VTSX) : VTSX := fun D E' e M => t { D with nx := u D E' } E' e M
theorem vssx_cons (h1 : VSX X E st u1) (h2 : VSsX X E rest u2) : VSsX X E (st :: rest) (xSeq u1 u2) :=
  PSs_imp (pss_cons h1 h2) fun D σ H ⟨F, M, G, e, D', E', hs, hr, q, o, ox⟩ => ⟨F, M, G, e, _, E', hs, hr, q, ⟨fun σ1 H1 F1 M1 e1 s1 r1 z1 q1 => ⟨F1, M1, G, e1, D', E', z1, r1, q1, o.up s1, ox.up s1⟩, o.rt, o.bk, o.ct⟩, ox⟩
@[simp] def xIf (c : VTT) (t u : VTSX) : VTSX := fun D E' e M => c e M fun b M1 => if b = true then t D E' e M1 else u D E' e M1
theorem vsx_if {c : Expr} {s1 s2 : List Stmt} {tc : VTT} (hc : VT X c tc) (ha : VSsX X E s1 u1) (hb : VSsX X E s2 u2) : VSX X E (.If c s1 s2 pos) (xIf tc u1 u2) :=
  PS_imp (ps_if hc ha hb) fun D σ H ⟨F, M, G, e, D', E', hs, hr, q, o, ox⟩ => ⟨F, M, G, e, _, hs, hr, q, fun b H1 F1 M1 s1 r1 q1 => by
    cases b with
    | true => rw [if_pos rfl] at q1 ⊢; exact ⟨F1, M1, G, e, D', E', hs.up s1, r1, q1, o.up s1, ox.up s1⟩
    | false => rw [if_neg Bool.false_ne_true] at q1 ⊢; exact ⟨F1, M1, G, e, D', E', hs.up s1, r1, q1, o.up s1, ox.up s1⟩⟩
@[simp] def xDrop (t : VTEX) : VTSX := fun D E' e M => t e M (fun _ M1 => D.nx e M1) E'
theorem vsx_expr (he : VEX X E e tx) (hs : swapsWith e none pos.line X.env = pure false := by rfl) : VSX X E (.Expr e pos) (xDrop tx) :=
  PS_imp (ps_expr he hs) fun D σ H ⟨F, M, G, e, D', E', hs, hr, q, o, ox⟩ => ⟨F, M, G, e, _, E', hs, hr, q, fun x H1 F1 M1 d s1 r1 d1 q1 => o.nx σ H1 F1 M1 e s1 r1 (hs.up s1) q1, ox⟩
@[simp] def xRet (t : VTEX) : VTSX := fun D E' e M => t e M D.rt E'
theorem vsx_ret (he : VEX X E e tx) : VSX X E (.Return (some e) pos) (xRet tx) :=
  PS_imp (ps_ret he) fun D σ H ⟨F, M, G, e, D', E', hs, hr, q, o, ox⟩ => ⟨F, M, G, e, _, E', hs, hr, q, o.rt, ox⟩
@[simp] def xSet (t : VTEX) (i : Nat) : VTSX := fun D E' e M => t e M (fun d M1 => D.nx (e.set i (some d)) M1) E'
theorem vsx_set {i : Nat} {y : Str} {pos' : Pos} (hN : X.N.Nodup) (hi : X.N[i]? = some y) (hx : Loc X.env.scope y) (he : VEX X E e tx) (hs : swapsWith e (some (.Name y pos')) pos.line X.env = pure false := by rfl)
    (hf : X.fn y = true ∨ X.env.scope.names.lookup y = some .local := by first | exact .inl rfl | exact .inr rfl | assumption) : VSX X E (.Assign [.Name y pos'] e pos) (xSet tx i) :=
  PS_imp (ps_set hN hi hx he hs hf) fun D σ H ⟨F, M, G, e, D', E', hs, hr, q, o, ox⟩ => ⟨F, M, G, e, _, E', hs, hr, q, fun x H1 F1 M1 d s1 r1 d1 q1 => o.nx _ H1 F1 M1 _ s1 r1 ((hs.up s1).put d1 i) q1, ox⟩
@[simp] def xAsg (t : VTEX) (g : VTG) : VTSX := fun D E' e M => t e M (fun x M1 => g x e M1 D.nx) E'
theorem vsx_asg {tg : Expr} {g : VTG} (he : VEX X E e tx) (hg : VG X tg g) (hs : swapsWithSole [tg] e pos.line X.env = pure false := by rfl) (hw : swappedStores [tg] e X.env = pure none := by rfl)
    (h1 : (assignEach [tg] X.env).map (·.2) = [assign tg X.env] := by rfl) : VSX X E (.Assign [tg] e pos) (xAsg tx g) :=
  PS_imp (ps_asg he hg hs hw h1) fun D σ H ⟨F, M, G, e, D', E', hs, hr, q, o, ox⟩ => ⟨F, M, G, e, _, E', hs, hr, q, fun x H1 F1 M1 d s1 r1 d1 q1 => ⟨F1, M1, G, e, d, D'.nx, hs.up s1, r1, d1, q1, o.nx.up s1⟩, ox⟩
/-- a def by name that may raise -/
@[simp] def xFn (φ : VSpX) (t : VTA) : VTEX := fun e M Q E' => t e M fun ds M1 => φ ds M1 Q E'
structure KnX (P : Program) (w : World) (K : PySem.W.Frag) (mg : Str → Option Value) (base : Heap) (k : Nat) (x : Str) (ps : List Str) (φ : VSpX) : Prop where
  ex : ∃ f fd, mg x = some (.ref f) ∧ PySem.W.keepIn K (.ref f) = true ∧ Binds K fd ps [] ∧ FnG P w K mg base (L2.CX P w) k f fd ps (lSpX K φ)
theorem vx_callK {j k : Nat} {x : Str} {ps : List Str} {φ : VSpX} (F : KnX X.prog X.w X.K X.mg X.base j x ps φ) (hr : RmG k X.A) (hx : Passes (L2.CX X.prog X.w) X E) (ha : VA X (e :: es) t) (hk : j ≤ k := by decide) (hg : Gl X x := by rfl)
    (hdb : (x == ("__debug__" : Str)) = false := by decide) (he : starEach (e :: es) X.env = (false, eval e X.env) :: starEach es X.env := by rfl) (hpl : (backTo pos (starEach es X.env)).any (·.1) = false := by rfl) :
    VEX X E (.Call (.Name x p) (e :: es) [] pos) (xFn φ t) := by
  obtain ⟨f, fd, hm, kp, b1, F⟩ := F.ex
  refine ⟨fun pins s σ H Q I ⟨F', M, G, e', Q', E', hs, hr', q, o, ox⟩ => ?_⟩
  refine wpAny_Call_Name_kw (ld_glob I hg hm ?_ hdb)
  refine PySem.W.callWith_K (h₀ := X.base) I.ok.mod.kin kp (thn (ha.run pos pins s σ H (fun vs H1 => lSpX X.K φ vs H1 Q E) I ⟨F', M, G, e', _, hs, hr', q, fun vs H1 F1 M1 ds s1 r1 d1 q1 => ⟨F1, M1, G, ds, Q', E', d1, r1, q1, o.up s1, ox.up s1⟩⟩) fun us s1 ⟨vs, H1, I1, r, q⟩ => ⟨I1.kIn, ?_⟩) he hpl
  exact run_g (F.mono hk) hr b1 hx I1 r q
theorem kn_ofX {P : Program} {w : World} {K : PySem.W.Frag} {mg : Str → Option Value} {base : Heap} {x : Str} {st : Stmt} {N ps : List Str} {k : Nat} {φ : VSpX} (hD : Df K mg x st) (S : FnScope N ps (defScope st))
    (hb : ∀ (kV doc pm : Value) (an : Option Addr) (cdv ct : Value) (us : List Value), us.length = ps.length → bindArgs (PySem.W.fnOf x x (defArgs st) (defBody st) (defScope st) .none kV doc pm an cdv ct) ⟨us, []⟩ = pure (ps.zip us))
    (len : ∀ ds M Q E', φ ds M Q E' → ds.length = ps.length)
    (hbody : ∀ (f : Addr) (cdv : Value) (A : Around) (outer : List Env) (s : Shared) (H : Hp) (E : XK), RmG k (A.deeper (envOfC x (defScope st) s.heap.objs.size f cdv)) →
      ∃ t, VSsX (cxOf (L2.CX P w) P w K mg base N x (defScope st) f cdv A outer s H E) E (defBody st) t ∧ ∀ ds M Q E', φ ds M Q E' → t { nx := fun _ M' => Q .non M', rt := Q } E' (vstart N.length ds) M) : KnX P w K mg base (k + 1) x ps φ := by
  obtain ⟨f, fd, hm, Fd⟩ := hD.ex
  obtain ⟨oc, od, dV, kV, doc, pm, an, cdv, ct, osl, hfd, lk, hcd, _, _⟩ := id Fd.ex
  refine ⟨f, fd, hm, Fd.kp, Fd.bindsN hb, ?_⟩
  rw [hfd] at lk ⊢
  refine fnG_of lk hcd S (fun vs H Q E ⟨F, M, G, ds, Q', E', dv, r, q, o, ox⟩ => by rw [dv.len]; exact len ds M Q' E' q) fun A outer s H vs Q E hr ⟨F', M, G, ds, Q', E', dv, r, q, o, ox⟩ => ?_
  obtain ⟨t, h1, h2⟩ := hbody f cdv A outer s H E hr
  exact ⟨_, h1, F', M, G, vstart N.length ds, _, E', SR.start dv, r, h2 ds M Q' E' q, ⟨fun σ H1 F1 M1 e s1 r1 hs1 q1 => o _ H1 F1 M1 _ s1 r1 .non q1, o, fun _ _ _ _ _ _ _ _ z => z.elim, fun _ _ _ _ _ _ _ _ z => z.elim⟩, ox⟩
def prx1 (f : D → Mem → VK → VXK → Prop) : VSpX := fun ds M Q E' => ∃ a, ds = [a] ∧ f a M Q E'
def prx2 (f : D → D → Mem → VK → VXK → Prop) : VSpX := fun ds M Q E' => ∃ a b, ds = [a, b] ∧ f a b M Q E'
def prx3 (f : D → D → D → Mem → VK → VXK → Prop) : VSpX := fun ds M Q E' => ∃ a b c, ds = [a, b, c] ∧ f a b c M Q E'
theorem prx1_len {f : D → Mem → VK → VXK → Prop} {x : Str} : ∀ ds M Q E', prx1 f ds M Q E' → ds.length = [x].length := fun ds M Q E' ⟨a, e, _⟩ => by rw [e] <;> rfl
theorem prx2_len {f : D → D → Mem → VK → VXK → Prop} {x y : Str} : ∀ ds M Q E', prx2 f ds M Q E' → ds.length = [x, y].length := fun ds M Q E' ⟨a, b, e, _⟩ => by rw [e] <;> rfl
theorem prx3_len {f : D → D → D → Mem → VK → VXK → Prop} {x y z : Str} : ∀ ds M Q E', prx3 f ds M Q E' → ds.length = [x, y, z].length := fun ds M Q E' ⟨a, b, c, e, _⟩ => by rw [e] <;> rfl
theorem prx1_at {f : D → Mem → VK → VXK → Prop} {a : D} {M : Mem} {Q : VK} {E' : VXK} : prx1 f [a] M Q E' ↔ f a M Q E' := ⟨fun ⟨_, e, h⟩ => by cases e; exact h, fun h => ⟨_, rfl, h⟩⟩
theorem prx2_at {f : D → D → Mem → VK → VXK → Prop} {a b : D} {M : Mem} {Q : VK} {E' : VXK} : prx2 f [a, b] M Q E' ↔ f a b M Q E' := ⟨fun ⟨_, _, e, h⟩ => by cases e; exact h, fun h => ⟨_, _, rfl, h⟩⟩
theorem prx3_at {f : D → D → D → Mem → VK → VXK → Prop} {a b c : D} {M : Mem} {Q : VK} {E' : VXK} : prx3 f [a, b, c] M Q E' ↔ f a b c M Q E' := ⟨fun ⟨_, _, _, e, h⟩ => by cases e; exact h, fun h => ⟨_, _, _, rfl, h⟩⟩
end
end VL
namespace VL
open PySem PySem.Spec L2
open NdefX (NF NScope ncx envF startF CellsAt inv_startN nscope_by)

structure SupD (P : Program) (K : PySem.W.Frag) (mg : Str → Option Value) (D fI cc : Addr) (F : NF) : Prop where
  cl : F.cl = [(("__class__" : Str), cc)]
  lk : ∃ oc od doc pm ctv osl, K.lookup fI = some ⟨oc, od, .func (F.fd doc pm ctv), osl⟩
  cd : PySem.W.codeIn K (.ref F.c) F.qual = true
  cell : ∃ o c sl, K.lookup cc = some ⟨o, c, .cell (some (.ref D)), sl⟩
  file : ∃ o c vs sl nm tf, K.lookup F.c = some ⟨o, c, .fields vs, sl⟩ ∧ vs[2]? = some (.str nm tf) ∧ ((P.main.file : Str) == nm) = true
  cls : (PySem.W.clsIn K D).isSome = true
  noth : PySem.W.nsIn K cStatics "thirdparty.any" = some none
  nosup : mg "super" = none
  top : (P.main.scope.names.lookup ("super" : Str)).isSome = false
structure SubC (K : PySem.W.Frag) (D C : Addr) : Prop where
  oex : OexC K C
  sub : PySem.W.mroIn K C (.ref D) = some true
  ini : PySem.W.ks_superIn K C D "__init__" = some (some (.builtin "ValueError.__init__"))
  ve : PySem.W.subIn K (.ref C) (.type "ValueError") = some true
  noV : PySem.W.findIn K (.ref C) "value" = some none
def spInit (K : PySem.W.Frag) (D : Addr) : Sp := fun vs H Q _ => ∃ (a C : Addr) (v : V), vs = [.ref a, v] ∧ SubC K D C ∧ H a = some (exo a C none) ∧ ∀ dx, H dx = none → dx ≠ a → Q .non (upd (upd H dx (exd dx [("value", v)])) a (exo a C (some dx)))
theorem init_ok {P : Program} {w : World} {K : PySem.W.Frag} {mg : Str → Option Value} {base : Heap} {D fI cc : Addr} {F : NF} {oc : Value} {od : Option Addr} {doc pm ctv : Value} {osl : Array (Option Value)} {p0 p1 p2 p3 p4 p5 p6 p7 p8 p9 : Pos}
    (T : SupD P K mg D fI cc F) (lk : K.lookup fI = some ⟨oc, od, .func (F.fd doc pm ctv), osl⟩) (S : NScope ["self", "value", "__class__"] ["self", "value"] ["__class__"] F.scope)
    (hb : F.body = [.Expr (.Call (.Attribute (.Call (.Name "super" p0) [] [] p1) "__init__" p2) [.Name "value" p3] [] p4) p5, .Assign [.Attribute (.Name "self" p6) "value" p7] (.Name "value" p8) p9])
    (hp : ∃ ar : Arg, (F.params.posonlyargs ++ F.params.args).head? = some ar ∧ ar.arg = "self") (hs : F.scope.names.lookup ("super" : Str) = some .globalImplicit)
    (pl : Addr → Sem Bool) (hev : ∀ L : Addr, eval (.Call (.Attribute (.Call (.Name "super" p0) [] [] p1) "__init__" p2) [.Name "value" p3] [] p4) (envF F fI L) = (do
      let ov ← attributeBase (.Call (.Name "super" p0) [] [] p1) "__init__" (envF F fI L) (eval (.Call (.Name "super" p0) [] [] p1) (envF F fI L))
      standAt p2.atName
      let (f, first) ← holding [ov] (getMethod ov "__init__" (pl L))
      callWith p4 f first (backTo p4 (starEach [.Name "value" p3] (envF F fI L))) []))
    (hin : ∀ L : Addr, interactive (envF F fI L) = false) (hsw : ∀ L : Addr, swapsWith (.Call (.Attribute (.Call (.Name "super" p0) [] [] p1) "__init__" p2) [.Name "value" p3] [] p4) none p5.line (envF F fI L) = pure false)
    (hsv : ∀ L : Addr, swapsWith (.Name "value" p8) (some (.Attribute (.Name "self" p6) "value" p7)) p9.line (envF F fI L) = pure false) (hloc : ∀ y ∈ (["self", "value"] : List Str), F.scope.names.lookup y = some .local) :
    FnOk P w K mg base CX0 1 fI (F.fd doc pm ctv) ["self", "value"] (spInit K D) := by
  refine ⟨fun vs H Q E ⟨a, C, v, e, _⟩ => by rw [e] <;> rfl, fun A outer s H args us vs Q E hr e0 hbind r hsp => ?_⟩
  obtain ⟨a, C, v, rfl, Cs, hH, hQ⟩ := hsp
  have KX : K.In s.heap := e0.mod.kin.keeps fun b o e => (e0.bs b o e).1
  have lim : s.heap.NoLimit := e0.mod.nolimit.keeps fun b o e => (e0.bs b o e).1
  obtain ⟨o, c, sl, hcell⟩ := T.cell
  obtain ⟨o2, c2, fvs, sl2, fl, tf, hcode, hfl, hfile⟩ := T.file
  obtain ⟨ar, har, hself⟩ := hp
  obtain ⟨cdD, hcD⟩ := Option.isSome_iff_exists.mp T.cls
  have kH : ∀ {b : Addr} {o : Obj}, K.lookup b = some o → H b = none := fun {b o} e => (e0.bs b o (e0.mod.kin b o e)).2
  have Ca : CellsAt F.cl ["__class__"] [some (V.ref D)] s.heap H := by
    rw [T.cl]
    have lo : ∀ {y : Str} {c' : Addr}, ([(("__class__" : Str), cc)] : List (Str × Addr)).lookup y = some c' → y = "__class__" ∧ c' = cc := fun {y c'} h => by
      by_cases z : y = "__class__"
      · subst z
        rw [List.lookup_cons] at h
        simp at h
        exact ⟨rfl, h.symm⟩
      · rw [List.lookup_cons, show (y == ("__class__" : Str)) = false from by simpa using z] at h
        cases h
    refine ⟨rfl, fun y c' h => ?_, fun x y c' h1 h2 => ?_, fun i y h => ?_⟩
    · rw [(lo h).2]
      exact ⟨kH hcell, _, _, KX _ _ hcell, rfl⟩
    · rw [(lo h1).1, (lo h2).1]
    · match i, h with
      | 0, h =>
        cases h
        exact ⟨cc, by rw [List.lookup_cons] <;> simp, fun v' hv => by cases hv; exact ⟨_, rfl, _, KX _ _ hcell, rfl⟩⟩
  cases r with
  | cons ra r =>
    cases r with
    | cons rv r =>
      cases r
      cases ra
      rename_i u
      refine PySem.ks_codeAny_call_defAt (fd := F.fd doc pm ctv) (body := F.body) hr.depth (KX _ _ lk) rfl lim (PySem.W.codeRec_of KX T.cd) rfl hbind S.nocell (fun x hx => ?_) (fun h₁ hns hk => ?_) S.co S.gen S.kind
      · exact hloc _ (List.of_mem_zip hx).1
      have r2 : Vals [V.ref a, v] [Value.ref a, u] := .cons rfl (.cons rv .nil)
      have I := inv_startN (CX := CX0) (F := F) (f := fI) (E := E) (tk := s.toks + 2) S hr.hd e0 (vs := [V.ref a, v]) (us := [Value.ref a, u]) rfl r2 Ca hns hk
      rw [hb]
      refine PySem.ks_wpAt_execs_cons (PySem.ks_wpAt_Expr_any (PySem.ks_wpAt_MethodCall (pl := pl s.heap.objs.size) ?_ (hev _)) (hin _) (hsw _))
      have KI : K.In h₁ := I.kIn
      have hsf : F.scope.names.lookup (("__class__" : Str)) = some .free := S.frk _ (by simp)
      refine PySem.ks_wpAt_super_base (env := envF F fI s.heap.objs.size) hs hsf (by decide) rfl (KI _ _ lk) rfl har rfl (KI _ _ hcode) rfl hfl hfile T.top ?_
      refine PySem.W.ks_loadName_global S.kind hs ?_
      obtain ⟨mb, hmb, hbb⟩ := e0.mod.blt
      refine PySem.Calls.loadGlobal_builtin (mg := mg) (mb := mb) (v := .type "super") (show h₁.Ns mainGlobals mg from I.mod.glob.keeps I.bk) T.nosup (show h₁.Ns builtinsNs mb from hmb.keeps I.bk) ((hbb _ (by decide +kernel)).trans (by decide +kernel)) ⟨rfl, ?_⟩
      refine PySem.wpAny_loadName_free (c := cc) S.kind hsf (by rw [show (envF F fI s.heap.objs.size).cells = F.cl from rfl, T.cl]; rfl) ⟨_, KI _ _ hcell, rfl⟩ ?_
      rw [hself]
      refine PySem.wpAny_loadName_local S.kind (hloc _ (by simp)) hns (v := .ref a) (by rfl) ?_
      obtain ⟨oD, hD1, hD2⟩ : ∃ oD, h₁.get? D = some oD ∧ oD.data = .cls cdD := by
        unfold PySem.W.clsIn at hcD
        split at hcD
        · rename_i c d cd' sl ho
          cases hcD
          exact ⟨_, KI _ _ ho, rfl⟩
        · cases hcD
      obtain ⟨t1, ho⟩ := exo_at I.hok hH
      obtain ⟨nm, q, N, bs, bm, sn, sub, ab, col, dd, k0, k1, k2, k3, k5, hC, hbm⟩ := Cs.oex.cls
      have hcl : PySem.W.clsIn K C = some { name := nm, bases := bs, mro := .ref C :: bm, ns := N, qualname := q, hasDict := true, slotNames := sn, subclasses := sub, abstract := ab, collection := col, hasDel := false } := by unfold PySem.W.clsIn; rw [hC] <;> rfl
      refine PySem.ks_wpAny_isType_cls hD1 hD2 ⟨rfl, ?_⟩
      refine PySem.ks_wpAny_call_super (C := C) hD1 hD2 ho rfl (fun c e => by cases e) (PySem.W.looks_mroIn KI Cs.sub) (fun h2 hso k2 => ?_)
      have J2 : Inv (ncx CX0 P w K mg base ["self", "value", "__class__"] F fI A outer s H E) [] (startF ["self", "value", "__class__"] [V.ref a, v] [some (V.ref D)]) H { heap := h2, gens := s.gens, drawn := s.drawn, toks := s.toks + 2, os := s.os } := I.kept (t' := s.toks + 2) k2
      have K2 : K.In h2 := J2.kIn
      have al : PySem.W.alongIn K "__init__" (((Value.ref C :: bm).dropWhile (· != .ref D)).drop 1) = some (some (.builtin "ValueError.__init__")) := by
        have e := Cs.ini
        unfold PySem.W.ks_superIn at e
        rw [hcl] at e
        exact e
      have ho2 := k2 _ _ ho
      have hxC : a ≠ C := fun z => by
        rw [z] at hH
        rw [kH hC] at hH
        cases hH
      have hI2 : PySem.W.Looks (model P w) h2 (isInstance (.ref a) (.type "ValueError")) true := (PySem.W.InstAt.type (od := none) (C := C) (ox := { cls := .ref C, dict := none, data := .fields #[.ref t1, .none, .none, .none, .bool false, .none] }) ⟨ho2, rfl, rfl, trivial⟩).andThen (PySem.W.looks_subIn K2 Cs.ve)
      refine PySem.W.kxs_getMethod PySem.W.kxs_ValueError (D := D) (x := a) (C := C) (l₀ := .ref C :: bm) hso (PySem.W.looks_opaque K2 T.noth) (fun A Q E s k q => PySem.wpAny_bind ((PySem.W.looks_clsIn K2 hcl) A _ E s k (PySem.wpAny_pure q))) rfl K2 al hI2 hxC (by decide) ?_
      have k3 : ∀ b o, h2.get? b = some o → (h2.push (PySem.W.kxs_mw "ValueError.__init__" a)).get? b = some o := fun b o e => Heap.get?_push_of_some _ e
      have J3 : Inv (ncx CX0 P w K mg base ["self", "value", "__class__"] F fI A outer s H E) [] (startF ["self", "value", "__class__"] [V.ref a, v] [some (V.ref D)]) H { heap := h2.push (PySem.W.kxs_mw "ValueError.__init__" a), gens := s.gens, drawn := s.drawn, toks := s.toks + 2 + 1, os := s.os } := J2.kept (t' := s.toks + 2 + 1) k3
      have hu : (h2.push (PySem.W.kxs_mw "ValueError.__init__" a)).get? h2.objs.size = some (PySem.W.kxs_mw "ValueError.__init__" a) := Heap.get?_push_size _ rfl
      have hns3 := (hns.keeps k2).keeps k3
      have ho3 := k3 _ _ ho2
      have hC3 := J3.kIn _ _ hC
      generalize hh3 : h2.push (PySem.W.kxs_mw "ValueError.__init__" a) = h3 at *
      refine PySem.W.kxs_callWith (i := "ValueError.__init__") (u := h2.objs.size) (x := a) (by rfl) (PySem.Calls.evalArgs_plain ?_)
      refine PySem.Calls.spliced_cons (PySem.wpAny_Name (PySem.wpAny_loadName_local S.kind (hloc _ (by simp)) hns3 (v := u) (by rfl) (PySem.Calls.spliced_nil ⟨hu, ?_⟩)))
      refine wpAny_call (codeAny_of_tree ?_)
      show wpAny (model P w) _ (callAny (.ref h2.objs.size) ⟨[u], []⟩) _ _ _
      unfold callAny
      refine wpAny_bind (wpAny_load hu ?_)
      dsimp only [PySem.W.kxs_mw]
      rw [if_pos (by decide)]
      refine wpAny_bind (PySem.W.check_bound_init PySem.F.excBase_ValueError.toExcCallFacts hC3 ho3 rfl ?_)
      refine wpAny_bind (wpAny_pure (wpAny_pure ⟨PySem.plainId_quiet PySem.F.excBase_ValueError.init.plain _, PySem.codeAny_builtin PySem.F.excBase_ValueError.initEntry (PySem.W.exc_init_tree ho3 (by rw [sizeLine_eq]; simp) fun h4 k4 ho4 _ => ?_)⟩))
      have hw := J3.write (t' := s.toks + 2 + 1) (x := a) (e := a) (o := exo a C none) (by rw [hH]; exact True.intro) (.inl rfl) k4 ⟨_, ho4⟩ (exo_ok ho4)
      have eu : upd H a (exo a C none) = H := by
        funext b
        by_cases hb : b = a
        · rw [hb, upd_same, hH]
        · rw [upd_ne hb]
      rw [eu] at hw
      refine wpAt_of_wpAny ?_
      have rule := pss_one (ps_ost (X := ncx CX0 P w K mg base ["self", "value", "__class__"] F fI A outer s H E) (p' := p7) (pos := p9) (pe_var (i := 0) (pos := p6) (x := "self") rfl (.inl (hloc _ (by simp)))) (pe_var (i := 1) (pos := p8) (x := "value") rfl (.inl (hloc _ (by simp)))) (hsv _))
      refine wpAny_mono (rule.run [] _ _ H { nx := fun _ H' => Q .non H', rt := Q } hw ⟨v, rfl, .ref a, rfl, a, C, rfl, Cs.oex, Cs.noV, .inl ⟨hH, hQ⟩⟩) (fun fl s6 done => ?_) fun _ _ z => z
      cases fl with
      | next =>
        obtain ⟨_, H6, J, q⟩ := done
        exact ⟨V.non, H6, J.os, J.bare, J.base, J.hok, rfl, q⟩
      | ret z =>
        obtain ⟨y, _, H6, J, rv, q⟩ := done
        exact ⟨y, H6, J.os, J.bare, J.base, J.hok, rv, q⟩
      | brk => exact done.elim fun _ z => z.elim fun _ z => z.2.elim
      | cont => exact done.elim fun _ z => z.elim fun _ z => z.2.elim
end VL
namespace VL
open PySem PySem.Spec L2

/-- x names an error class that keeps one value -/
structure XC (P : Program) (w : World) (K : PySem.W.Frag) (mg : Str → Option Value) (base : Heap) (x : Str) : Prop where
  ex : ∃ D fI fd, SubC K D (He.ga K x) ∧ mg x = some (.ref (He.ga K x)) ∧ PySem.W.findIn K (.ref (He.ga K x)) "__init__" = some (some (.ref fI)) ∧ PySem.W.typeIn K (.ref fI) = some (.type "function") ∧ Binds K fd ["self", "value"] [] ∧
    FnOk P w K mg base CX0 1 fI fd ["self", "value"] (spInit K D)
section
variable {X : Cx} {E : XK} {e : Expr} {te : VTE} {p pos pos' : Pos} {x : Str} {k : Nat}
@[simp] def xRaise (C : Addr) (te : VTE) : VTSX := fun _ E' e M => te e M fun d M1 => E' C d M1
theorem vsx_raise (T : XC X.prog X.w X.K X.mg X.base x) (hr : RmG k X.A) (hk : 2 ≤ k) (hc : X.calm = true) (tk : Takes X (fun cls d _ H => E cls d H)) (he : VE X e te) (hg : Gl X x := by rfl) (hdb : (x == ("__debug__" : Str)) = false := by decide)
    (h1 : starEach [e] X.env = (false, eval e X.env) :: starEach [] X.env := by rfl) (h2 : (backTo pos (starEach [] X.env)).any (·.1) = false := by rfl) : VSX X E (.Raise (some (.Call (.Name x p) [e] [] pos)) none pos') (xRaise (He.ga X.K x) te) := by
  obtain ⟨D, fI, fd, Cs, hm, iC, tI, hb, F1⟩ := T.ex
  have va : VA X [e] (vaCons te vaNil) := va_cons he va_nil (hs := h1)
  refine PS_imp (ps_raise hc tk (pmk_oex Cs.oex iC tI F1 (hr.r.mono hk) hb .nil pass0 hg hm va hdb h1 h2)) fun Dn σ H ⟨F, M, G, e, D', E', hs, hr, q, o, ox⟩ => ?_
  refine ⟨F, M, G, e, fun ds M1 => match ds with | [d] => E' (He.ga X.K x) d M1 | _ => False, hs, hr, q, fun vs H1 F1 M1 ds s1 r1 d1 q1 => ?_⟩
  match ds, q1 with
  | [d], q1 =>
    cases d1 with
    | cons dv dn =>
      cases dn
      rename_i v
      refine ⟨by simp, fun a ha => ⟨a, He.ga X.K x, v, rfl, Cs, upd_same, fun dx hdx hne => ⟨rfl, dx, [("value", v)], upd_same, ?_, ?_, ?_⟩⟩⟩
      · rw [upd_ne hne, upd_same]
      · rw [upd_ne hne] at hdx
        exact hdx
      · have hd1 : H1 dx = none := by rw [upd_ne hne] at hdx; exact hdx
        have eH : upd (del (upd (upd (upd H1 a (exo a (He.ga X.K x) none)) dx (exd dx [("value", v)])) a (exo a (He.ga X.K x) (some dx))) a) dx (.xd [("value", v)]) = upd H1 dx (.xd [("value", v)]) := by
          funext b
          by_cases hb : b = dx
          · rw [hb, upd_same, upd_same]
          · rw [upd_ne hb, upd_ne hb]
            by_cases hb2 : b = a
            · rw [hb2, del_same, ha]
            · rw [del_ne hb2, upd_ne hb2, upd_ne hb, upd_ne hb2]
        rw [eH]
        have sf := r1.sF (o := .xd [("value", v)]) hd1
        exact ox _ dx v d _ _ M1 (s1.trans sf) (r1.newF hd1) upd_same (dv.up sf) q1
end

theorem exF_ok {P : Program} {w : World} {H : Hp} {h : Heap} {a C dx : Addr} {oe : Obj} {fv : Array Value} (e : h.get? a = some oe) (h1 : oe.cls = .ref C) (h2 : oe.dict = some dx) (h3 : oe.data = .fields fv) : ObjOk P w H h a (exF a C dx) :=
  ⟨⟨oe, fv, e, h1, h2, h3⟩, ⟨oe, e⟩, fun _ _ z k => by
    obtain ⟨o1, f1, e1, e2, e3, e4⟩ := z
    exact ⟨o1, f1, k _ e1, e2, e3, e4⟩⟩
theorem exF_at {P : Program} {w : World} {H : Hp} {h : Heap} {a C dx : Addr} (hok : HOk P w H h) (e : H a = some (exF a C dx)) : ∃ (oe : Obj) (fv : Array Value), h.get? a = some oe ∧ oe.cls = .ref C ∧ oe.dict = some dx ∧ oe.data = .fields fv := by
  have z : ObjOk P w H h a (.ext fun h => ∃ (oe : Obj) (fv : Array Value), h.get? a = some oe ∧ oe.cls = .ref C ∧ oe.dict = some dx ∧ oe.data = .fields fv) := hok a _ e
  exact z.1
section
variable {X : Cx} {pins : List (Addr × Obj)} {σ : L2.St} {H : Hp} {s : Shared}
/-- an object that came up since the entry, and that nothing else speaks of -/
structure Late (X : Cx) (pins : List (Addr × Obj)) (a : Addr) : Prop where
  old : X.s_0.heap.get? a = none
  loc : a ≠ X.env.locals
  cel : ∀ x c, X.env.cells.lookup x = some c → c ≠ a
  pin : ∀ q ∈ X.pn ++ pins, q.1 ≠ a
theorem Late.known {a : Addr} {o : HO} (L : Late X pins a) (I : Inv X pins σ H s) (na : H a = none) (ok : ObjOk X.prog X.w (upd H a o) s.heap a o) : Inv X pins σ (upd H a o) s := by
  have ne : ∀ {b : Addr} {u : HO}, H b = some u → b ≠ a := fun e => ne_of_none e na
  refine ⟨I.ok, I.os, I.bare, ⟨I.base.keep, I.base.slot, fun b ob e n hx => ?_, I.base.there, fun b xs e => ?_, fun b ob u e => ?_, fun b ps e => ?_⟩, I.loc, I.cell, ?_, fun x c e => ?_, fun q hq => ?_, fun b u e => ?_, I.len⟩
  · have hb : b ≠ a := fun z => by rw [z, L.old] at e; cases e
    rw [upd_ne hb]
    exact I.base.free b ob e n hx
  · have z := I.base.tups b xs e
    rw [upd_ne (ne z)]
    exact z
  · have z := I.base.frzs b ob u e
    rw [upd_ne (ne z)]
    exact z
  · obtain ⟨more, z⟩ := I.base.tbls b ps e
    exact ⟨more, by rw [upd_ne (ne z)]; exact z⟩
  · rw [upd_ne (Ne.symm L.loc)]
    exact I.free
  · rw [upd_ne (L.cel x c e)]
    exact I.freeC x c e
  · obtain ⟨h1, h2, h3⟩ := I.pin q hq
    exact ⟨h1, by rw [upd_ne (L.pin q hq)]; exact h2, h3⟩
  · by_cases hb : b = a
    · subst hb
      rw [upd_same] at e
      cases e
      exact ok
    · rw [upd_ne hb] at e
      exact (I.hok b u e).stay (fun _ _ _ z => z) (fun c z => by rw [upd_ne (ne z)]; exact z) (fun c xs z => by rw [upd_ne (ne z)]; exact z)
end
/-- the clause takes every error of an own class; it goes on behind the suite, with what was caught -/
def wKeep (K : PySem.W.Frag) (c : Value) (i : Nat) (ts : Addr → Value → Option Addr → TS) (D : Ends) : WX := fun cls d σ H =>
  ∃ C dx, cls = .ref C ∧ d = some dx ∧ PySem.W.exmOne K cls c = some true ∧ ∀ a, H a = none → ts a cls d { nx := fun σ' H' => H' a = none → D.nx (σ'.set i none) (upd H' a (exF a C dx)), rt := fun v H' => H' a = none → D.rt v (upd H' a (exF a C dx)) } (σ.set i (some (.ref a))) H
section
variable {X : Cx} {x n : Str} {c : Value} {body suite : List Stmt} {b₀ : Stmt} {np pos pos' : Pos} {tb : WX → TS} {ts : Addr → Value → Option Addr → TS} {i : Nat}
theorem ps_try_keep (stk : X.stack = X.env :: X.outer) (own : X.env.frame = some X.env.locals) (noex : X.ex = []) (nodup : X.N.Nodup) (at_i : X.N[i]? = some n) (isl : X.env.kindOf n = some .local) (names : Names X x c)
    (walk : ∀ (W : WX) (pn : List (Addr × Obj)) (xe : Value → Shared → Prop), Takes (X.tr pn xe) W → PassesOwn (model X.prog X.w) X.A X.env xe → PSs (X.tr pn xe) body (tb W))
    (then_ : ∀ (a : Addr) (oe : Obj) (cls : Value) (d : Option Addr) (pn : List (Addr × Obj)), Zc cls d oe → (∃ vs, oe.data = .fields vs) → PSs (X.suite a ((a, oe) :: pn)) (b₀ :: suite) (ts a cls d)) :
    PS X (.Try body [.ExceptHandler (some (.Name x np)) (some n) (b₀ :: suite) pos'] [] [] pos) (fun D σ H => tb (wKeep X.K c i ts D) D σ H) := by
  refine ⟨fun pins s σ H D I0 told => ?_⟩
  have good := I0.ok
  have frm : X.A.frames = some (X.env :: X.outer) := by rw [good.frames, stk]
  refine wpAny_Try_except (wpAny_mono ((walk (wKeep X.K c i ts D) (X.pn ++ pins) (fun er t₁ => wpAny (model X.prog X.w) X.A (noteFrame er X.env) (fun _ t₂ => wpAny (model X.prog X.w) X.A (setFlight er none) (fun _ t₃ =>
    wpAny (model X.prog X.w) X.A (handleBy er X.env [.ExceptHandler (some (.Name x np)) (some n) (b₀ :: suite) pos']) (SP X pins D) X.xe t₃) X.xe t₂) X.xe t₁) (fun u s1 air => ?_) PassesOwn.looking).run [] s σ H D (I0.toTry _) told) (fun f s1 rest => ?_) fun _ _ z => z)
  · obtain ⟨a, B, sI, pins', σ1, H1, cls, d, rfl, J1, ground, up, sky, free, os, bare, C, dx, rfl, rfl, is_, go⟩ := air
    have J : Inv X pins σ1 H1 sI := J1.ofTry good
    show wpAny (model X.prog X.w) X.A (noteFrame (.ref a) X.env) _ _ _
    refine Sky.land Zc.steady frm own (by rw [← stk]; exact sky) fun h3 fly up3 => ?_
    have J3 : Inv X pins σ1 H1 { s1 with heap := h3 } := J.landed ground fly.1 (up.trans up3) os bare
    obtain ⟨o3, v3, e3, z3, d3⟩ := fly.there
    have noframe : a ∉ frs (X.env :: X.outer) := fun hm => by
      obtain ⟨_, o', e', no⟩ := fly.2.2.1.mem hm
      rw [e3] at e'
      cases e'
      exact no _ d3
    have aL : a ≠ X.env.locals := fun z => noframe (List.mem_filterMap.mpr ⟨X.env, List.mem_cons_self, by rw [own, z]⟩)
    have aF : a ∉ X.fs := fun hm => by
      obtain ⟨en, he, q⟩ := List.mem_filterMap.mp hm
      exact noframe (List.mem_filterMap.mpr ⟨en, List.mem_cons_of_mem _ he, q⟩)
    have unseen : ∀ {b : Addr} {ob : Obj}, sI.heap.get? b = some ob → b ≠ a := fun {b ob} e z => by
      subst z
      have q := ground _ _ e (by rw [stk]; exact noframe)
      rw [fly.2.1] at q
      cases q
    have late : Late X pins a := by
      refine ⟨?_, aL, fun y c' e => ?_, fun q hq => unseen (J.pin q hq).1⟩
      · cases z : X.s_0.heap.get? a with
        | none => rfl
        | some o0 =>
          obtain ⟨o', e'⟩ := J.base.there a o0 z (by rw [noex]; simp)
          exact absurd rfl (unseen e')
      · obtain ⟨v', o', e', _⟩ := J.cell y c' e
        exact unseen e'
    have S3 := J3.suite e3 d3 free aL aF
    refine wpAny_handleBy_cons (codeAny_handlers_test ?_) (by intro q; cases q)
    have look : PySem.W.Looks (model X.prog X.w) h3 (typeOf (.ref a)) (.ref C) := fun A Q E t kk q => wpAny_typeOf_ref (kk _ _ e3) (by rw [z3.1]; exact q)
    have match_ := PySem.W.exm_one (M := model X.prog X.w) J3.kIn look is_
    have ask : ∀ {Q : Value → Shared → Prop} {E : Value → Shared → Prop}, Q c { s1 with heap := h3 } → wpAny (model X.prog X.w) (X.A.mark (some (.ref a))) (eval (.Name x np) X.env) Q E { s1 with heap := h3 } := fun {Q E} q => by
      obtain ⟨g1, g2, g3 | ⟨g3, g4, g5⟩⟩ := names
      · exact ld_glob (X := X.suite a ((a, o3) :: (X.pn ++ pins))) S3 g1 g3 q g2
      · exact ld_blt (X := X.suite a ((a, o3) :: (X.pn ++ pins))) S3 g1 g3 g4 q g5 g2
    refine ask (match_.here (codeAny_handlers_suite_as (HandSPX.lands_againZ fly fun h4 fly4 up4 => ?_)))
    have J4 : Inv X pins σ1 H1 { s1 with heap := h4 } := J.landed ground fly4.1 ((up.trans up3).trans up4) os bare
    obtain ⟨o4, v4, e4, z4, d4⟩ := fly4.there
    have S4 := J4.suite e4 d4 free aL aF
    refine store_ok (X := X.suite a ((a, o4) :: (X.pn ++ pins))) (v := .ref a) S4 nodup at_i (.inl isl) rfl (fun s5 S5 => ?_) (.inr isl)
    refine wpAny_mono ((then_ a o4 (.ref C) (some dx) (X.pn ++ pins) z4 ⟨_, d4⟩).run [] s5 _ H1 _ S5 (go a free)) (fun f s6 hsp => ?_) (fun _ _ z => z.elim)
    have after : ∀ {σ6 : L2.St} {H6 : Hp} {R : Shared → Prop}, Inv (X.suite a ((a, o4) :: (X.pn ++ pins))) [] σ6 H6 s6 → (H6 a = none → ∀ s7, Inv X pins (σ6.set i none) (upd H6 a (exF a C dx)) s7 → R s7) →
        wpAny (model X.prog X.w) X.A (do bindName X.env n .none; unbindBehindTheSuite X.env n pos') (fun _ s7 => R s7) X.xe s6 := fun {σ6 H6 R} S6 hR => by
      obtain ⟨g1, g2, _⟩ := S6.pin (a, o4) (List.mem_append_left _ List.mem_cons_self)
      have K6 := late.known (o := exF a C dx) (S6.unsuite good) g2 (exF_ok g1 z4.1 z4.2 d4)
      exact gone_ok K6 nodup at_i isl (hR g2)
    cases f with
    | next =>
      obtain ⟨σ6, H6, S6, q6⟩ := hsp
      exact after S6 fun h0 s7 J7 => ⟨_, _, J7, q6 h0⟩
    | brk =>
      obtain ⟨σ6, H6, S6, q6⟩ := hsp
      exact q6.elim
    | cont =>
      obtain ⟨σ6, H6, S6, q6⟩ := hsp
      exact q6.elim
    | ret u =>
      obtain ⟨v6, σ6, H6, S6, r6, q6⟩ := hsp
      exact after S6 fun h0 s7 J7 => ⟨_, _, _, J7, r6, q6 h0⟩
  · cases f with
    | next =>
      obtain ⟨σ2, H2, J2, q⟩ := rest
      exact wpAny_execs_nil ⟨σ2, H2, J2.ofTry good, q⟩
    | brk =>
      obtain ⟨σ2, H2, J2, q⟩ := rest
      exact ⟨σ2, H2, J2.ofTry good, q⟩
    | cont =>
      obtain ⟨σ2, H2, J2, q⟩ := rest
      exact ⟨σ2, H2, J2.ofTry good, q⟩
    | ret u =>
      obtain ⟨v2, σ2, H2, J2, r2, q⟩ := rest
      exact ⟨v2, σ2, H2, J2.ofTry good, r2, q⟩
end
end VL
namespace VL
open PySem PySem.Spec L2

section
open PySem.W PySem.Calls PyProof.Rows
variable {prog : Program} {w : World} {A : Around} {E : Value → Shared → Prop} {s : Shared} {K : Frag} {x D : Addr} {ox : Obj} {od : Option Obj}
theorem find_data {C : Addr} {name : Str} {a g : Value} (hc : (clsIn K C).isSome = true) (ha : findIn K (.ref C) name = some (some a)) (hg : specialIn K a "__get__" = some (some g)) (ht : takesIn K a = some true) : findObj K C od name = some (.bind g a) := by
  obtain ⟨cd, hc'⟩ := Option.isSome_iff_exists.mp hc
  unfold findObj
  rw [hc', Option.bind_some, ha, Option.bind_some]
  simp [hg, ht]
theorem class_of_exc (Cx_ : ExcC K D) {Q : Option Value → Shared → Prop} (KX : K.In s.heap) (I : InstAt s.heap x ox D od) (q0 : Q (some (.ref D)) { s with toks := s.toks + 1 }) : wpAny (model prog w) A (getAttr? (.ref x) "__class__") Q E s := by
  have how : findObj K D od "__class__" = some (.bind (.builtin "getset_descriptor.__get__") (.builtin "object.__class__")) := find_data (by obtain ⟨cd, hc, _⟩ := any_some Cx_.hd; rw [hc]; rfl) Cx_.ha Cx_.hn Cx_.ht
  obtain ⟨hp, gs, dr, tk, os⟩ := s
  have ofT := I.type (M := model prog w)
  have ofG := looks_findIn (M := model prog w) KX Cx_.hg
  have ofA := looks_findIn (M := model prog w) KX Cx_.hk
  have ofF := looks_find (M := model prog w) KX I how
  have base : Looks (model prog w) hp (isInstance (.ref x) (.type "BaseException")) true := ofT.andThen (looks_subIn KX Cx_.hs)
  have no0 : (false && onTheHeap (Value.builtin "BaseException.__getattribute__")) = false := rfl
  have no1 : (onTheHeap (Value.ref D) && Value.builtin "BaseException.__getattribute__" == Value.builtin "object.__getattribute__") = false := by
    rw [show (Value.builtin "BaseException.__getattribute__" == Value.builtin "object.__getattribute__") = false by decide +kernel]
    rfl
  unfold getAttr? getAttrBy? getAttrBy
  refine wpAny_bind (wpAny_mkText (wpAny_bind (wpAny_attempt (wpAny_holding (wpAny_bind (ofT.at (wpAny_bind (ofG.at ?_))))))))
  show wpAny _ _ (if (onTheHeap (Value.ref D) && Value.builtin "BaseException.__getattribute__" == Value.builtin "object.__getattribute__") = true then _ else _) _ _ _
  rw [no1, if_neg Bool.false_ne_true]
  unfold getAttrByItsOwn hookBefore
  refine wpAny_bind ?_
  rw [if_pos (show onTheHeap (Value.ref D) = true from rfl)]
  refine ofA.at (wpAny_bind (wpAny_attempt (wpAny_holding ?_)))
  unfold callGetattribute
  rw [no0, if_neg Bool.false_ne_true]
  unfold boundAndCalled
  rw [PySem.F.excAttr_ValueError.ga.bind (.ref x)]
  refine wpAny_bind (wpAny_pure ?_)
  show wpAny _ _ (call (.builtin "BaseException.__getattribute__") [.ref x, .str "__class__" tk]) _ _ _
  refine wpAny_call (codeAny_call_builtin PySem.F.excAttr_ValueError.ga.plain PySem.F.entry_bexc_ga (@check_slot (model prog w) _ _ ⟨hp, gs, dr, tk + 1, os⟩ "BaseException.__getattribute__" "BaseException" "__getattribute__" (.ref x) [.str "__class__" tk] [] _ (by decide +kernel) (by decide +kernel) base (PySem.F.args_bexc_ga (.ref x) (.str "__class__" tk)) ?_))
  unfold Builtin.«object.__getattribute__»
  refine wpAny_bind (wpAny_of_eq (a := ((Value.ref x : Value), [Value.str "__class__" tk])) (by first | rfl | (simp only [slotArgs]; rfl)) ?_)
  refine wpAny_bind (wpAny_pure (wpAny_bind (ofT.at (wpAny_bind (ofF.at ?_)))))
  show wpAny _ _ (holding [Value.builtin "object.__class__"] (call (.builtin "getset_descriptor.__get__") [.builtin "object.__class__", .ref x, .ref D]) >>= ret) _ _ _
  refine wpAny_bind (wpAny_holding (wpAny_call (class_get (s := ⟨hp, gs, dr, tk + 1, os⟩) (ox := ox) (od := od) KX I Cx_.hm (wpAny_pure ?_))))
  show wpAny _ _ (handedOut (.ref D)) _ _ _
  rw [handedOut_of (v := .ref D) rfl]
  first
    | exact wpAny_pure (wpAny_pure q0)
    | exact wpAny_pure q0
    | exact wpAny_pure (wpAny_bind (wpAny_pure (wpAny_pure q0)))
theorem kitx_kept (Cx_ : ExcC K D) : KitX K (.ref x) (.ref D) (fun h => ∃ ox od, InstAt h x ox D (some od)) where
  ty := fun _ _ _ ⟨_, _, I⟩ => I.type
  it := fun _ _ KX _ => by
    obtain ⟨cd, hc, _⟩ := any_some Cx_.hd
    unfold clsIn at hc
    split at hc
    · rename_i z1 z2 z3 z4 lk
      intro A' Q' E' s' kk q
      unfold isType loadHead
      exact wpAny_bind (wpAny_loadPart (kk _ _ (KX _ _ lk)) (wpAny_pure q))
    · cases hc
  ne := fun h tp dd its n sl KX tup => by
    obtain ⟨cd, hc, _⟩ := any_some Cx_.hd
    refine Bool.eq_false_iff.mpr fun q => ?_
    obtain rfl : D = tp := Value.ref.inj (beq_iff_eq.mp q)
    unfold clsIn at hc
    split at hc
    · rename_i z1 z2 z3 z4 lk
      cases (KX _ _ lk).symm.trans tup
    · cases hc
  ca := fun KX ⟨_, _, I⟩ q => class_of_exc Cx_ KX I q
end
section
variable {X : Cx}
theorem kept_inst {pins : List (Addr × Obj)} {σ : L2.St} {H : Hp} {s : Shared} {a C dx : Addr} {v : V} (I : Inv X pins σ H s) (e : H a = some (exF a C dx)) (e2 : H dx = some (.xd [("value", v)])) : ∃ ox od, PySem.W.InstAt s.heap a ox C (some od) ∧ ∃ u, PySem.W.lookIn "value" od = some (some u) ∧ RelV v u := by
  obtain ⟨oe, fv, h1, h2, h3, h4⟩ := exF_at I.hok e
  have hx : ObjOk X.prog X.w H s.heap dx (.xd [("value", v)]) := I.hok dx _ e2
  obtain ⟨mA, ns, rel⟩ := hx
  obtain ⟨od, ho, hl⟩ := lookIn_ns ns
  obtain ⟨u, hu, ru⟩ := RelO.some_of (v := v) (o := mA "value") (rel "value")
  exact ⟨oe, od, ⟨h1, h2, by unfold PySem.W.notCls; rw [h4] <;> rfl, by rw [h3]; exact ho⟩, u, by rw [hl, hu], ru⟩
def rIsX (K : PySem.W.Frag) (T : Addr) : List V → Hp → L2.VK → Prop := fun xs H Q =>
  (∃ (a C dx : Addr) (v : V) (b : Bool), xs = [.ref a, .ref T] ∧ H a = some (exF a C dx) ∧ H dx = some (.xd [("value", v)]) ∧ ExcC K C ∧ PySem.W.kitOne K (.ref C) (.ref T) = some b ∧ Q (.bl b) H) ∨
  ∃ b, xs = [.non, .ref T] ∧ PySem.W.kitOne K (.type "NoneType") (.ref T) = some b ∧ Q (.bl b) H
theorem call_isX {T : Addr} : CallR X (.builtin "isinstance") (rIsX X.K T) := by
  intro pins s σ H xs us Q I r h
  rcases h with ⟨a, C, dx, v, b, rfl, e1, e2, hC, hb, q⟩ | ⟨b, rfl, hb, q⟩
  · cases r with
    | cons ra rr =>
      cases rr with
      | cons rt rr =>
        cases rr
        cases ra
        cases rt
        obtain ⟨ox, od, J, _⟩ := kept_inst I e1 e2
        exact PySem.W.kia_one (kitx_kept hC) I.kIn ⟨ox, od, J⟩ hb (fun z => nomatch z) fun tk => ⟨.bl b, H, I.kept (t' := tk) fun _ _ z => z, rfl, q⟩
  · exact call_isi pins s σ H _ us Q I r ⟨_, _, _, _, b, rfl, .own _, .base .non, hb, q⟩
variable {e : Expr} {te : VTE} {p1 p2 pos : Pos} {x : Str}
def vIsX (K : PySem.W.Frag) (T : Addr) (te : VTE) : VTE := fun e M Q => te e M fun d M1 => match d with
  | .exc C _ => ExcC K C ∧ ∃ b, PySem.W.kitOne K (.ref C) (.ref T) = some b ∧ Q (.bl b) M1
  | .non => ∃ b, PySem.W.kitOne K (.type "NoneType") (.ref T) = some b ∧ Q (.bl b) M1
  | _ => False
theorem v_isX {T : Addr} (hi : X.mg "isinstance" = none) (hm : X.mg x = some (.ref T)) (he : VE X e te) (hg : Gl X "isinstance" := by rfl) (hgx : Gl X x := by rfl) (hd : (x == ("__debug__" : Str)) = false := by decide)
    (h1 : starEach [e, .Name x p2] X.env = (false, eval e X.env) :: starEach [.Name x p2] X.env := by rfl) (h2 : (backTo pos (starEach [.Name x p2] X.env)).any (·.1) = false := by rfl) (h3 : starEach [.Name x p2] X.env = (false, eval (.Name x p2) X.env) :: starEach [] X.env := by rfl) :
    VE X (.Call (.Name "isinstance" p1) [e, .Name x p2] [] pos) (vIsX X.K T te) := by
  have args : PA X [e, .Name x p2] _ := pa_cons he (pa_cons (pe_glob hgx hm (v := .ref T) rfl hd) pa_nil h3) h1
  refine PE_imp (pe_callB (call_isX (T := T)) hg hi (by decide +kernel) args (by decide) (by decide) h1 h2) fun σ H Q ⟨F, M, G, e, Q', hs, hr, q, o⟩ => ?_
  refine ⟨F, M, G, e, _, hs, hr, q, fun v H1 F1 M1 d s1 r1 d1 q1 => ?_⟩
  show rIsX X.K T [v, .ref T] H1 Q
  match d, q1 with
  | .exc C y, q1 =>
    cases d1 with
    | exc z1 z2 z3 =>
      obtain ⟨hC, b, hb, q1⟩ := q1
      exact .inl ⟨_, _, _, _, b, rfl, r1.sub _ _ z1, r1.sub _ _ z2, hC, hb, o _ H1 F1 M1 _ s1 r1 (.bl b) q1⟩
  | .non, q1 =>
    cases d1
    obtain ⟨b, hb, q1⟩ := q1
    exact .inr ⟨b, rfl, hb, o _ H1 F1 M1 _ s1 r1 (.bl b) q1⟩
def vVal (K : PySem.W.Frag) (te : VTE) : VTE := fun e M Q => te e M fun d M1 => ∃ C y, d = .exc C y ∧ XfC K C ∧ PySem.W.findIn K (.ref C) "value" = some none ∧ Q y M1
theorem v_val (he : VE X e te) (hb : attributeBase e "value" X.env (eval e X.env) = eval e X.env := by rfl) : VE X (.Attribute e "value" pos) (vVal X.K te) := by
  refine ⟨fun pins s σ H Q I ⟨F, M, G, e', Q', hs, hr, q, o⟩ => ?_⟩
  refine attr_of hb (thn (he.run pins s σ H (fun v H1 => ∃ F1 M1 d, Same F F1 ∧ Rel X.K F1 M1 G H1 ∧ DR X.K F1 v d ∧ ∃ C y, d = .exc C y ∧ XfC X.K C ∧ PySem.W.findIn X.K (.ref C) "value" = some none ∧ Q' y M1) I ⟨F, M, G, e', _, hs, hr, q, fun v H1 F1 M1 d s1 r1 d1 q1 => ⟨F1, M1, d, s1, r1, d1, q1⟩⟩) fun u s1 hh => ?_)
  obtain ⟨v, H1, I1, rv, F1, M1, d, s1', r1, d1, C, y, rfl, T, no, q1⟩ := hh
  cases d1 with
  | exc z1 z2 z3 =>
    cases rv
    obtain ⟨ox, od, J, u, hu, ru⟩ := kept_inst I1 (r1.sub _ _ z1) (r1.sub _ _ z2)
    exact HandSPX.exc_get I1.kIn J T.ga T.gg T.exC (PySem.W.findObj_own T.hdC no rfl hu) (handed_of ru) ⟨_, H1, I1.tok _, ru, o _ H1 F1 M1 y s1' r1 z3 q1⟩
end
end VL
namespace VL
open PySem PySem.Spec L2
open PyProof.Rows (envOfC)
open LamX (TabB CodeO LamS lamEnv lamCx inv_table among_app lam_start2 run_ofS)

section
variable {X : Cx} {pins : List (Addr × Obj)} {σ : L2.St} {F G H : Hp} {M : Mem} {s : Shared}
/-- the lambda is made: its code object is new, or stands in the table -/
theorem lam_makeV {c P : Addr} {params : Arguments} {body : Expr} {scope : Scope} {pos : Pos} {E : Value → Shared → Prop} {Q : Value → Shared → Prop} (I : Inv X pins σ H s) (r : Rel X.K F M G H) (T : TabB X.base X.mg c P) (code : X.env.code = .ref c)
    (tab : M P = some (.tb (X.env.qual ++ "<lambda>"))) (nodef : defaultsOf params X.env = ([], [])) (seen : ∀ y ∈ scope.names, y.2 = .free → ∃ c, X.env.cells.lookup y.1 = some c)
    (go : ∀ (f c' : Addr) (pm ctv : Value) (F1 H1 : Hp) (s' : Shared), Same F F1 → Rel X.K F1 M G H1 → Inv X pins σ H1 s' → F1 c' = some (CodeO c' (X.env.qual ++ "<lambda>")) →
      s'.heap.get? f = some (PySem.W.kla_obj "<lambda>" (X.env.qual ++ "<lambda>") params body scope (cloFrom X.env.cells scope.names []) pm c' ctv) → H1 f = none → f ∉ frs X.stack → Q (.ref f) s') :
    wpAny (model X.prog X.w) X.A (eval (.Lambda params body scope pos) X.env) Q E s := by
  obtain ⟨_, _, ho, atP, ps, rfl, tri, amg⟩ := r.ob P _ tab
  refine PySem.W.kla_eval nodef ?_
  have bP : s.heap.BuiltinsAt X.mg P := T.bm.keeps I.bk
  have objP : s.heap.get? P = some { cls := .none, data := .fields ps } := I.hok P _ atP
  have noframe : ∀ f, s.heap.objs.size ≤ f → f ∉ frs X.stack := fun f hf z => by
    rcases List.mem_cons.mp (I.stkSub _ z) with e | e
    · have lt := I.lt
      rw [← e] at lt
      exact absurd (Nat.lt_of_lt_of_le lt hf) (Nat.lt_irrefl _)
    · exact I.nofs hf e
  cases hc : codeAmong pos ps.toList with
  | none =>
    refine PySem.W.kla_makeFunction (mg := X.mg) (c := c) (P := P) (ps := ps) (closure_ok seen) I.ok.glob (I.mod.glob.keeps I.bk) code (T.code.keeps I.bk) objP tri hc T.gP bP fun c' ctv h' tk ext above below rec_ tabAt => ?_
    obtain ⟨c2, oc, vs, t, e2, hoc, hd, hv⟩ := rec_
    cases e2
    have size_le : s.heap.objs.size ≤ h'.objs.size := Nat.le_trans above (Nat.le_of_lt below)
    have newC : H c' = none := I.hok.fresh above
    have PneC : P ≠ c' := ne_of_none atP newC
    have I1 := inv_table (t' := tk) (more := #[rawInt pos.line, rawInt pos.col, .ref c']) (h' := h'.push (PySem.W.kla_obj "<lambda>" (X.env.qual ++ "<lambda>") params body scope (cloFrom X.env.cells scope.names []) ((X.mg "__name__").getD .none) c' ctv)) I atP
      (fun b o hb e => Heap.get?_push_of_some _ (ext b o hb e)) (Heap.get?_push_of_some _ tabAt) above ⟨oc, vs, t, Heap.get?_push_of_some _ hoc, hd, hv⟩
    have list_eq : (ps ++ #[rawInt pos.line, rawInt pos.col, .ref c']).toList = ps.toList ++ [rawInt pos.line, rawInt pos.col, .ref c'] := by simp
    have r1 := r.newF (o := CodeO c' (X.env.qual ++ "<lambda>")) newC
    have sF := r.sF (o := CodeO c' (X.env.qual ++ "<lambda>")) newC
    have r2 := r1.wr (p := P) tab (m := .tb (X.env.qual ++ "<lambda>")) (o := .tbl (ps ++ #[rawInt pos.line, rawInt pos.col, .ref c'])) ⟨_, rfl, by rw [list_eq]; exact PySem.TriplesOk_snoc _ _ _ _ tri, fun p' cv hcv => by
      rw [list_eq] at hcv
      rcases among_app _ tri hcv with z | z
      · obtain ⟨c0, e1, e2⟩ := amg p' cv z
        exact ⟨c0, e1, sF _ _ e2⟩
      · exact ⟨c', z, upd_same⟩⟩
    rw [mupd_self tab] at r2
    have comm : upd (upd H c' (CodeO c' (X.env.qual ++ "<lambda>"))) P (.tbl (ps ++ #[rawInt pos.line, rawInt pos.col, .ref c'])) = upd (upd H P (.tbl (ps ++ #[rawInt pos.line, rawInt pos.col, .ref c']))) c' (CodeO c' (X.env.qual ++ "<lambda>")) := by
      funext b
      by_cases h1 : b = P
      · rw [h1, upd_same, upd_ne PneC, upd_same]
      · by_cases h2 : b = c'
        · rw [h2, upd_ne (Ne.symm PneC), upd_same, upd_same]
        · rw [upd_ne h1, upd_ne h2, upd_ne h2, upd_ne h1]
    rw [comm] at r2
    refine go h'.objs.size c' ((X.mg "__name__").getD .none) ctv _ _ _ sF r2 I1 upd_same (Heap.get?_push_size _ rfl) ?_ (noframe _ size_le)
    rw [upd_ne (Nat.ne_of_gt below), upd_ne (Nat.ne_of_gt (Nat.lt_of_lt_of_le (Heap.lt_size objP) size_le))]
    exact I.hok.fresh size_le
  | some cv =>
    obtain ⟨c', rfl, inF⟩ := amg pos cv hc
    refine PySem.W.kla_makeFunctionHit (mg := X.mg) (c := c) (P := P) (ps := ps) (closure_ok seen) I.ok.glob (I.mod.glob.keeps I.bk) code (T.code.keeps I.bk) objP tri hc bP fun ctv h' tk ext size_le => ?_
    have I1 : Inv X pins σ H { s with heap := h'.push (PySem.W.kla_obj "<lambda>" (X.env.qual ++ "<lambda>") params body scope (cloFrom X.env.cells scope.names []) ((X.mg "__name__").getD .none) c' ctv), toks := tk } := I.kept fun b o e => Heap.get?_push_of_some _ (ext b o e)
    exact go h'.objs.size c' ((X.mg "__name__").getD .none) ctv F H _ (Same.refl F) r I1 inF (Heap.get?_push_size _ rfl) (I.hok.fresh size_le) (noframe _ size_le)
/-- look(), in the def that got the lambda: Z is that def's context, entered at s -/
theorem pe_look {CXg : CXT} {Eg : XK} {Ng : List Str} {qg : Str} {sg : Scope} {g f c' : Addr} {cdg pm ctv : Value} {params : Arguments} {body : Expr} {scope : Scope} {k i : Nat} {a : Str} {pn : List (Addr × Obj)} {xe : Value → Shared → Prop} {W : WX} {tb : XK → TE} {p1 p2 : Pos}
    (I : Inv X pins σ H s) (L : LamS X.env.scope scope) (atf : s.heap.get? f = some (PySem.W.kla_obj "<lambda>" (X.env.qual ++ "<lambda>") params body scope (cloFrom X.env.cells scope.names []) pm c' ctv)) (nof : H f = none) (nofr : f ∉ frs X.stack)
    (binds : bindArgs (PySem.W.kla_fn "<lambda>" (X.env.qual ++ "<lambda>") params body scope (cloFrom X.env.cells scope.names []) pm (.ref c') ctv) ⟨[], []⟩ = pure [])
    (tk : Takes ((cxOf CXg X.prog X.w X.K X.mg X.base Ng qg sg g cdg X.A X.stack s H Eg).tr pn xe) W) (room : RmG (k + 1) (X.A.deeper (envOfC qg sg s.heap.objs.size g cdg)))
    (run : ∀ (A : Around) (outer : List Env) (s : Shared) (H : Hp) (E : XK), RmG k (A.deeper (lamEnv X scope s.heap.objs.size f c')) → PE (lamCx X A outer s H E scope f c') body (tb E))
    (hN : Ng[i]? = some a) (hv : Vis sg a) (hd : (a == ("__debug__" : Str)) = false := by decide) (hcd : (a == ("__classdict__" : Str)) = false := by decide) :
    PE ((cxOf CXg X.prog X.w X.K X.mg X.base Ng qg sg g cdg X.A X.stack s H Eg).tr pn xe) (.Call (.Name a p1) [] [] p2)
      (fun σZ HZ Q => σZ[i]? = some (some (.ref f)) ∧ HZ c' = some (CodeO c' (X.env.qual ++ "<lambda>")) ∧ tb (WE W σZ) σ HZ Q) := by
  refine ⟨fun pinsZ sZ σZ HZ Q IZ ⟨at_i, codeZ, told⟩ => ?_⟩
  refine wpAny_Call_Name_kw (thn ((pe_var (pos := p1) (i := i) hN hv hd hcd).run pinsZ sZ σZ HZ (fun v H1 => v = .ref f ∧ H1 = HZ) IZ ⟨.ref f, at_i, rfl, rfl⟩) fun u s1 ⟨v, H1, I1, r1, ev, eH⟩ => ?_)
  subst ev
  rw [eH] at I1
  obtain rfl : u = Value.ref f := r1
  have atf1 : s1.heap.get? f = some (PySem.W.kla_obj "<lambda>" (X.env.qual ++ "<lambda>") params body scope (cloFrom X.env.cells scope.names []) pm c' ctv) := I1.base.keep f _ atf nof nofr (fun z => nomatch (show f ∈ ([] : List Addr) from z))
  have grew : Un (frs X.stack) [] H HZ s.heap s1.heap := I1.base
  obtain ⟨⟨oc, vs, t, hoc, hdc, hvc⟩, _, _⟩ := I1.hok c' _ codeZ
  refine PySem.W.callWith_F0 ⟨_, _, _, _, atf1⟩ (wpAny_call (codeAny_mono (R := CR (L2.CX X.prog X.w) (envOfC qg sg s.heap.objs.size g cdg :: X.stack) X.prog X.w HZ s1 Q (WE W σZ)) ?_ fun res s' done => ?_))
  · refine PySem.W.kla_callFunE room.r.depth atf1 rfl L.co L.gen rfl ⟨c', oc, vs, t, rfl, hoc, hdc, hvc⟩ ?_
    change wpAny _ _ (bindArgs _ ⟨[], []⟩) _ _ _
    rw [binds]
    refine wpAny_pure (wpAny_newFunctionEnv (fun y hy => (L.own y hy).2) (fun y hy => absurd hy (by simp)) (fun h₁ hns same => ⟨I1.nolimit.fresh _ same, ?_⟩) L.kind)
    show codeAny _ _ (.expr body (lamEnv X scope s1.heap.objs.size f c')) _ _
    have J := lam_start2 (f := f) (c' := c') (scope := scope) (E := WE W σZ) (tk := s1.toks + ([] : List (Str × Value)).length) I L I1.env0 room.r.hd grew hns (fun b o e => same.extBut b o (Nat.ne_of_lt (Heap.lt_size e)) (Heap.get?_push_of_some _ e))
    refine PySem.W.kla_codeExpr (wpAny_mono ((run _ _ s1 HZ (WE W σZ) ⟨room.r.deeper _, room.g⟩).run [] _ _ HZ Q J told) (fun v s' done => ?_) fun _ _ z => z)
    obtain ⟨y, H', J', rv, q⟩ := done
    exact ⟨y, H', J'.os, J'.bare, J'.base, J'.hok, rv, q⟩
  · cases res with
    | error e => exact passAt tk σZ pinsZ HZ s1 e s' I1 done
    | ok fl =>
      cases fl with
      | ret u => exact I1.after done
      | next => exact False.elim done
      | brk => exact False.elim done
      | cont => exact False.elim done
end
end VL
namespace VL
open PySem PySem.Spec L2
open PyProof.Rows (envOfC)
open LamX (TabB CodeO LamS lamEnv lamCx run_ofS)

def vCaught (K : PySem.W.Frag) (P : Addr) (q : Str) (CS : Addr) (t : VTEX) : VTE := fun e M Q => M P = some (.tb q) ∧ t e M (fun d M' => Q (.tup [.non, d]) M') (fun C d M' => PySem.W.exmOne K (.ref C) (.ref CS) = some true ∧ Q (.tup [.exc C d, .non]) M')
section
variable {X : Cx} {x a y z n xe : Str} {st : Stmt} {c P CS : Addr} {k : Nat} {params : Arguments} {body : Expr} {scope : Scope} {t : VTEX} {p lpos pos : Pos} {k1 k2 k3 j1 j2 : Nat} {p1 p2 p3 p4 p5 p6 p7 q1 q2 q3 q4 q5 q6 q7 q8 q9 r1 r2 r3 r4 r5 : Pos}
theorem v_caught (hD : Df X.K X.mg x st) (Sg : FnScope [a, y, z, n] [a] (defScope st))
    (bind : ∀ (kV doc pm : Value) (an : Option Addr) (cdv ct : Value) (us : List Value), us.length = [a].length → bindArgs (PySem.W.fnOf x x (defArgs st) (defBody st) (defScope st) .none kV doc pm an cdv ct) ⟨us, []⟩ = pure ([a].zip us))
    (text : defBody st = [.Assign [.Tuple [.Name y p1, .Name z p2] k1 p3] (.Tuple [.Constant .none j1 p4, .Constant .none j2 p5] k2 p6) p7,
      .Try [.Assign [.Name z q1] (.Call (.Name a q2) [] [] q3) q4] [.ExceptHandler (some (.Name xe q5)) (some n) [.Assign [.Name y q6] (.Name n q7) q8] q9] [] [] r1, .Return (some (.Tuple [.Name y r2, .Name z r3] k3 r4)) r5])
    (la : (defScope st).names.lookup a = some .local) (ly : (defScope st).names.lookup y = some .local) (lz : (defScope st).names.lookup z = some .local) (ln : (defScope st).names.lookup n = some .local) (lx : (defScope st).names.lookup xe = some .globalImplicit)
    (s1 : ∀ (L g : Addr) (cdv : Value), swappedStores [.Tuple [.Name y p1, .Name z p2] k1 p3] (.Tuple [.Constant .none j1 p4, .Constant .none j2 p5] k2 p6) (envOfC x (defScope st) L g cdv) = pure none)
    (s2 : ∀ (L g : Addr) (cdv : Value), swapsWithSole [.Tuple [.Name y p1, .Name z p2] k1 p3] (.Tuple [.Constant .none j1 p4, .Constant .none j2 p5] k2 p6) p7.line (envOfC x (defScope st) L g cdv) = pure false)
    (s3 : ∀ (L g : Addr) (cdv : Value), swapsWith (.Call (.Name a q2) [] [] q3) (some (.Name z q1)) q4.line (envOfC x (defScope st) L g cdv) = pure false)
    (s4 : ∀ (L g : Addr) (cdv : Value), swapsWith (.Name n q7) (some (.Name y q6)) q8.line (envOfC x (defScope st) L g cdv) = pure false)
    (err : X.mg xe = some (.ref CS)) (TB : TabB X.base X.mg c P) (code : X.env.code = .ref c) (room : RmG (k + 2) X.A) (L : LamS X.env.scope scope) (nodef : defaultsOf params X.env = ([], []))
    (noarg : ∀ (q : Str) (cl : List (Str × Addr)) (pm cv ctv : Value), bindArgs (PySem.W.kla_fn "<lambda>" q params body scope cl pm cv ctv) ⟨[], []⟩ = pure [])
    (run : ∀ (A : Around) (outer : List Env) (s : Shared) (H : Hp) (E : XK) (f c' : Addr), RmG k (A.deeper (lamEnv X scope s.heap.objs.size f c')) → VEX (lamCx X A outer s H E scope f c') E body t)
    (hg : Gl X x := by rfl) (hdb : (x == ("__debug__" : Str)) = false := by decide) (da : (a == ("__debug__" : Str)) = false := by decide) (da2 : (a == ("__classdict__" : Str)) = false := by decide) (dx : (xe == ("__debug__" : Str)) = false := by decide)
    (dn : (n == ("__debug__" : Str)) = false := by decide) (dn2 : (n == ("__classdict__" : Str)) = false := by decide) (dy : (y == ("__debug__" : Str)) = false := by decide) (dy2 : (y == ("__classdict__" : Str)) = false := by decide) (dz : (z == ("__debug__" : Str)) = false := by decide) (dz2 : (z == ("__classdict__" : Str)) = false := by decide) :
    VE X (.Call (.Name x p) [.Lambda params body scope lpos] [] pos) (vCaught X.K P (X.env.qual ++ "<lambda>") CS t) := by
  refine ⟨fun pins s σ H Q I ⟨F, M, G, e, Q', hs, hr, ⟨tab, told⟩, o⟩ => ?_⟩
  obtain ⟨g, fd, hm, Fd⟩ := hD.ex
  obtain ⟨oc, od, dV, kV, doc, pm, an, cdv, ct, osl, hfd, lk, hcd, _, _⟩ := id Fd.ex
  have bN := Fd.bindsN bind
  subst hfd
  refine wpAny_Call_Name_kw (ld_glob I hg hm ?_ hdb)
  refine PySem.W.callWith_K (h₀ := X.base) I.ok.mod.kin Fd.kp ?_ (by rfl) (by rfl)
  refine PySem.Calls.spliced_cons (lam_makeV I hr TB code tab nodef (L.has I.ok) fun f c' pm' ctv F1 H1 s' sF r1' I1 inF atf nof nofr => PySem.Calls.spliced_nil ⟨I1.kIn, ?_⟩)
  refine wpAny_call (codeAny_mono (R := CR CX0 X.stack X.prog X.w H1 s' Q E0) (run_ofS (N := [a, y, z, n]) (ps := [a]) (us := [.ref f]) (vs := [.ref f]) lk hcd Sg room.r I1.env0 (bN s' [.ref f] I1.kIn rfl) (.cons rfl .nil) rfl fun _ => ?_) fun res s2 done => ?_)
  · rw [text]
    have vn : Vis (defScope st) n := .inl ln
    have step1 : PS (cxOf CX0 X.prog X.w X.K X.mg X.base [a, y, z, n] x (defScope st) g cdv X.A X.stack s' H1 E0) (.Assign [.Tuple [.Name y p1, .Name z p2] k1 p3] (.Tuple [.Constant .none j1 p4, .Constant .none j2 p5] k2 p6) p7) _ :=
      ps_asg (pe_tup (pa_cons pe_non (pa_cons pe_non pa_nil))) (pg_tup rfl (pgs_cons (pg_name (i := 1) Sg.nd rfl (.inl ly) (.inr ly)) (pgs_cons (pg_name (i := 2) Sg.nd rfl (.inl lz) (.inr lz)) pgs_nil))) (s2 _ _ _) (s1 _ _ _)
    have step2 : PS (cxOf CX0 X.prog X.w X.K X.mg X.base [a, y, z, n] x (defScope st) g cdv X.A X.stack s' H1 E0) (.Try [.Assign [.Name z q1] (.Call (.Name a q2) [] [] q3) q4] [.ExceptHandler (some (.Name xe q5)) (some n) [.Assign [.Name y q6] (.Name n q7) q8] q9] [] [] r1) _ :=
      ps_try_keep (i := 3) rfl rfl rfl Sg.nd rfl ln ⟨lx, dx, .inl err⟩ (fun W pn xe' tk _ => pss_one (ps_set (i := 2) Sg.nd rfl (.inl lz) (pe_look (i := 0) (tb := fun E => lEX X.K E t) I1 L atf nof nofr (noarg _ _ _ _ _) tk ⟨room.r.deeper _, room.g⟩ (fun A outer s H E hr => run A outer s H E f c' hr) rfl (.inl la) da da2) (s3 _ _ _) (.inr lz)))
        (fun a' oe cls d pn _ _ => pss_one (ps_set (i := 1) Sg.nd rfl (.inl ly) (pe_var (i := 3) rfl (.inl ln) dn dn2) (s4 _ _ _) (.inr ly)))
    have step3 : PS (cxOf CX0 X.prog X.w X.K X.mg X.base [a, y, z, n] x (defScope st) g cdv X.A X.stack s' H1 E0) (.Return (some (.Tuple [.Name y r2, .Name z r3] k3 r4)) r5) _ :=
      ps_ret (pe_tup (pa_cons (pe_var (i := 1) rfl (.inl ly) dy dy2) (pa_cons (pe_var (i := 2) rfl (.inl lz) dz dz2) pa_nil)))
    refine ⟨_, pss_cons step1 (pss_cons step2 (pss_one step3)), ?_⟩
    refine ⟨by simp [sizeLine_eq], fun p0 hp0 => ?_⟩
    have s0 := r1'.sF (o := .tup [.non, .non]) hp0
    have r1z := r1'.newF (o := .tup [.non, .non]) hp0
    refine ⟨p0, _, rfl, SqT.of upd_same, rfl, _, _, rfl, _, _, rfl, rfl, ?_⟩
    refine ⟨rfl, r1z.sub _ _ (s0 _ _ inF), _, M, G, e, _, _, hs.up (sF.trans s0), r1z, told, fun v H2 F2 M2 d sF2 r2 dv q2 => ?_, fun C dx v d H2 F2 M2 sF2 r2 hx dv q2 => ?_⟩
    · refine ⟨.non, rfl, v, rfl, by simp [sizeLine_eq], fun p' hp => ?_⟩
      have sp := r2.sF (o := .tup [.non, v]) hp
      exact o _ _ _ M2 _ (((sF.trans s0).trans sF2).trans sp) (r2.newF hp) (.tup (SqT.of upd_same) (.cons .non (.cons (dv.up sp) .nil))) q2
    · refine ⟨C, dx, rfl, rfl, q2.1, fun a' ha => ⟨.ref a', rfl, fun ha2 => ⟨.ref a', rfl, .non, rfl, by simp [sizeLine_eq], fun p' hp => ?_⟩⟩⟩
      have sa := r2.sF (o := exF a' C dx) ha
      have r3' := r2.newF (o := exF a' C dx) ha
      have sp := r3'.sF (o := .tup [.ref a', .non]) hp
      exact o _ _ _ M2 _ ((((sF.trans s0).trans sF2).trans sa).trans sp) (r3'.newF hp) (.tup (SqT.of upd_same) (.cons (.exc (sp _ _ upd_same) (sp _ _ (sa _ _ hx)) ((dv.up sa).up sp)) (.cons .non .nil))) q2.2
  · cases res with
    | error e => exact (show False from done).elim
    | ok fl =>
      cases fl with
      | ret u => exact I1.after done
      | next => exact False.elim done
      | brk => exact False.elim done
      | cont => exact False.elim done
end
end VL
namespace VL
open PySem PySem.Spec L2
open PyProof.Rows (envOfC)
open NdefX (NF NScope)
open LamX (TabB)

def oexB (K : PySem.W.Frag) (C : Addr) : Bool := match K.lookup C with
  | some ⟨.type c, _, .cls cd, sl⟩ => (match cd.mro, sl.toList with
    | .ref C' :: bm, [_, _, _, _, some (.builtin n), _] => decide (c = "type") && (decide (C' = C) && (decide (n = "ValueError.__new__") && (!cd.hasDel && (cd.hasDict && PySem.HandSPX.refsVE bm))))
    | _, _ => false)
  | _ => false
theorem oexB_ok {K : PySem.W.Frag} {C : Addr} (h : oexB K C = true) : ∃ nm q N bs bm sn sub ab col dd k0 k1 k2 k3 k5, K.lookup C = some (excClassObj nm q C N bs bm true sn sub ab col dd k0 k1 k2 k3 k5 "ValueError.__new__") ∧ PySem.HandSPX.refsVE bm = true := by
  unfold oexB at h
  split at h
  · rename_i c dd cd sl lk
    split at h
    · rename_i C' bm k0 k1 k2 k3 n k5 hm hs
      obtain ⟨h1, h⟩ := He.ba h
      obtain ⟨h2, h⟩ := He.ba h
      obtain ⟨h3, h⟩ := He.ba h
      obtain ⟨h4, h⟩ := He.ba h
      obtain ⟨h5, h6⟩ := He.ba h
      have e1 : c = "type" := of_decide_eq_true h1
      have e2 : C' = C := of_decide_eq_true h2
      have e3 : n = "ValueError.__new__" := of_decide_eq_true h3
      obtain ⟨nm, bs, mro, ns, qn, hd, sn, sub, ab, col, del⟩ := cd
      dsimp only at hm h4 h5
      have e4 : del = false := by simpa using h4
      obtain ⟨sl⟩ := sl
      subst e1 e2 e3 e4 h5 hm
      have hs' : sl = [k0, k1, k2, k3, some (.builtin "ValueError.__new__"), k5] := hs
      subst hs'
      exact ⟨nm, qn, ns, bs, bm, sn, sub, ab, col, dd, k0, k1, k2, k3, k5, lk, h6⟩
    · cases h
  · cases h
def subB (K : PySem.W.Frag) (D fI C : Addr) : Bool :=
  oexB K C && (decide (PySem.W.findIn K (.ref C) "__setattr__" = some (some (.builtin "object.__setattr__"))) && (decide (PySem.W.subIn K (.ref C) (.type "BaseException") = some true) && (decide (PySem.W.typeIn K (.ref C) = some (.type "type")) && (PySem.W.keepIn K (.ref C) &&
  (decide (PySem.W.mroIn K C (.ref D) = some true) && (decide (PySem.W.ks_superIn K C D "__init__" = some (some (.builtin "ValueError.__init__"))) && (decide (PySem.W.subIn K (.ref C) (.type "ValueError") = some true) && (decide (PySem.W.findIn K (.ref C) "value" = some none) &&
  (decide (PySem.W.findIn K (.ref C) "__init__" = some (some (.ref fI))) && (xfB K C && (decide (PySem.W.findIn K (.ref C) "__class__" = some (some (.builtin "object.__class__"))) && (decide (PySem.W.mroIn K C (.type "object") = some true) && decide (PySem.W.exmOne K (.ref C) (.ref D) = some true)))))))))))))
structure SubF (K : PySem.W.Frag) (D fI C : Addr) : Prop where
  sub : SubC K D C
  ini : PySem.W.findIn K (.ref C) "__init__" = some (some (.ref fI))
  xf : XfC K C
  cl : PySem.W.findIn K (.ref C) "__class__" = some (some (.builtin "object.__class__"))
  ob : PySem.W.mroIn K C (.type "object") = some true
  ex : PySem.W.exmOne K (.ref C) (.ref D) = some true
theorem subB_ok {K : PySem.W.Frag} {D fI C : Addr} (h : subB K D fI C = true) : SubF K D fI C := by
  unfold subB at h
  obtain ⟨h1, h⟩ := He.ba h
  obtain ⟨h2, h⟩ := He.ba h
  obtain ⟨h3, h⟩ := He.ba h
  obtain ⟨h4, h⟩ := He.ba h
  obtain ⟨h5, h⟩ := He.ba h
  obtain ⟨h6, h⟩ := He.ba h
  obtain ⟨h7, h⟩ := He.ba h
  obtain ⟨h8, h⟩ := He.ba h
  obtain ⟨h9, h⟩ := He.ba h
  obtain ⟨h10, h⟩ := He.ba h
  obtain ⟨h11, h⟩ := He.ba h
  obtain ⟨h12, h⟩ := He.ba h
  obtain ⟨h13, h14⟩ := He.ba h
  exact ⟨⟨⟨oexB_ok h1, of_decide_eq_true h2, of_decide_eq_true h3, of_decide_eq_true h4, h5⟩, of_decide_eq_true h6, of_decide_eq_true h7, of_decide_eq_true h8, of_decide_eq_true h9⟩, of_decide_eq_true h10, xfB_ok h11, of_decide_eq_true h12, of_decide_eq_true h13, of_decide_eq_true h14⟩
/-- the base class's __init__, its cell, its text's file -/
abbrev fI (K : PySem.W.Frag) : Addr := He.fAd K ("SquareError", some "__init__")
abbrev dE (K : PySem.W.Frag) : Addr := He.ga K "SquareError"
abbrev SupW : Type := Option (Str × Str × Arguments × FuncBody × Scope × Addr × List Str × Addr)
def supW (K : PySem.W.Frag) : SupW := (He.fnW K ("SquareError", some "__init__")).map fun (a, b, c, d, e, f, g, h) => (a, b, c, d, e, f, g.map (·.1), h)
def supV (st : Stmt) : SupW := some ("__init__", "SquareError.__init__", defArgs st, .stmts (defBody st), defScope st, mainGlobals, ["__class__"], builtinsNs)
def celB (K : PySem.W.Frag) (cc d : Addr) : Bool := match K.lookup cc with
  | some ⟨_, _, .cell (some (.ref d')), _⟩ => decide (d' = d)
  | _ => false
theorem celB_ok {K : PySem.W.Frag} {cc d : Addr} (h : celB K cc d = true) : ∃ o c sl, K.lookup cc = some ⟨o, c, .cell (some (.ref d)), sl⟩ := by
  unfold celB at h
  split at h
  · rename_i o c d' sl lk
    rw [of_decide_eq_true h] at lk
    exact ⟨o, c, sl, lk⟩
  · cases h
def filB (K : PySem.W.Frag) (c : Addr) (file : Str) : Bool := match K.lookup c with
  | some ⟨_, _, .fields vs, _⟩ => (match vs.toList with
    | _ :: _ :: .str nm _ :: _ => file == nm
    | _ => false)
  | _ => false
theorem filB_ok {K : PySem.W.Frag} {c : Addr} {file : Str} (h : filB K c file = true) : ∃ o d vs sl nm tf, K.lookup c = some ⟨o, d, .fields vs, sl⟩ ∧ vs[2]? = some (.str nm tf) ∧ (file == nm) = true := by
  unfold filB at h
  split at h
  · rename_i o d vs sl lk
    split at h
    · rename_i x y nm tf r hv
      refine ⟨o, d, vs, sl, nm, tf, lk, ?_, h⟩
      rw [← Array.getElem?_toList, hv]
      rfl
    · cases h
  · cases h
def funB (K : PySem.W.Frag) (d : Addr) (file : Str) (fd : FuncData) : Bool := match fd.code, fd.defaults, fd.kwdefaults, fd.annotations, fd.closure with
  | .ref c, .none, .none, none, [(_, cc)] => PySem.W.codeIn K (.ref c) "SquareError.__init__" && (celB K cc d && filB K c file)
  | _, _, _, _, _ => false
def supB (K : PySem.W.Frag) (file : Str) : Bool := (match K.lookup (fI K) with
  | some ⟨_, _, .func fd, _⟩ => funB K (dE K) file fd
  | _ => false) && ((PySem.W.clsIn K (dE K)).isSome && (decide (PySem.W.nsIn K cStatics "thirdparty.any" = some none) && (decide (PySem.W.nsIn K mainGlobals "super" = some none) && (decide (PySem.W.typeIn K (.ref (fI K)) = some (.type "function")) &&
      (decide (PySem.W.specialIn K (.builtin "object.__class__") "__get__" = some (some (.builtin "getset_descriptor.__get__"))) && decide (PySem.W.takesIn K (.builtin "object.__class__") = some true))))))
theorem sup_ok {P : Program} {K : PySem.W.Frag} {h : Heap} {mg : Str → Option Value} {st : Stmt} (KX : K.In h) (G : h.Ns mainGlobals mg) (e : supW K = supV st) (b : supB K P.main.file = true) (top : (P.main.scope.names.lookup ("super" : Str)).isSome = false) :
    ∃ (cc : Addr) (F : NF) (oc : Value) (od : Option Addr) (doc pm ctv : Value) (osl : Array (Option Value)), SupD P K mg (dE K) (fI K) cc F ∧ K.lookup (fI K) = some ⟨oc, od, .func (F.fd doc pm ctv), osl⟩ ∧ F.qual = "SquareError.__init__" ∧ F.params = defArgs st ∧ F.body = defBody st ∧ F.scope = defScope st ∧ PySem.W.typeIn K (.ref (fI K)) = some (.type "function") ∧
      PySem.W.specialIn K (.builtin "object.__class__") "__get__" = some (some (.builtin "getset_descriptor.__get__")) ∧ PySem.W.takesIn K (.builtin "object.__class__") = some true := by
  unfold supB at b
  obtain ⟨b1, b⟩ := He.ba b
  obtain ⟨b2, b⟩ := He.ba b
  obtain ⟨b3, b⟩ := He.ba b
  obtain ⟨b4, b⟩ := He.ba b
  obtain ⟨b5, b⟩ := He.ba b
  obtain ⟨b6, b7⟩ := He.ba b
  unfold supW He.fnW at e
  split at b1
  · rename_i oc od fd osl lk
    rw [show K.lookup (He.fAd K ("SquareError", some "__init__")) = _ from lk] at e
    obtain ⟨n1, n2, n3, n4, n5, n6, n7, n8, n9, n10, n11, n12, n13, n14, n15⟩ := fd
    unfold supV at e
    simp only [Option.map_some, Option.some.injEq, Prod.mk.injEq] at e
    obtain ⟨e1, e2, e3, e4, e5, e6, e7, e8⟩ := e
    unfold funB at b1
    dsimp only at b1
    split at b1
    · rename_i c x cc
      subst e1 e2 e3 e4 e5 e6 e8
      have ex : x = "__class__" := by simpa using e7
      subst ex
      obtain ⟨c1, c2⟩ := He.ba b1
      obtain ⟨c3, c4⟩ := He.ba c2
      refine ⟨cc, ⟨"__init__", "SquareError.__init__", defArgs st, defBody st, defScope st, [("__class__", cc)], c⟩, oc, od, n10, n11, n14, osl, ⟨rfl, ⟨oc, od, n10, n11, n14, osl, lk⟩, c1, celB_ok c3, filB_ok c4, b2, of_decide_eq_true b3, PySem.W.mg_none_of KX G (of_decide_eq_true b4), top⟩, lk, rfl, rfl, rfl, rfl, of_decide_eq_true b5, of_decide_eq_true b6, of_decide_eq_true b7⟩
    · cases b1
  · cases b1
end VL
namespace VL
open PySem PySem.Spec L2
open PyProof.Rows (envOfC IntsAre AllBare)
open NdefX (NF NScope envF)
open LamX (TabB)

def exsB (K : PySem.W.Frag) (exs : List Str) : Bool := decide (PySem.W.nsIn K mainGlobals "SquareError" = some (some (.ref (dE K)))) && exs.all fun x => decide (PySem.W.nsIn K mainGlobals x = some (some (.ref (He.ga K x)))) && (subB K (dE K) (fI K) (He.ga K x) && (decide (PySem.W.kitOne K (.type "NoneType") (.ref (He.ga K x)) = some false) &&
  exs.all fun y => decide (PySem.W.kitOne K (.ref (He.ga K x)) (.ref (He.ga K y)) = some (decide (x = y)))))
structure ExT (P : Program) (w : World) (K : PySem.W.Frag) (mg : Str → Option Value) (base : Heap) (exs : List Str) : Prop where
  err : mg "SquareError" = some (.ref (dE K))
  glo : ∀ x ∈ exs, mg x = some (.ref (He.ga K x))
  xc : ∀ x ∈ exs, XC P w K mg base x
  exm : ∀ x ∈ exs, PySem.W.exmOne K (.ref (He.ga K x)) (.ref (dE K)) = some true
  cls : ∀ x ∈ exs, ExcC K (He.ga K x)
  xf : ∀ x ∈ exs, XfC K (He.ga K x)
  no : ∀ x ∈ exs, PySem.W.findIn K (.ref (He.ga K x)) "value" = some none
  isx : ∀ x ∈ exs, ∀ y ∈ exs, PySem.W.kitOne K (.ref (He.ga K x)) (.ref (He.ga K y)) = some (decide (x = y))
  non : ∀ x ∈ exs, PySem.W.kitOne K (.type "NoneType") (.ref (He.ga K x)) = some false
theorem ext_ok {P : Program} {w : World} {K : PySem.W.Frag} {h : Heap} {mg : Str → Option Value} {base : Heap} {exs : List Str} (KX : K.In h) (G : h.Ns mainGlobals mg) (b : exsB K exs = true)
    (sp : PySem.W.specialIn K (.builtin "object.__class__") "__get__" = some (some (.builtin "getset_descriptor.__get__"))) (tk : PySem.W.takesIn K (.builtin "object.__class__") = some true) (tI : PySem.W.typeIn K (.ref (fI K)) = some (.type "function"))
    (fd : FuncData) (hb : Binds K fd ["self", "value"] []) (F1 : FnOk P w K mg base CX0 1 (fI K) fd ["self", "value"] (spInit K (dE K))) : ExT P w K mg base exs := by
  unfold exsB at b
  obtain ⟨b0, b⟩ := He.ba b
  have all : ∀ x ∈ exs, mg x = some (.ref (He.ga K x)) ∧ SubF K (dE K) (fI K) (He.ga K x) ∧ PySem.W.kitOne K (.type "NoneType") (.ref (He.ga K x)) = some false ∧ ∀ y ∈ exs, PySem.W.kitOne K (.ref (He.ga K x)) (.ref (He.ga K y)) = some (decide (x = y)) := fun x hx => by
    obtain ⟨h1, h2⟩ := He.ba (List.all_eq_true.mp b x hx)
    obtain ⟨h3, h4⟩ := He.ba h2
    obtain ⟨h5, h6⟩ := He.ba h4
    exact ⟨PySem.W.mg_of KX G (of_decide_eq_true h1), subB_ok h3, of_decide_eq_true h5, fun y hy => of_decide_eq_true (List.all_eq_true.mp h6 y hy)⟩
  exact ⟨PySem.W.mg_of KX G (of_decide_eq_true b0), fun x hx => (all x hx).1, fun x hx => ⟨_, _, _, (all x hx).2.1.sub, (all x hx).1, (all x hx).2.1.ini, tI, hb, F1⟩, fun x hx => (all x hx).2.1.ex,
    fun x hx => let S := (all x hx).2.1; ⟨S.xf.ga, S.xf.gg, S.xf.exC, S.xf.hdC, S.cl, sp, tk, S.ob⟩, fun x hx => (all x hx).2.1.xf, fun x hx => (all x hx).2.1.sub.noV, fun x hx => (all x hx).2.2.2, fun x hx => (all x hx).2.2.1⟩

/-- x's code object and its table -/
abbrev tA (K : PySem.W.Frag) (x : Str) : Addr := (He.cT K (x, none)).2
structure DfT (K : PySem.W.Frag) (mg : Str → Option Value) (base : Heap) (x : Str) (st : Stmt) : Prop where
  ex : ∃ f fd c oc od osl, mg x = some (.ref f) ∧ FunD K x x (defArgs st) (defBody st) (defScope st) [] [] f fd ∧ K.lookup f = some ⟨oc, od, .func fd, osl⟩ ∧ fd.code = .ref c ∧ TabB base mg c (tA K x)
theorem kn_ofL {P : Program} {w : World} {K : PySem.W.Frag} {mg : Str → Option Value} {base : Heap} {x : Str} {st : Stmt} {N ps : List Str} {k : Nat} {φ : VSp} (hD : DfT K mg base x st) (S : FnScope N ps (defScope st))
    (hb : ∀ (kV doc pm : Value) (an : Option Addr) (cdv ct : Value) (us : List Value), us.length = ps.length → bindArgs (PySem.W.fnOf x x (defArgs st) (defBody st) (defScope st) .none kV doc pm an cdv ct) ⟨us, []⟩ = pure (ps.zip us))
    (len : ∀ ds M Q, φ ds M Q → ds.length = ps.length)
    (hbody : ∀ (f c : Addr) (A : Around) (outer : List Env) (s : Shared) (H : Hp) (E : XK), TabB base mg c (tA K x) → RmG k (A.deeper (envOfC x (defScope st) s.heap.objs.size f (.ref c))) →
      ∃ t, VSs (cxOf CX0 P w K mg base N x (defScope st) f (.ref c) A outer s H E).nox (defBody st) t ∧ ∀ ds M Q, φ ds M Q → t { nx := fun _ M' => ∃ M'', Sub M'' M' ∧ Q .non M'', rt := fun d M' => ∃ M'', Sub M'' M' ∧ Q d M'' } (vstart N.length ds) M) : Kn P w K mg base (k + 1) x ps φ := by
  obtain ⟨f, fd, c, oc, od, osl, hm, Fd, lk, hc, TB⟩ := hD.ex
  have b1 := Fd.bindsN hb
  have b2 := fun s us hl => FunD.bindsA Fd hb s us hl
  obtain ⟨_, _, dV, kV, doc, pm, an, cdv, ct, _, hfd, _, hcd, _, _⟩ := id Fd.ex
  refine ⟨f, fd, hm, Fd.kp, b1, b2, ⟨oc, od, osl, lk⟩, ?_⟩
  rw [hfd] at hc
  have hc' : cdv = .ref c := hc
  subst hc'
  rw [hfd] at lk ⊢
  refine fnG_of lk hcd S (fun vs H Q E ⟨F, M, G, ds, Q', dv, r, q, o⟩ => by rw [dv.len]; exact len ds M Q' q) fun A outer s H vs Q E hr ⟨F', M, G, ds, Q', dv, r, q, o⟩ => ?_
  obtain ⟨t, h1, h2⟩ := hbody f c A outer s H E TB hr
  exact ⟨lS K t, PSs.nox h1, F', M, G, vstart N.length ds, _, SR.start dv, r, h2 ds M Q' q, ⟨fun σ H1 F1 M1 e s1 r1 hs1 ⟨M2, sb, q1⟩ => o _ H1 F1 M2 _ s1 (r1.drop sb) .non q1, fun v H1 F1 M1 d s1 r1 d1 ⟨M2, sb, q1⟩ => o v H1 F1 M2 d s1 (r1.drop sb) d1 q1, fun _ _ _ _ _ _ _ _ z => z.elim, fun _ _ _ _ _ _ _ _ z => z.elim⟩⟩

theorem law_callT {P : Program} {w : World} {K : PySem.W.Frag} {mg mb : Str → Option Value} {k : Nat} {fa a : Addr} {tabs : List (Addr × Addr × Str)} {fd : FuncData} {x : Str} {φ : VSp} {s₁ : Shared} {vs : List Value} {ns : List Int}
    (inK : K.In s₁.heap) (names : s₁.heap.Ns mainGlobals mg) (blt : s₁.heap.Ns builtinsNs mb) (boot : ∀ x : Str, x ≠ "__name__" → mb x = bootBuiltins x) (nolim : s₁.heap.NoLimit) (nogens : s₁.gens = #[])
    (empty : ∀ p ∈ tabs, s₁.heap.get? p.2.1 = some { cls := .none, data := .fields #[] }) (outK : ∀ p ∈ tabs, K.lookup p.2.1 = none) (heads : ∀ p ∈ tabs, PySem.W.codeHdIn K p.1 p.2.1 = true)
    (bmod : ∃ (bm : Addr) (ob : Obj), mg "__builtins__" = some (.ref bm) ∧ bm ≠ builtinsNs ∧ s₁.heap.get? bm = some ob ∧ ob.cls = .type "module" ∧ ob.dict = some builtinsNs ∧ ob.data = .plain)
    (script : s₁.heap.get? a = some { cls := .type "list", data := .seq vs.toArray }) (isInts : IntsAre vs ns) (short : ns.length ≤ sizeLine) (room : Room k callerA)
    (F : ∀ base : Heap, K.In base → base.Ns mainGlobals mg → (∀ p ∈ tabs, TabB base mg p.1 p.2.1) → FnG P w K mg base CX0 k fa fd [x] (lSp K φ)) (binds : ∀ (s : Shared) (u : Value), BindsTo s fd ⟨[u], []⟩ [(x, u)])
    (law : ∀ M : Mem, (∀ p ∈ tabs, M p.2.1 = some (.tb p.2.2)) → φ [.rd (ns.map D.int)] M fun d _ => d = .bl true) (uniq : ∀ p ∈ tabs, ∀ q ∈ tabs, p.2.1 = q.2.1 → p.2.2 = q.2.2) :
    codeAny (model P w) callerA (.call (.ref fa) ⟨[.ref a], []⟩) (fun r s' => r = .ok (.ret (.bool true)) ∧ OldK s₁.heap s'.heap ∧ s'.os = s₁.os ∧ AllBare s'.gens) s₁ := by
  have rel := vals_ints isInts
  have slen := isInts.length
  have tabAt : ∀ b : Addr, b ∈ tabs.map (·.2.1) → s₁.heap.get? b = some { cls := .none, data := .fields #[] } := fun b hb => by
    obtain ⟨p, hp, rfl⟩ := List.mem_map.mp hb
    exact empty p hp
  have aNo : a ∉ tabs.map (·.2.1) := fun z => by
    have q := tabAt a z
    rw [script] at q
    cases q
  have inT : ∀ p ∈ tabs, p.2.1 ∈ tabs.map (·.2.1) := fun p hp => List.mem_map.mpr ⟨p, hp, rfl⟩
  have main : ∀ H F0 : Hp, (∀ b, b ∈ tabs.map (·.2.1) → H b = some (.tbl #[]) ∧ F0 b = none) → (∀ b o, F0 b = some o → H b = some o) → SqL K F0 a (ns.map V.int) → HOk P w H s₁.heap → (∀ b u, H b = some u → (b ∈ tabs.map (·.2.1)) ∨ (b = a ∧ ∃ o xs, u = .frz o (.lst xs))) → (H a ≠ none → K.lookup a = none) →
      codeAny (model P w) callerA (.call (.ref fa) ⟨[.ref a], []⟩) (fun r s' => r = .ok (.ret (.bool true)) ∧ OldK s₁.heap s'.heap ∧ s'.os = s₁.os ∧ AllBare s'.gens) s₁ := by
    intro H F0 tbl sub seq hok only notK
    have free : ∀ {b : Addr} {o : Obj}, s₁.heap.get? b = some o → (∀ its m, o.data ≠ .seq its m) → o.data ≠ .fields #[] → H b = none := fun {b o} e n1 n2 => by
      cases q : H b with
      | none => rfl
      | some u =>
        rcases only b u q with z | ⟨z, _⟩
        · rw [tabAt b z] at e
          cases e
          exact absurd rfl n2
        · rw [z, script] at e
          cases e
          exact absurd rfl (n1 _ _)
    have nsB : ∀ {b : Addr} {m : Str → Option Value}, s₁.heap.Ns b m → (hidT s₁.heap H).Ns b m := fun {b m} ⟨o, es, ep, e, d, r⟩ => ⟨o, es, ep, hidT_get e (free e (fun its m z => by rw [d] at z; cases z) (fun z => by rw [d] at z; cases z)), d, r⟩
    have kinB : K.In (hidT s₁.heap H) := fun b o e => by
      refine hidT_get (inK b o e) ?_
      cases q : H b with
      | none => rfl
      | some u =>
        rcases only b u q with z | ⟨z, _⟩
        · obtain ⟨p, hp, hp2⟩ := List.mem_map.mp z
          rw [← hp2, outK p hp] at e
          cases e
        · rw [z] at e q
          rw [notK (by rw [q]; simp)] at e
          cases e
    obtain ⟨mc, l1, l2⟩ := nolim
    have TB : ∀ p ∈ tabs, TabB (hidT s₁.heap H) mg p.1 p.2.1 := fun p hp => by
      refine NdefX.tabB_of_K kinB (heads p hp) ?_ (fun z => ?_)
      · obtain ⟨bm, ob, b1, b2, b3, b4, b5, b6⟩ := bmod
        refine ⟨bm, ob, b1, b2, fun q => ?_, fun q => ?_, hidT_get b3 (free b3 (fun its m z => by rw [b6] at z; cases z) (fun z => by rw [b6] at z; cases z)), b4, b5, b6⟩
        · obtain ⟨o, es, ep, e, d, _⟩ := names
          rw [q, e] at b3
          cases b3
          rw [d] at b6
          cases b6
        · rw [q, empty p hp] at b3
          cases b3
          cases b6
      · obtain ⟨o, es, ep, e, d, _⟩ := names
        rw [z, empty p hp] at e
        cases e
        cases d
    have env : Env0 P w K mg (hidT s₁.heap H) callerA [] s₁ H :=
      ⟨rfl, ⟨kinB, nsB names, ⟨mb, nsB blt, boot⟩, ⟨mc, nsB l1, l2⟩⟩, fun b o e => of_hidT e, Nat.le_of_eq (hidT_size _ _), trivial, (fun b hb => nomatch hb), hok, .of_eq nogens⟩
    let M : Mem := fun b => (tabs.find? fun p => decide (p.2.1 = b)).map fun p => .tb p.2.2
    have Mt : ∀ p ∈ tabs, M p.2.1 = some (.tb p.2.2) := fun p hp => by
      have h1 : ((tabs.find? fun q => decide (q.2.1 = p.2.1)).map fun q => MO.tb q.2.2) = some (.tb p.2.2) := by
        cases q : tabs.find? fun q => decide (q.2.1 = p.2.1) with
        | none => exact absurd (decide_eq_true rfl) (List.find?_eq_none.mp q p hp)
        | some r =>
          have e : r.2.1 = p.2.1 := by
            have := List.find?_some q
            simpa using this
          rw [Option.map_some, uniq r (List.mem_of_find?_eq_some q) p hp e]
      exact h1
    have Mo : ∀ b o, M b = some o → b ∈ tabs.map (·.2.1) ∧ ∃ q, o = .tb q := fun b o e => by
      have e' : ((tabs.find? fun q => decide (q.2.1 = b)).map fun q => MO.tb q.2.2) = some o := e
      cases q : tabs.find? fun q => decide (q.2.1 = b) with
      | none => rw [q] at e'; cases e'
      | some r =>
        rw [q] at e'
        cases e'
        have e : r.2.1 = b := by
          have := List.find?_some q
          simpa using this
        exact ⟨List.mem_map.mpr ⟨r, List.mem_of_find?_eq_some q, e⟩, _, rfl⟩
    have prom : lSp K φ [.ref a] H (fun v _ => v = .bl true) (fun _ _ _ => False) :=
      ⟨F0, M, fun _ => none, [.rd (ns.map D.int)], _, .cons (.rd seq (DRs.ints ns)) .nil, ⟨sub, (fun _ _ z => nomatch z), fun b o e => by
        obtain ⟨h1, q, rfl⟩ := Mo b o e
        obtain ⟨h2, h3⟩ := tbl b h1
        exact ⟨h3, rfl, _, h2, #[], rfl, True.intro, fun ps cv z => by
          have z' : codeAmong ps [] = some cv := z
          simp [codeAmong] at z'⟩, (fun _ _ z => nomatch z)⟩, law M Mt, fun v H' F' M' d _ _ dv e => by subst e; cases dv; rfl⟩
    refine codeAny_mono ((F _ kinB (nsB names) TB).run callerA [] s₁ H ⟨[.ref a], []⟩ [.ref a] [.ref a] _ _ ⟨room, rfl⟩ env (binds s₁ (.ref a)) (.cons rfl .nil) prom) fun res s' done => ?_
    match res, done with
    | .error err, done => exact False.elim done
    | .ok (.ret u), done =>
      obtain ⟨v, H', os, bare, un, hok', r', q⟩ := done
      have q' : v = .bl true := q
      subst q'
      obtain rfl : u = Value.bool true := r'
      have same : ∀ b o, b ∉ tabs.map (·.2.1) → s₁.heap.get? b = some o → s'.heap.get? b = some o := fun b o nb e => by
        cases q : H b with
        | none => exact un.keep b o e q (fun z => nomatch z) (by simp)
        | some u =>
          rcases only b u q with z | ⟨_, ob, xs, rfl⟩
          · exact absurd z nb
          · obtain ⟨e1, _⟩ := hok b _ q
            obtain ⟨e2, _⟩ := hok' b _ (un.frzs b ob _ q)
            rw [e] at e1
            cases e1
            exact e2
      have more_ : ∀ p ∈ tabs, ∃ more : Array Value, s'.heap.get? p.2.1 = some { cls := .none, data := .fields more } := fun p hp => by
        obtain ⟨more, z⟩ := un.tbls p.2.1 #[] (tbl _ (inT p hp)).1
        exact ⟨_, hok' p.2.1 _ z⟩
      refine ⟨rfl, ⟨fun b o e => ?_, fun b o e => ?_⟩, os, bare⟩
      · by_cases hb : b ∈ tabs.map (·.2.1)
        · obtain ⟨p, hp, rfl⟩ := List.mem_map.mp hb
          obtain ⟨more, hm⟩ := more_ p hp
          have hd := PySem.W.codeHd_of_K inK (heads p hp)
          rw [empty p hp] at e
          cases e
          exact .inr (.inl ⟨(hd.tab (empty p hp)).isCodeTable, rfl, #[], more, rfl, by rw [Array.empty_append]; exact hm⟩)
        · exact .inl (same b o hb e)
      · by_cases hb : b ∈ tabs.map (·.2.1)
        · obtain ⟨p, hp, rfl⟩ := List.mem_map.mp hb
          obtain ⟨more, hm⟩ := more_ p hp
          exact ⟨_, hm⟩
        · exact ⟨o, same b o hb e⟩
  cases inOwn : K.lookup a with
  | none =>
    have at_a : ∀ {b : Addr} {u v : HO}, b = a → (if b = a then some u else some v) = some u := fun e => if_pos e
    refine main (fun b => if b = a then some (.frz { cls := .type "list", data := .seq vs.toArray } (.lst (ns.map V.int))) else if b ∈ tabs.map (·.2.1) then some (.tbl #[]) else none) (fun b => if b = a then some (.frz { cls := .type "list", data := .seq vs.toArray } (.lst (ns.map V.int))) else none) (fun b hb => ?_) (fun b o e => ?_) (.inl (.inr ⟨_, if_pos rfl⟩)) (fun b u z => ?_) (fun b u z => ?_) fun _ => inOwn
    · have nb : b ≠ a := fun z => aNo (by rw [← z]; exact hb)
      exact ⟨by simp only [if_neg nb, if_pos hb], if_neg nb⟩
    · by_cases hb : b = a
      · simp only [if_pos hb] at e ⊢
        exact e
      · simp only [if_neg hb] at e
        cases e
    · by_cases hb : b = a
      · subst hb
        simp only [if_pos rfl] at z
        cases z
        exact ⟨script, by rw [List.length_map]; exact short, vs, _, rel, script⟩
      · by_cases hb2 : b ∈ tabs.map (·.2.1)
        · simp only [if_neg hb, if_pos hb2] at z
          cases z
          exact tabAt b hb2
        · simp only [if_neg hb, if_neg hb2] at z
          cases z
    · by_cases hb : b = a
      · simp only [if_pos hb] at z
        cases z
        exact .inr ⟨hb, _, _, rfl⟩
      · by_cases hb2 : b ∈ tabs.map (·.2.1)
        · exact .inl hb2
        · simp only [if_neg hb, if_neg hb2] at z
          cases z
  | some o =>
    have e := inK a o inOwn
    rw [script] at e
    cases e
    refine main (fun b => if b ∈ tabs.map (·.2.1) then some (.tbl #[]) else none) (fun _ => none) (fun b hb => ⟨if_pos hb, rfl⟩) (fun _ _ z => nomatch z) (.inr ⟨_, vs.toArray, _, inOwn, rfl, rfl, rfl, by rw [List.size_toArray, slen]; exact short, by simpa using rel⟩) (fun b u z => ?_) (fun b u z => ?_) fun z => absurd (if_neg aNo) z
    · by_cases hb2 : b ∈ tabs.map (·.2.1)
      · simp only [if_pos hb2] at z
        cases z
        exact tabAt b hb2
      · simp only [if_neg hb2] at z
        cases z
    · by_cases hb2 : b ∈ tabs.map (·.2.1)
      · exact .inl hb2
      · simp only [if_neg hb2] at z
        cases z
end VL
namespace VL
open PySem PySem.Spec L2
open PyProof.Rows (envOfC)
open LamX (TabB)

def reachL (g : Addr → Option Obj) : Nat → List Addr
  | 0 => [mainGlobals, cStatics]
  | n + 1 => He.growD g (reachL g n)
def frL (n : Nat) (g : Addr → Option Obj) : PySem.W.Frag := He.frT g (reachL g n)
/-- what is asked of the law's text: facts, defs, constants, the base error's __init__, the file, the errors, the makers of lambdas -/
structure Asked where
  fa : List He.Fa
  fn : List He.DefD
  ts : List (Str × D)
  ks : List (Str × List (Int × D))
  st : Stmt
  file : Str
  exs : List Str
  tf : List Str
def Asked.more (q : Asked) (g : Addr → Option Obj) (K : PySem.W.Frag) : Bool := cB q.ts q.ks K && (supB K q.file && (exsB K q.exs && (He.tabsB g (q.tf.map fun x => (x, none)) K && decide ((q.tf.map fun x => tA K x).Nodup))))
abbrev AlL : Type := He.AlD × Bool × SupW
def obsL (n : Nat) (q : Asked) (g : Addr → Option Obj) : AlL := (He.obsD q.fa q.fn (frL n g), q.more g (frL n g), supW (frL n g))
def valL (q : Asked) : AlL := (He.valD q.fn, true, supV q.st)
structure SaysL (q : Asked) (h : Heap) (K : PySem.W.Frag) : Prop where
  d : He.SaysD q.fa q.fn K
  c : cB q.ts q.ks K = true
  sw : supW K = supV q.st
  sb : supB K q.file = true
  ex : exsB K q.exs = true
  hd : ∀ x ∈ q.tf, PySem.W.codeHdIn K (He.cT K (x, none)).1 (tA K x) = true
  out : ∀ x ∈ q.tf, K.lookup (tA K x) = none
  emp : ∀ x ∈ q.tf, h.get? (tA K x) = some { cls := .none, data := .fields #[] }
  uni : (q.tf.map fun x => tA K x).Nodup
theorem saysL_of {n : Nat} {q : Asked} {h : Heap} (e : obsL n q h.get? = valL q) : SaysL q h (frL n h.get?) := by
  have e1 : He.obsD q.fa q.fn (frL n h.get?) = He.valD q.fn := congrArg (fun z : AlL => z.1) e
  have e2 : q.more h.get? (frL n h.get?) = true := congrArg (fun z : AlL => z.2.1) e
  have e3 : supW (frL n h.get?) = supV q.st := congrArg (fun z : AlL => z.2.2) e
  obtain ⟨h1, h2⟩ := He.ba e2
  obtain ⟨h3, h2⟩ := He.ba h2
  obtain ⟨h4, h2⟩ := He.ba h2
  obtain ⟨h5, h6⟩ := He.ba h2
  have key : ∀ x ∈ q.tf, PySem.W.codeHdIn (frL n h.get?) (He.cT (frL n h.get?) (x, none)).1 (tA (frL n h.get?) x) = true ∧ ∃ o, h.get? (tA (frL n h.get?) x) = some o ∧ He.emptyTab o = true := fun x hx => by
    obtain ⟨a1, a2⟩ := He.ba (List.all_eq_true.mp h5 (x, none) (List.mem_map.mpr ⟨x, hx, rfl⟩))
    refine ⟨a1, ?_⟩
    cases z : h.get? (tA (frL n h.get?) x) with
    | none =>
      rw [z] at a2
      cases a2
    | some o =>
      rw [z] at a2
      exact ⟨o, rfl, a2⟩
  exact ⟨e1, h1, e3, h3, h4, fun x hx => (key x hx).1, fun x hx => by
    obtain ⟨_, o, z1, z2⟩ := key x hx
    exact He.frT_none z1 z2, fun x hx => by
    obtain ⟨_, o, z1, z2⟩ := key x hx
    rw [z1, He.emptyTab_eq z2], of_decide_eq_true h6⟩
def hookL (n : Nat) (q : Asked) : PySem.W.Hook where
  α := AlL
  obs := fun s => obsL n q s.heap.get?
  val := fun _ => valL q
  says := fun _ h => ∃ K : PySem.W.Frag, K.In h ∧ SaysL q h K
  of := fun _ _ e => ⟨_, He.frT_in, saysL_of e⟩
  keeps := fun _ _ _ ⟨K, hK, c⟩ k => ⟨K, PySem.W.Frag.In.keeps hK k, ⟨c.d, c.c, c.sw, c.sb, c.ex, c.hd, c.out, fun x hx => k _ _ (c.emp x hx), c.uni⟩⟩
theorem obsL_eq {n : Nat} {q : Asked} {g : Addr → Option Obj} {s : Shared} (h : ∀ a, g a = s.heap.get? a) : obsL n q g = (hookL n q).obs s := by
  have e : g = s.heap.get? := funext h
  rw [e] <;> rfl
/-- the name of a lambda's code object, made in x -/
def lamQ (x : Str) : Str := x ++ ".<locals>." ++ "<lambda>"
theorem dfT_of {q : Asked} {h h' : Heap} {K : PySem.W.Frag} {mg : Str → Option Value} {x : Str} {st : Stmt} (c : SaysL q h' K) (KX : K.In h) (G : h.Ns mainGlobals mg) (base : Heap) {i j : Nat} {fd : FuncData} (F : FunD K x x (defArgs st) (defBody st) (defScope st) [] [] (He.fAd K (x, none)) fd)
    (hm : mg x = some (.ref (He.ga K x))) (TB : TabB base mg (He.cT K (x, none)).1 (tA K x)) : DfT K mg base x st := by
  obtain ⟨oc, od, dV, kV, doc, pm, an, cdv, ct, osl, hfd, lk, hcd, _, _⟩ := id F.ex
  obtain ⟨c', hc⟩ := He.codeIn_ref hcd
  have e : He.codeOf K (x, none) = c' := He.codeOf_eq (p := (x, none)) lk (by rw [hfd]; exact hc)
  refine ⟨He.fAd K (x, none), fd, c', oc, od, osl, hm, F, lk, by rw [hfd]; exact hc, ?_⟩
  have e2 : (He.cT K (x, none)).1 = c' := e
  rw [e2] at TB
  exact TB
theorem inj_nodup {α β : Type} {f : α → β} : ∀ {l : List α}, (l.map f).Nodup → ∀ {x y : α}, x ∈ l → y ∈ l → f x = f y → x = y
  | [], _, _, _, h, _, _ => nomatch h
  | a :: l, hn, x, y, hx, hy, e => by
    rw [List.map_cons, List.nodup_cons] at hn
    rcases List.mem_cons.mp hx with e1 | h1
    · rcases List.mem_cons.mp hy with e2 | h2
      · rw [e1, e2]
      · exact absurd (by rw [← e1, e]; exact List.mem_map.mpr ⟨y, h2, rfl⟩) hn.1
    · rcases List.mem_cons.mp hy with e2 | h2
      · exact absurd (by rw [← e2, ← e]; exact List.mem_map.mpr ⟨x, h1, rfl⟩) hn.1
      · exact inj_nodup hn.2 h1 h2 e
theorem tabB_at {K : PySem.W.Frag} {h : Heap} {mg : Str → Option Value} {c P : Addr} (KX : K.In h) (names : h.Ns mainGlobals mg) (hd : PySem.W.codeHdIn K c P = true) (emp : h.get? P = some { cls := .none, data := .fields #[] })
    (bmod : ∃ (bm : Addr) (ob : Obj), mg "__builtins__" = some (.ref bm) ∧ bm ≠ builtinsNs ∧ h.get? bm = some ob ∧ ob.cls = .type "module" ∧ ob.dict = some builtinsNs ∧ ob.data = .plain) : TabB h mg c P := by
  obtain ⟨o, es, ep, e, d, _⟩ := names
  refine NdefX.tabB_of_K KX hd ?_ fun z => ?_
  · obtain ⟨bm, ob, b1, b2, b3, b4, b5, b6⟩ := bmod
    refine ⟨bm, ob, b1, b2, fun q => ?_, fun q => ?_, b3, b4, b5, b6⟩
    · rw [q, e] at b3
      cases b3
      rw [d] at b6
      cases b6
    · rw [q, emp] at b3
      cases b3
      cases b6
  · rw [z, emp] at e
    cases e
    cases d
theorem walk_KT {l : PySem.W.OpenLaw} {n k : Nat} {q : Program} {loose : List Str} {XP : (Str → Option Value) → Heap → Prop} {YP : World → Heap → Prop} {d : DefRec} {x : Str} {φ : PySem.W.Frag → VSp} {tf : List Str}
    (most : l.most = some n) (short : n ≤ sizeLine) (nodef : d.params.defaults = []) (room : Room k callerA)
    (hφ : ∀ (K : PySem.W.Frag) (ns : List Int), ns.length ≤ n → ∀ M : Mem, (∀ x ∈ tf, M (tA K x) = some (.tb (lamQ x))) → φ K [.rd (ns.map D.int)] M fun d _ => d = .bl true)
    (F : ∀ (w : World) (mg : Str → Option Value) (h : Heap), YP w h → h.Ns mainGlobals mg → ∃ (K : PySem.W.Frag), K.In h ∧ (∀ x ∈ tf, PySem.W.codeHdIn K (He.cT K (x, none)).1 (tA K x) = true) ∧ (∀ x ∈ tf, K.lookup (tA K x) = none) ∧ (∀ x ∈ tf, h.get? (tA K x) = some { cls := .none, data := .fields #[] }) ∧ (tf.map fun x => tA K x).Nodup ∧
      ∀ base : Heap, K.In base → base.Ns mainGlobals mg → (∀ x ∈ tf, TabB base mg (He.cT K (x, none)).1 (tA K x)) → Kn l.prog w K mg base k d.name [x] (φ K)) :
    PySem.W.WalkO q loose XP YP l.row.toRowW d [] (fun f vs => PySem.call f vs) := by
  refine Att.attach_call most nodef fun w s₀ s₁ mg mb fa o pm cd doc a vs ns G Y _ _ _ hmg script isInts hlen nogens => ?_
  obtain ⟨K, KX, hd, out, emp, uni, hK⟩ := F w mg _ Y G.T.g
  have bmod := G.T.bmain
  obtain ⟨f, fd, hm, kp, b1, b2, ⟨oc, od, osl, lk⟩, _⟩ := (hK _ KX G.T.g fun x hx => tabB_at KX G.T.g (hd x hx) (emp x hx) bmod).ex
  rw [hmg] at hm
  cases hm
  have mem : ∀ p ∈ tf.map fun x => ((He.cT K (x, none)).1, tA K x, lamQ x), ∃ x ∈ tf, p = ((He.cT K (x, none)).1, tA K x, lamQ x) := fun p hp => by
    obtain ⟨x, hx, rfl⟩ := List.mem_map.mp hp
    exact ⟨x, hx, rfl⟩
  refine law_callT (tabs := tf.map fun x => ((He.cT K (x, none)).1, tA K x, lamQ x)) (φ := φ K) KX G.T.g G.T.b G.T.builtins G.T.nolimit nogens (fun p hp => ?_) (fun p hp => ?_) (fun p hp => ?_) bmod script isInts (Nat.le_trans hlen short) room (fun base hb hG hT => ?_) (fun s u => b2 s [u] rfl) (fun M hM => hφ K ns hlen M fun x hx => hM _ (List.mem_map.mpr ⟨x, hx, rfl⟩)) (fun p hp r hr e => ?_)
  · obtain ⟨x, hx, rfl⟩ := mem p hp
    exact emp x hx
  · obtain ⟨x, hx, rfl⟩ := mem p hp
    exact out x hx
  · obtain ⟨x, hx, rfl⟩ := mem p hp
    exact hd x hx
  · obtain ⟨f', fd', hm', kp', b1', b2', ⟨oc', od', osl', lk'⟩, F'⟩ := (hK base hb hG fun x hx => hT _ (List.mem_map.mpr ⟨x, hx, rfl⟩)).ex
    rw [hmg] at hm'
    cases hm'
    rw [lk] at lk'
    cases lk'
    exact F'
  · obtain ⟨x, hx, rfl⟩ := mem p hp
    obtain ⟨y, hy, rfl⟩ := mem r hr
    have : x = y := by
      have e' : tA K x = tA K y := e
      exact inj_nodup uni hx hy e'
    rw [this]
end VL
namespace K53
open PySem PySem.Spec PyProof.Rows L2
def top (i : Nat) : Stmt := PySem.Challenge.pw_everyrowalike_k53_webs_and_numbers_refus.main.body.getD i (.Pass ⟨0, 0, 0, 0⟩)
abbrev s_is_integer : Stmt := top 6
abbrev s_is_between : Stmt := top 7
abbrev s_are_between : Stmt := top 8
abbrev s_is_ascending : Stmt := top 9
abbrev s_is_web : Stmt := top 17
abbrev s_check_web : Stmt := top 18
abbrev s_check_numbers : Stmt := top 19
abbrev s_sums_at : Stmt := top 20
abbrev s_room_sums : Stmt := top 21
abbrev s_alike_told : Stmt := top 22
abbrev s_shows_alike : Stmt := top 23
abbrev s_is_factor_of : Stmt := top 25
abbrev s_is_factor : Stmt := top 26
abbrev s_numbers_by : Stmt := top 27
abbrev s_factor_numbers : Stmt := top 28
abbrev s_last_doors : Stmt := top 29
abbrev s_is_let : Stmt := top 30
abbrev s_factors_of : Stmt := top 31
abbrev s_steps_on : Stmt := top 32
abbrev s_factors : Stmt := top 33
abbrev s_rows_of : Stmt := top 39
abbrev s_at_door : Stmt := top 40
abbrev s_bare_doors : Stmt := top 41
abbrev s_like_doors : Stmt := top 42
abbrev s_enough : Stmt := top 43
abbrev s_summed : Stmt := top 44
abbrev s_are_numbers : Stmt := top 45
abbrev s_web_told : Stmt := top 46
abbrev s_is_bar : Stmt := top 47
abbrev s_shows_web : Stmt := top 48
abbrev s_even_told : Stmt := top 49
abbrev s_shows_even : Stmt := top 50
abbrev s_without : Stmt := top 51
abbrev s_rank_of : Stmt := top 52
abbrev s_space : Stmt := top 53
abbrev s__law_pot : Stmt := top 55
abbrev s__law_take : Stmt := top 56
abbrev s__law_of : Stmt := top 57
abbrev s__law_cells : Stmt := top 58
abbrev s__law_is_int : Stmt := top 59
abbrev s__law_caught : Stmt := top 60
abbrev s__law_word_of : Stmt := top 61
abbrev s__law_is_due : Stmt := top 62
abbrev s__law_is_web : Stmt := top 63
abbrev s__law_are_right : Stmt := top 64
abbrev s__law_right : Stmt := top 65
abbrev s_law : Stmt := top 66
def d_is_integer : He.DefD := ⟨("is_integer", none), "is_integer", "is_integer", defArgs s_is_integer, defBody s_is_integer, defScope s_is_integer, [], []⟩
def d_is_between : He.DefD := ⟨("is_between", none), "is_between", "is_between", defArgs s_is_between, defBody s_is_between, defScope s_is_between, [], []⟩
def d_are_between : He.DefD := ⟨("are_between", none), "are_between", "are_between", defArgs s_are_between, defBody s_are_between, defScope s_are_between, [], []⟩
def d_is_ascending : He.DefD := ⟨("is_ascending", none), "is_ascending", "is_ascending", defArgs s_is_ascending, defBody s_is_ascending, defScope s_is_ascending, [], []⟩
def d_is_web : He.DefD := ⟨("is_web", none), "is_web", "is_web", defArgs s_is_web, defBody s_is_web, defScope s_is_web, [], []⟩
def d_check_web : He.DefD := ⟨("check_web", none), "check_web", "check_web", defArgs s_check_web, defBody s_check_web, defScope s_check_web, [], []⟩
def d_check_numbers : He.DefD := ⟨("check_numbers", none), "check_numbers", "check_numbers", defArgs s_check_numbers, defBody s_check_numbers, defScope s_check_numbers, [], []⟩
def d_sums_at : He.DefD := ⟨("sums_at", none), "sums_at", "sums_at", defArgs s_sums_at, defBody s_sums_at, defScope s_sums_at, [], []⟩
def d_room_sums : He.DefD := ⟨("room_sums", none), "room_sums", "room_sums", defArgs s_room_sums, defBody s_room_sums, defScope s_room_sums, [], []⟩
def d_alike_told : He.DefD := ⟨("alike_told", none), "alike_told", "alike_told", defArgs s_alike_told, defBody s_alike_told, defScope s_alike_told, [], []⟩
def d_shows_alike : He.DefD := ⟨("shows_alike", none), "shows_alike", "shows_alike", defArgs s_shows_alike, defBody s_shows_alike, defScope s_shows_alike, [], []⟩
def d_is_factor_of : He.DefD := ⟨("is_factor_of", none), "is_factor_of", "is_factor_of", defArgs s_is_factor_of, defBody s_is_factor_of, defScope s_is_factor_of, [], []⟩
def d_is_factor : He.DefD := ⟨("is_factor", none), "is_factor", "is_factor", defArgs s_is_factor, defBody s_is_factor, defScope s_is_factor, [], []⟩
def d_numbers_by : He.DefD := ⟨("numbers_by", none), "numbers_by", "numbers_by", defArgs s_numbers_by, defBody s_numbers_by, defScope s_numbers_by, [], []⟩
def d_factor_numbers : He.DefD := ⟨("factor_numbers", none), "factor_numbers", "factor_numbers", defArgs s_factor_numbers, defBody s_factor_numbers, defScope s_factor_numbers, [], []⟩
def d_last_doors : He.DefD := ⟨("last_doors", none), "last_doors", "last_doors", defArgs s_last_doors, defBody s_last_doors, defScope s_last_doors, [], []⟩
def d_is_let : He.DefD := ⟨("is_let", none), "is_let", "is_let", defArgs s_is_let, defBody s_is_let, defScope s_is_let, [], []⟩
def d_factors_of : He.DefD := ⟨("factors_of", none), "factors_of", "factors_of", defArgs s_factors_of, defBody s_factors_of, defScope s_factors_of, [], []⟩
def d_steps_on : He.DefD := ⟨("steps_on", none), "steps_on", "steps_on", defArgs s_steps_on, defBody s_steps_on, defScope s_steps_on, [], []⟩
def d_factors : He.DefD := ⟨("factors", none), "factors", "factors", defArgs s_factors, defBody s_factors, defScope s_factors, [], []⟩
def d_rows_of : He.DefD := ⟨("rows_of", none), "rows_of", "rows_of", defArgs s_rows_of, defBody s_rows_of, defScope s_rows_of, [], []⟩
def d_at_door : He.DefD := ⟨("at_door", none), "at_door", "at_door", defArgs s_at_door, defBody s_at_door, defScope s_at_door, [], []⟩
def d_bare_doors : He.DefD := ⟨("bare_doors", none), "bare_doors", "bare_doors", defArgs s_bare_doors, defBody s_bare_doors, defScope s_bare_doors, [], []⟩
def d_like_doors : He.DefD := ⟨("like_doors", none), "like_doors", "like_doors", defArgs s_like_doors, defBody s_like_doors, defScope s_like_doors, [], []⟩
def d_enough : He.DefD := ⟨("enough", none), "enough", "enough", defArgs s_enough, defBody s_enough, defScope s_enough, [], []⟩
def d_summed : He.DefD := ⟨("summed", none), "summed", "summed", defArgs s_summed, defBody s_summed, defScope s_summed, [], []⟩
def d_are_numbers : He.DefD := ⟨("are_numbers", none), "are_numbers", "are_numbers", defArgs s_are_numbers, defBody s_are_numbers, defScope s_are_numbers, [], []⟩
def d_web_told : He.DefD := ⟨("web_told", none), "web_told", "web_told", defArgs s_web_told, defBody s_web_told, defScope s_web_told, [], []⟩
def d_is_bar : He.DefD := ⟨("is_bar", none), "is_bar", "is_bar", defArgs s_is_bar, defBody s_is_bar, defScope s_is_bar, [], []⟩
def d_shows_web : He.DefD := ⟨("shows_web", none), "shows_web", "shows_web", defArgs s_shows_web, defBody s_shows_web, defScope s_shows_web, [], []⟩
def d_even_told : He.DefD := ⟨("even_told", none), "even_told", "even_told", defArgs s_even_told, defBody s_even_told, defScope s_even_told, [], []⟩
def d_shows_even : He.DefD := ⟨("shows_even", none), "shows_even", "shows_even", defArgs s_shows_even, defBody s_shows_even, defScope s_shows_even, [], []⟩
def d_without : He.DefD := ⟨("without", none), "without", "without", defArgs s_without, defBody s_without, defScope s_without, [], []⟩
def d_rank_of : He.DefD := ⟨("rank_of", none), "rank_of", "rank_of", defArgs s_rank_of, defBody s_rank_of, defScope s_rank_of, [], []⟩
def d_space : He.DefD := ⟨("space", none), "space", "space", defArgs s_space, defBody s_space, defScope s_space, [], []⟩
def d__law_pot : He.DefD := ⟨("_law_pot", none), "_law_pot", "_law_pot", defArgs s__law_pot, defBody s__law_pot, defScope s__law_pot, [], []⟩
def d__law_take : He.DefD := ⟨("_law_take", none), "_law_take", "_law_take", defArgs s__law_take, defBody s__law_take, defScope s__law_take, [], []⟩
def d__law_of : He.DefD := ⟨("_law_of", none), "_law_of", "_law_of", defArgs s__law_of, defBody s__law_of, defScope s__law_of, [], []⟩
def d__law_cells : He.DefD := ⟨("_law_cells", none), "_law_cells", "_law_cells", defArgs s__law_cells, defBody s__law_cells, defScope s__law_cells, [], []⟩
def d__law_is_int : He.DefD := ⟨("_law_is_int", none), "_law_is_int", "_law_is_int", defArgs s__law_is_int, defBody s__law_is_int, defScope s__law_is_int, [], []⟩
def d__law_caught : He.DefD := ⟨("_law_caught", none), "_law_caught", "_law_caught", defArgs s__law_caught, defBody s__law_caught, defScope s__law_caught, [], []⟩
def d__law_word_of : He.DefD := ⟨("_law_word_of", none), "_law_word_of", "_law_word_of", defArgs s__law_word_of, defBody s__law_word_of, defScope s__law_word_of, [], []⟩
def d__law_is_due : He.DefD := ⟨("_law_is_due", none), "_law_is_due", "_law_is_due", defArgs s__law_is_due, defBody s__law_is_due, defScope s__law_is_due, [], []⟩
def d__law_is_web : He.DefD := ⟨("_law_is_web", none), "_law_is_web", "_law_is_web", defArgs s__law_is_web, defBody s__law_is_web, defScope s__law_is_web, [], []⟩
def d__law_are_right : He.DefD := ⟨("_law_are_right", none), "_law_are_right", "_law_are_right", defArgs s__law_are_right, defBody s__law_are_right, defScope s__law_are_right, [], []⟩
def d__law_right : He.DefD := ⟨("_law_right", none), "_law_right", "_law_right", defArgs s__law_right, defBody s__law_right, defScope s__law_right, [], []⟩
def d_law : He.DefD := ⟨("law", none), "law", "law", defArgs s_law, defBody s_law, defScope s_law, [], []⟩
def fn : List He.DefD := [d_is_integer, d_is_between, d_are_between, d_is_ascending, d_is_web, d_check_web, d_check_numbers, d_sums_at, d_room_sums, d_alike_told, d_shows_alike, d_is_factor_of, d_is_factor, d_numbers_by, d_factor_numbers, d_last_doors, d_is_let, d_factors_of, d_steps_on, d_factors, d_rows_of, d_at_door, d_bare_doors, d_like_doors, d_enough, d_summed, d_are_numbers, d_web_told, d_is_bar, d_shows_web, d_even_told, d_shows_even, d_without, d_rank_of, d_space, d__law_pot, d__law_take, d__law_of, d__law_cells, d__law_is_int, d__law_caught, d__law_word_of, d__law_is_due, d__law_is_web, d__law_are_right, d__law_right, d_law]
def fa : List He.Fa := [.glo "is_integer", .glo "is_between", .glo "are_between", .glo "is_ascending", .glo "is_web", .glo "check_web", .glo "check_numbers", .glo "sums_at", .glo "room_sums", .glo "alike_told", .glo "shows_alike", .glo "is_factor_of", .glo "is_factor", .glo "numbers_by", .glo "factor_numbers", .glo "last_doors", .glo "is_let", .glo "factors_of", .glo "steps_on", .glo "factors", .glo "rows_of", .glo "at_door", .glo "bare_doors", .glo "like_doors", .glo "enough", .glo "summed", .glo "are_numbers", .glo "web_told", .glo "is_bar", .glo "shows_web", .glo "even_told", .glo "shows_even", .glo "without", .glo "rank_of", .glo "space", .glo "_law_pot", .glo "_law_take", .glo "_law_of", .glo "_law_cells", .glo "_law_is_int", .glo "_law_caught", .glo "_law_word_of", .glo "_law_is_due", .glo "_law_is_web", .glo "_law_are_right", .glo "_law_right", .glo "law", .free "ValueError", .free "abs", .free "all", .free "any", .free "bool", .free "enumerate", .free "int", .free "isinstance", .free "len", .free "list", .free "max", .free "min", .free "range", .free "repr", .free "set", .free "sorted", .free "str", .free "sum", .free "super", .free "tuple", .free "zip", .int "MOST_ROOMS" 8, .int "MOST_DOORS" 16, .int "MOST_ENTRY" 1000000000, .int "THREE_webs" 3, .str "SUM" "sum", .str "ROOMS" "rooms", .int "THREE_doors" 3, .str "NUMBERS" "numbers", .str "DOOR" "door", .str "TWO" "two"]
def nm0 : List PySem.Str := ["SquareError", "BadFactor", "BadNumbers", "BadWeb", "is_integer", "is_between", "are_between", "is_ascending", "MOST_ROOMS", "MOST_DOORS", "MOST_ENTRY", "THREE_webs", "SUM", "ROOMS", "is_web", "check_web", "check_numbers", "sums_at", "room_sums", "alike_told", "shows_alike", "is_factor_of", "is_factor", "numbers_by", "factor_numbers", "last_doors", "is_let", "factors_of", "steps_on", "factors"]
def nm1 : List PySem.Str := ["THREE_doors", "NUMBERS", "DOOR", "TWO", "rows_of", "at_door", "bare_doors", "like_doors", "enough", "summed", "are_numbers", "web_told", "is_bar", "shows_web", "even_told", "shows_even", "without", "rank_of", "space", "_law_pot", "_law_take", "_law_of", "_law_cells", "_law_is_int", "_law_caught", "_law_word_of", "_law_is_due", "_law_is_web", "_law_are_right", "_law_right"]
def nm : List PySem.Str := nm0 ++ nm1
open VL (D)
def cts : List (Str × D) := []
def cks : List (Str × List (Int × D)) := []
abbrev R : PySem.W.OpenRow := PySem.W.OpenLaw.row PySem.Challenge.rw_everyrowalike_k53_webs_and_numbers_refus
def initOf (s : Stmt) : Stmt := match s with
  | .ClassDef _ _ _ b _ _ _ _ _ _ _ => b.getD 0 (.Pass ⟨0, 0, 0, 0⟩)
  | _ => .Pass ⟨0, 0, 0, 0⟩
abbrev s_init : Stmt := initOf (top 1)
def exs : List Str := ["BadFactor", "BadNumbers", "BadWeb"]
def tf : List Str := ["_law_are_right"]
def ask : VL.Asked := ⟨fa, fn, cts, cks, s_init, R.prog.main.file, exs, tf⟩
abbrev hk : PySem.W.Hook := VL.hookL 4 ask
def ob (s : PySem.W.SharedT) : VL.AlL := VL.obsL 4 ask (HandSHeadRun.getT s)
theorem ob_eq (s : PySem.W.SharedT) : ob s = hk.obs s.abs := VL.obsL_eq (HandSHeadRun.getT_eq s)
open PySem PySem.W PySem.Calls PyProof.Rows in
/-- one thing that is looked at behind the head's run -/
def RunP {β : Type} (f : PySem.W.SharedT → β) (v : β) (w : World) : Prop := ∀ os : OsState, (HandSHeadRun.endF (HandSHeadRun.stepQ (HandSHeadRun.denQ HandSHeadRun.tabQ) R.prog w) 5000 R.prog w os).map f = some v
open PySem PySem.W PySem.Calls PyProof.Rows in
abbrev RunA (w : World) : Prop := RunP (fun s => (HandSHeadRun.looksF R.prog (boot_heap w.params) s.abs, HandSHeadRun.seenQ (PySem.W.view R.prog [66]) nm (importedModules R.prog.main.body) (fun s => xlAt (PySem.W.view R.prog [66]) [] s && recOk R.toRowW.records s) s.abs)) (true, openGood (PySem.W.view R.prog [66]) nm) w
abbrev RunB (w : World) : Prop := RunP (fun s => (ob s).1.1) true w
abbrev RunC (w : World) : Prop := RunP (fun s => (ob s).1.2) (He.valD fn).2 w
abbrev RunD (w : World) : Prop := RunP (fun s => (ob s).2) (VL.valL ask).2 w
theorem run_of {w : World} (h0 : RunA w) (h1 : RunB w) (h2 : RunC w) (h3 : RunD w) : HandSHeadRun.RunEq R (PySem.W.view R.prog [66]) hk ob 5000 nm w := by
  intro os
  have e0 := h0 os
  have e1 := h1 os
  have e2 := h2 os
  have e3 := h3 os
  cases e : HandSHeadRun.endF (HandSHeadRun.stepQ (HandSHeadRun.denQ HandSHeadRun.tabQ) R.prog w) 5000 R.prog w os with
  | none =>
    rw [e] at e0
    cases e0
  | some s =>
    rw [e] at e0 e1 e2 e3
    rw [Option.map_some] at e0 e1 e2 e3 ⊢
    obtain ⟨a, b⟩ := Prod.mk.inj (Option.some.inj e0)
    exact congrArg some (congr (congrArg Prod.mk a) (congr (congrArg Prod.mk b) (Prod.ext (Prod.ext (Option.some.inj e1) (Option.some.inj e2)) (Option.some.inj e3))))
theorem runA (w : World) : RunA w := by
  intro os
  kernel_rfl
theorem runB (w : World) : RunB w := by
  intro os
  kernel_rfl
theorem runC (w : World) : RunC w := by
  intro os
  kernel_rfl
theorem runD (w : World) : RunD w := by
  intro os
  kernel_rfl
theorem run (w : World) : HandSHeadRun.RunEq R (PySem.W.view R.prog [66]) hk ob 5000 nm w := run_of (runA w) (runB w) (runC w) (runD w)
end K53
namespace VL
open PySem PySem.Spec L2

theorem vLc_run {α : Type} {ti : VTI} {g : VTG} {te : VTE} {vs : List Nat} {e : VEnv} {M : Mem} {Q : VL.VK} {w : VIt} (xs : List α) (f : α → D) (P : Nat → List D → Mem → Prop) (hi : ∀ R : VIt → Mem → Prop, R w M → ti e M R) (hw : w.ds = xs.map f) (hl : xs.length < sizeLine)
    (hok : ∀ i acc M', P i acc M' → w.ok M') (h0 : P 0 [] M)
    (ht : ∀ i x acc M', xs[i]? = some x → i < xs.length → acc.length = i → P i acc M' → ∀ A : D → Mem → Prop, (∀ y M4, P (i + 1) (acc ++ [y]) M4 → A y M4) → g (f x) (vwipe e vs) M' fun e2 M2 => te e2 M2 A)
    (hd : ∀ acc M', acc.length = xs.length → P xs.length acc M' → Q (.lst acc) M') : vLc ti g vYes te vs e M Q := by
  have hlw : w.ds.length = xs.length := by rw [hw, List.length_map]
  refine hi _ ⟨fun i acc M' => acc.length = i ∧ P i acc M', ⟨rfl, h0⟩, fun i acc M' _ z => hok i acc M' z.2, fun i d acc M' hd' ⟨e1, hp⟩ => ?_, fun acc M' ⟨e1, hp⟩ => ?_⟩
  · rw [hw, List.getElem?_map] at hd'
    cases hx : xs[i]? with
    | none => rw [hx] at hd'; cases hd'
    | some x =>
      rw [hx] at hd'
      cases hd'
      have hlt : i < xs.length := by
        rcases Nat.lt_or_ge i xs.length with h1 | h1
        · exact h1
        · rw [List.getElem?_eq_none h1] at hx; cases hx
      have := ht i x acc M' hx hlt e1 hp (fun y M4 => acc.length < sizeLine ∧ (acc ++ [y]).length = i + 1 ∧ P (i + 1) (acc ++ [y]) M4) (fun y M4 q => ⟨by omega, by rw [List.length_append, e1]; rfl, q⟩)
      simpa using this
  · rw [hlw] at e1 hp
    exact hd acc M' e1 hp
/-- .. the list may change afterwards -/
theorem vLcO_run {α : Type} {ti : VTI} {g : VTG} {te : VTE} {vs : List Nat} {e : VEnv} {M : Mem} {Q : VL.VK} {w : VIt} (xs : List α) (f : α → D) (P : Nat → List D → Mem → Prop) (hi : ∀ R : VIt → Mem → Prop, R w M → ti e M R) (hw : w.ds = xs.map f) (hl : xs.length < sizeLine)
    (hok : ∀ i acc M', P i acc M' → w.ok M') (h0 : P 0 [] M)
    (ht : ∀ i x acc M', xs[i]? = some x → i < xs.length → acc.length = i → P i acc M' → ∀ A : D → Mem → Prop, (∀ y M4, P (i + 1) (acc ++ [y]) M4 → A y M4) → g (f x) (vwipe e vs) M' fun e2 M2 => te e2 M2 A)
    (hd : ∀ acc M', acc.length = xs.length → P xs.length acc M' → ∀ p, M' p = none → Q (.obj p) (mupd M' p (.lst acc))) : vLcO ti g vYes te vs e M Q := by
  have hlw : w.ds.length = xs.length := by rw [hw, List.length_map]
  refine hi _ ⟨fun i acc M' => acc.length = i ∧ P i acc M', ⟨rfl, h0⟩, fun i acc M' _ z => hok i acc M' z.2, fun i d acc M' hd' ⟨e1, hp⟩ => ?_, fun acc M' ⟨e1, hp⟩ => ?_⟩
  · rw [hw, List.getElem?_map] at hd'
    cases hx : xs[i]? with
    | none => rw [hx] at hd'; cases hd'
    | some x =>
      rw [hx] at hd'
      cases hd'
      have hlt : i < xs.length := by
        rcases Nat.lt_or_ge i xs.length with h1 | h1
        · exact h1
        · rw [List.getElem?_eq_none h1] at hx; cases hx
      have := ht i x acc M' hx hlt e1 hp (fun y M4 => acc.length < sizeLine ∧ (acc ++ [y]).length = i + 1 ∧ P (i + 1) (acc ++ [y]) M4) (fun y M4 q => ⟨by omega, by rw [List.length_append, e1]; rfl, q⟩)
      simpa using this
  · rw [hlw] at e1 hp
    exact hd acc M' e1 hp
@[simp] theorem vVal_exc {K : PySem.W.Frag} {te : VTE} {e : VEnv} {M : Mem} {Q : VL.VK} : vVal K te e M Q ↔ te e M fun d M1 => ∃ C y, d = .exc C y ∧ XfC K C ∧ PySem.W.findIn K (.ref C) "value" = some none ∧ Q y M1 := Iff.rfl
end VL
namespace VL
open PySem PySem.Spec L2
theorem pys_map (xs : List D) : pys xs = xs.map py := by
  induction xs with
  | nil => simp [pys]
  | cons x xs ih => simp [pys, ih]
theorem shownAll_map (xs : List PyData) : PyData.shownAll xs = xs.map PyData.shown := by
  induction xs with
  | nil => simp [PyData.shownAll]
  | cons x xs ih => simp [PyData.shownAll, ih]
theorem showableAll_all (xs : List PyData) : PyData.showableAll xs = xs.all PyData.showable := by
  induction xs with
  | nil => simp [PyData.showableAll]
  | cons x xs ih => simp [PyData.showableAll, ih]
theorem piled_le (k : Nat) : ∀ {ts : List Str}, (∀ t ∈ ts, t.length ≤ k) → piled ts ≤ ts.length * (k + 2)
  | [], _ => by simp [piled]
  | t :: ts, h => by
    have h1 := h t List.mem_cons_self
    have h2 := piled_le k (ts := ts) fun x hx => h x (List.mem_cons_of_mem _ hx)
    rw [piled_cons, List.length_cons, Nat.succ_mul]
    omega
theorem shown_tup {xs : List D} {k : Nat} (h : ∀ x ∈ xs, (py x).shown.length ≤ k) : (py (.tup xs)).shown.length ≤ xs.length * (k + 2) + 5 := by
  have e : (py (.tup xs)).shown = tupleText (xs.map fun x => (py x).shown) := by
    simp only [py, PyData.shown]
    rw [pys_map, shownAll_map, List.map_map]
    rfl
  rw [e]
  have hp := piled_le (ts := xs.map fun x => (py x).shown) k fun t ht => by
    obtain ⟨x, hx, rfl⟩ := List.mem_map.mp ht
    exact h x hx
  rw [List.length_map] at hp
  generalize (xs.map fun x => (py x).shown) = ts at *
  unfold tupleText
  rw [strLen_append, strLen_append]
  have e1 : ((("(" : String) : Str)).length = 1 := rfl
  have e3 : (((if ts.length == 1 then ",)" else ")" : String) : Str)).length ≤ 2 := by split <;> decide
  rw [e1]
  by_cases z : ts = []
  · subst z
    have : (Str.join ", " ([] : List Str)).length = 0 := rfl
    omega
  · have := join_length_add ts z
    omega
theorem shown_int {i : Int} (h : i.natAbs.log2 < 1920) : (py (.int i)).shown.length ≤ 1921 := by
  simp only [py, PyData.shown]
  exact PyProof.Rows.int_text_len_1921 h
/-- rows of rows of numbers -/
def rowsD (m : List (List Int)) : D := .tup (m.map fun r => .tup (r.map D.int))
theorem log2_lt {i : Int} (h : -1000000000000 ≤ i ∧ i ≤ 1000000000000) : i.natAbs.log2 < 1920 := by
  have h1 : i.natAbs ≤ 1000000000000 := by omega
  by_cases z : i.natAbs = 0
  · rw [z]; decide
  · rw [Nat.log2_lt z]
    exact Nat.lt_of_le_of_lt h1 (by decide +kernel)
theorem repr_rows {m : List (List Int)} {M : Mem} {Q : VL.VK} (h1 : m.length ≤ 100) (h2 : ∀ r ∈ m, r.length ≤ 50 ∧ ∀ x ∈ r, -1000000000000 ≤ x ∧ x ≤ 1000000000000) (q : Q (.str (py (rowsD m)).shown) M) : rRepr [rowsD m] M Q := by
  show Sh 30 (fz M (rowsD m)) ∧ _ ∧ _ ∧ _
  have e : fz M (rowsD m) = rowsD m := rfl
  rw [e]
  refine ⟨fun x hx => ?_, ?_, ?_, q⟩
  · obtain ⟨r, hr, rfl⟩ := List.mem_map.mp hx
    exact sh_tup fun y hy => by
      obtain ⟨i, _, rfl⟩ := List.mem_map.mp hy
      exact sh_int
  · simp only [rowsD, py, PyData.showable]
    rw [pys_map, showableAll_all, List.all_map, List.all_map, List.all_eq_true]
    intro r hr
    simp only [Function.comp_def, py, PyData.showable]
    rw [pys_map, showableAll_all, List.all_map, List.all_map, List.all_eq_true]
    intro x hx
    simp only [Function.comp_def, py, PyData.showable]
    exact decide_eq_true (log2_lt ((h2 r hr).2 x hx))
  · have := shown_tup (xs := m.map fun r : List Int => D.tup (r.map D.int)) (k := 100000) fun d hd => by
      obtain ⟨r, hr, rfl⟩ := List.mem_map.mp hd
      have := shown_tup (xs := r.map D.int) (k := 1921) fun d hd => by
        obtain ⟨x, hx, rfl⟩ := List.mem_map.mp hd
        exact shown_int (log2_lt ((h2 r hr).2 x hx))
      rw [List.length_map] at this
      have := (h2 r hr).1
      omega
    rw [List.length_map] at this
    have e2 : (rowsD m) = .tup (m.map fun r : List Int => D.tup (r.map D.int)) := rfl
    rw [e2]
    omega
theorem repr_int {i : Int} {M : Mem} {Q : VL.VK} (h : -1000000000000 ≤ i ∧ i ≤ 1000000000000) (q : Q (.str (py (.int i)).shown) M) : rRepr [.int i] M Q := by
  refine ⟨sh_int, ?_, ?_, q⟩
  · show PyData.showable (py (.int i)) = true
    simp only [py, PyData.showable]
    exact decide_eq_true (log2_lt h)
  · have := shown_int (log2_lt h)
    show (py (.int i)).shown.length ≤ _
    omega
end VL
namespace VL
open PySem PySem.Spec L2
open PySem.Builtin.Str (reprChar)
/-- signs that are shown as they are -/
def okC (c : Nat) : Bool := decide (32 ≤ c) && decide (c < 127) && decide (c ≠ 39) && decide (c ≠ 92) && decide (c ≠ 34)
def plS (x : Str) : Bool := x.cps.toList.all okC
theorem print_ok : ∀ c, c < 127 → 32 ≤ c → Unicode.isPrintable c = true := by decide +kernel
theorem reprChar_ok {c : Nat} (h : okC c = true) : reprChar 39 c = [c] := by
  simp only [okC, Bool.and_eq_true, decide_eq_true_eq] at h
  obtain ⟨⟨⟨⟨h1, h2⟩, h3⟩, h4⟩, h5⟩ := h
  unfold reprChar
  have e1 : (c == 39 || c == 92) = false := by simp [h3, h4]
  have e2 : (c == 10) = false := by simp; omega
  have e3 : (c == 13) = false := by simp; omega
  have e4 : (c == 9) = false := by simp; omega
  simp [e1, e2, e3, e4, print_ok c h2 h1]
theorem foldl_ok : ∀ (l : List Nat) (acc : Array Nat), (∀ c ∈ l, okC c = true) → (l.foldl (fun out c => out ++ (reprChar 39 c).toArray) acc).toList = acc.toList ++ l
  | [], acc, _ => by simp
  | c :: l, acc, h => by
    rw [List.foldl_cons, foldl_ok l _ fun x hx => h x (List.mem_cons_of_mem _ hx), reprChar_ok (h c List.mem_cons_self)]
    simp
theorem reprText_ok {x : Str} (h : plS x = true) : (reprText x).cps.toList = 39 :: x.cps.toList ++ [39] := by
  unfold plS at h
  rw [List.all_eq_true] at h
  have q : reprQuote x = 39 := by
    unfold reprQuote
    have : x.cps.contains 39 = false := by
      rw [Bool.eq_false_iff]
      intro z
      have hm : (39 : Nat) ∈ x.cps.toList := by simpa using z
      have := h 39 hm
      simp [okC] at this
    rw [this]
    rfl
  unfold reprText
  rw [q, ← Array.foldl_toList]
  simp only [Array.toList_push]
  rw [foldl_ok _ _ h]
  rfl
def intCh (i : Int) : List Nat := ((toString i : String) : Str).cps.toList
def clT (n : Nat) : List Nat := if n = 1 then [44, 41] else [41]
mutual
def ch : PyData → List Nat
  | .none => [78, 111, 110, 101]
  | .bool b => if b then [84, 114, 117, 101] else [70, 97, 108, 115, 101]
  | .int i => intCh i
  | .str x => 39 :: (x.cps.toList ++ [39])
  | .list xs => 91 :: (chs xs ++ [93])
  | .tuple xs => 40 :: (chs xs ++ clT xs.length)
  | .dict kvs => (PyData.dict kvs).shown.cps.toList
def chs : List PyData → List Nat
  | [] => []
  | x :: xs => ch x ++ tls xs
def tls : List PyData → List Nat
  | [] => []
  | x :: xs => 44 :: 32 :: (ch x ++ tls xs)
end
mutual
def plP : PyData → Bool
  | .none => true
  | .bool _ => true
  | .int _ => true
  | .str x => plS x
  | .list xs => plPs xs
  | .tuple xs => plPs xs
  | .dict _ => true
def plPs : List PyData → Bool
  | [] => true
  | x :: xs => plP x && plPs xs
end
theorem join_tls : ∀ (x : PyData) (xs : List PyData), (∀ y ∈ x :: xs, y.shown.cps.toList = ch y) → (Str.join ", " ((x :: xs).map PyData.shown)).cps.toList = ch x ++ tls xs
  | x, [], h => by
    show x.shown.cps.toList = _
    rw [h x List.mem_cons_self, tls, List.append_nil]
  | x, y :: xs, h => by
    show (x.shown ++ ", " ++ Str.join ", " ((y :: xs).map PyData.shown)).cps.toList = _
    rw [PyProof.Rows.cps_toList_append, PyProof.Rows.cps_toList_append, join_tls y xs fun z hz => h z (List.mem_cons_of_mem _ hz), h x List.mem_cons_self, tls]
    have e : (((", " : String) : Str)).cps.toList = [44, 32] := by decide +kernel
    rw [e]
    simp
theorem join_chs (xs : List PyData) (h : ∀ y ∈ xs, y.shown.cps.toList = ch y) : (Str.join ", " (xs.map PyData.shown)).cps.toList = chs xs := by
  cases xs with
  | nil => rfl
  | cons x xs => rw [join_tls x xs h, chs]
theorem from_tls : ∀ (xs : List PyData) (k : Nat) (acc : Str), 0 < k → (∀ y ∈ xs, y.shown.cps.toList = ch y) → (textFrom k acc (xs.map PyData.shown)).cps.toList = acc.cps.toList ++ tls xs
  | [], k, acc, _, _ => by
    show acc.cps.toList = _
    rw [tls, List.append_nil]
  | x :: xs, k, acc, hk, h => by
    show (textFrom (k + 1) (acc ++ (if k > 0 then ", " else "" : String) ++ x.shown) (xs.map PyData.shown)).cps.toList = _
    rw [from_tls xs (k + 1) _ (by omega) fun z hz => h z (List.mem_cons_of_mem _ hz), PyProof.Rows.cps_toList_append, PyProof.Rows.cps_toList_append, h x List.mem_cons_self, tls, if_pos hk]
    have e : (((", " : String) : Str)).cps.toList = [44, 32] := by decide +kernel
    rw [e]
    simp
theorem from_chs (acc : Str) (xs : List PyData) (h : ∀ y ∈ xs, y.shown.cps.toList = ch y) : (textFrom 0 acc (xs.map PyData.shown)).cps.toList = acc.cps.toList ++ chs xs := by
  cases xs with
  | nil => show acc.cps.toList = _; rw [chs, List.append_nil]
  | cons x xs =>
    show (textFrom 1 (acc ++ (if (0 : Nat) > 0 then ", " else "" : String) ++ x.shown) (xs.map PyData.shown)).cps.toList = _
    rw [from_tls xs 1 _ (by omega) fun z hz => h z (List.mem_cons_of_mem _ hz), PyProof.Rows.cps_toList_append, PyProof.Rows.cps_toList_append, h x List.mem_cons_self, chs, if_neg (by omega)]
    have e : ((("" : String) : Str)).cps.toList = [] := by decide +kernel
    rw [e]
    simp
mutual
theorem shown_ch : ∀ d : PyData, plP d = true → d.shown.cps.toList = ch d
  | .none, _ => by simp only [PyData.shown, ch]; decide +kernel
  | .bool b, _ => by cases b <;> (simp only [PyData.shown, ch]; decide +kernel)
  | .int i, _ => by simp only [PyData.shown, ch]; rfl
  | .str x, h => by
    simp only [PyData.shown, ch]
    rw [reprText_ok (by simpa [plP] using h)]
    rfl
  | .list xs, h => by
    simp only [PyData.shown, ch]
    rw [shownAll_map]
    have := from_chs (("[" : String) : Str) xs (shown_chs xs (by simpa [plP] using h))
    unfold listText
    rw [PyProof.Rows.cps_toList_append, this]
    have e1 : ((("[" : String) : Str)).cps.toList = [91] := by decide +kernel
    have e2 : ((("]" : String) : Str)).cps.toList = [93] := by decide +kernel
    rw [e1, e2]
    simp
  | .tuple xs, h => by
    simp only [PyData.shown, ch]
    rw [shownAll_map]
    have := join_chs xs (shown_chs xs (by simpa [plP] using h))
    unfold tupleText
    rw [PyProof.Rows.cps_toList_append, PyProof.Rows.cps_toList_append, this]
    have e1 : ((("(" : String) : Str)).cps.toList = [40] := by decide +kernel
    have e2 : ((((if (xs.map PyData.shown).length == 1 then ",)" else ")" : String)) : Str)).cps.toList = clT xs.length := by
      rw [List.length_map]
      unfold clT
      by_cases z : xs.length = 1
      · rw [z]; decide +kernel
      · rw [if_neg (by simpa using z), if_neg z]; decide +kernel
    rw [e1, e2]
    simp
  | .dict kvs, _ => by simp only [ch]
theorem shown_chs : ∀ xs : List PyData, plPs xs = true → ∀ y ∈ xs, y.shown.cps.toList = ch y
  | [], _, _, hy => nomatch hy
  | x :: xs, h, y, hy => by
    simp only [plPs, Bool.and_eq_true] at h
    exact match List.mem_cons.mp hy with
    | .inl e => e ▸ shown_ch x h.1
    | .inr hy => shown_chs xs h.2 y hy
end
theorem pre_eq {P : Nat → Prop} : ∀ {a b r s : List Nat}, (∀ c ∈ a, P c) → (∀ c ∈ b, P c) → (∀ c l, r = c :: l → ¬ P c) → (∀ c l, s = c :: l → ¬ P c) → a ++ r = b ++ s → a = b ∧ r = s
  | [], [], r, s, _, _, _, _, h => ⟨rfl, h⟩
  | [], c :: b, r, s, _, hb, hr, _, h => absurd (hb c List.mem_cons_self) (hr c (b ++ s) h)
  | c :: a, [], r, s, ha, _, _, hs, h => absurd (ha c List.mem_cons_self) (hs c (a ++ r) h.symm)
  | c :: a, d :: b, r, s, ha, hb, hr, hs, h => by
    rw [List.cons_append, List.cons_append] at h
    injection h with h1 h2
    obtain ⟨e1, e2⟩ := pre_eq (fun x hx => ha x (List.mem_cons_of_mem _ hx)) (fun x hx => hb x (List.mem_cons_of_mem _ hx)) hr hs h2
    exact ⟨by rw [h1, e1], e2⟩
def numC (c : Nat) : Prop := c = 45 ∨ (48 ≤ c ∧ c ≤ 57)
theorem intCh_num (i : Int) : ∀ c ∈ intCh i, numC c := by
  intro c hc
  unfold intCh at hc
  rw [PyProof.Rows.signs_ofString] at hc
  obtain ⟨k, hk, rfl⟩ := List.mem_map.mp hc
  rcases PyProof.Rows.int_sign i k hk with hd | hd
  · exact .inr (PyProof.Rows.digit_range hd)
  · rw [hd]; exact .inl (by decide)
theorem intCh_nat (n : Nat) : intCh (n : Int) = TL.numL n := TL.tl_num n
theorem intCh_neg (n : Nat) : intCh (-((n + 1 : Nat) : Int)) = 45 :: TL.numL (n + 1) := by
  have h := TL.tl_num (n + 1)
  unfold intCh
  rw [PyProof.Rows.signs_ofString]
  have e : toString (-((n + 1 : Nat) : Int)) = "-" ++ toString (((n + 1 : Nat) : Int)) := rfl
  rw [e, String.toList_append, List.map_append]
  have h2 : (toString (((n + 1 : Nat) : Int))).toList.map Char.toNat = TL.numL (n + 1) := by
    rw [← PyProof.Rows.signs_ofString]
    exact h
  rw [h2]
  rfl
theorem intCh_inj {i j : Int} (h : intCh i = intCh j) : i = j := by
  have neg : ∀ k : Int, k < 0 → ∃ n : Nat, k = -((n + 1 : Nat) : Int) := fun k hk => ⟨(-k - 1).toNat, by omega⟩
  have pos : ∀ k : Int, 0 ≤ k → ∃ n : Nat, k = (n : Int) := fun k hk => ⟨k.toNat, by omega⟩
  have no : ∀ n m : Nat, TL.numL n ≠ 45 :: TL.numL m := fun n m e => by
    have := TL.numL_free (n := n) (s := 45) (by decide)
    rw [e] at this
    exact this List.mem_cons_self
  rcases Int.lt_or_le i 0 with hi | hi
  · obtain ⟨n, rfl⟩ := neg i hi
    rcases Int.lt_or_le j 0 with hj | hj
    · obtain ⟨m, rfl⟩ := neg j hj
      rw [intCh_neg, intCh_neg] at h
      injection h with _ h
      have := TL.numL_inj h
      rw [this]
    · obtain ⟨m, rfl⟩ := pos j hj
      rw [intCh_neg, intCh_nat] at h
      exact absurd h.symm (no _ _)
  · obtain ⟨n, rfl⟩ := pos i hi
    rcases Int.lt_or_le j 0 with hj | hj
    · obtain ⟨m, rfl⟩ := neg j hj
      rw [intCh_neg, intCh_nat] at h
      exact absurd h (no _ _)
    · obtain ⟨m, rfl⟩ := pos j hj
      rw [intCh_nat, intCh_nat] at h
      rw [TL.numL_inj h]
theorem intCh_ne (i : Int) : ∃ c l, intCh i = c :: l ∧ numC c := by
  cases e : intCh i with
  | nil =>
    exfalso
    have neg : ∀ k : Int, k < 0 → ∃ n : Nat, k = -((n + 1 : Nat) : Int) := fun k hk => ⟨(-k - 1).toNat, by omega⟩
    have pos : ∀ k : Int, 0 ≤ k → ∃ n : Nat, k = (n : Int) := fun k hk => ⟨k.toNat, by omega⟩
    rcases Int.lt_or_le i 0 with hi | hi
    · obtain ⟨n, rfl⟩ := neg i hi
      rw [intCh_neg] at e
      cases e
    · obtain ⟨n, rfl⟩ := pos i hi
      rw [intCh_nat] at e
      exact TL.numL_ne n e
  | cons c l => exact ⟨c, l, rfl, intCh_num i c (by rw [e]; exact List.mem_cons_self)⟩
/-- after a shown thing: nothing, a comma or what closes -/
def Dl (r : List Nat) : Prop := ∀ c l, r = c :: l → c = 44 ∨ c = 41 ∨ c = 93
mutual
def noDc : PyData → Bool
  | .none => true
  | .bool _ => true
  | .int _ => true
  | .str _ => true
  | .list xs => noDcs xs
  | .tuple xs => noDcs xs
  | .dict _ => false
def noDcs : List PyData → Bool
  | [] => true
  | x :: xs => noDc x && noDcs xs
end
theorem join_cons_hd {t : Str} : ∃ l, (("{" : String) : Str).cps.toList ++ t.cps.toList = 123 :: l := ⟨t.cps.toList, by
  have e : ((("{" : String) : Str)).cps.toList = [123] := by decide +kernel
  rw [e]; rfl⟩
theorem ch_dict (kvs : List (PyData × PyData)) : ∃ l, ch (.dict kvs) = 123 :: l := by
  simp only [ch, PyData.shown]
  unfold dictText
  rw [PyProof.Rows.cps_toList_append, PyProof.Rows.cps_toList_append]
  have e : ((("{" : String) : Str)).cps.toList = [123] := by decide +kernel
  rw [e]
  exact ⟨_, rfl⟩
/-- how a shown thing begins -/
theorem ch_hd : ∀ d : PyData, ∃ c l, ch d = c :: l ∧ c ≠ 44 ∧ c ≠ 41 ∧ c ≠ 93
  | .none => ⟨_, _, by rw [ch], by decide, by decide, by decide⟩
  | .bool true => ⟨84, [114, 117, 101], by rw [ch]; rfl, by decide, by decide, by decide⟩
  | .bool false => ⟨70, [97, 108, 115, 101], by rw [ch]; rfl, by decide, by decide, by decide⟩
  | .int i => by
    obtain ⟨c, l, e, h⟩ := intCh_ne i
    refine ⟨c, l, by rw [ch]; exact e, ?_⟩
    unfold numC at h
    omega
  | .str x => ⟨_, _, by rw [ch], by decide, by decide, by decide⟩
  | .list xs => ⟨_, _, by rw [ch], by decide, by decide, by decide⟩
  | .tuple xs => ⟨_, _, by rw [ch], by decide, by decide, by decide⟩
  | .dict kvs => by
    obtain ⟨l, e⟩ := ch_dict kvs
    exact ⟨_, _, e, by decide, by decide, by decide⟩
def kd : PyData → Nat
  | .none => 0
  | .bool _ => 1
  | .int _ => 3
  | .str _ => 4
  | .list _ => 5
  | .tuple _ => 6
  | .dict _ => 7
def cls (c : Nat) : Nat := if c = 78 then 0 else if c = 84 then 1 else if c = 70 then 1 else if c = 39 then 4 else if c = 91 then 5 else if c = 40 then 6 else if c = 123 then 7 else 3
theorem ch_kd : ∀ d : PyData, ∃ c l, ch d = c :: l ∧ cls c = kd d
  | .none => ⟨_, _, by rw [ch], rfl⟩
  | .bool true => ⟨84, [114, 117, 101], by rw [ch]; rfl, rfl⟩
  | .bool false => ⟨70, [97, 108, 115, 101], by rw [ch]; rfl, rfl⟩
  | .int i => by
    obtain ⟨c, l, e, h⟩ := intCh_ne i
    refine ⟨c, l, by rw [ch]; exact e, ?_⟩
    unfold numC at h
    unfold cls
    repeat rw [if_neg (by omega)]
    rfl
  | .str x => ⟨_, _, by rw [ch], rfl⟩
  | .list xs => ⟨_, _, by rw [ch], rfl⟩
  | .tuple xs => ⟨_, _, by rw [ch], rfl⟩
  | .dict kvs => by
    obtain ⟨l, e⟩ := ch_dict kvs
    exact ⟨_, _, e, rfl⟩
theorem kd_eq {v t : PyData} {r s : List Nat} (h : ch v ++ r = ch t ++ s) : kd v = kd t := by
  obtain ⟨c, l, e, k⟩ := ch_kd v
  obtain ⟨c', l', e', k'⟩ := ch_kd t
  rw [e, e', List.cons_append, List.cons_append] at h
  injection h with h1 _
  rw [← k, ← k', h1]
def Cl (e : List Nat) : Prop := e = [93] ∨ e = [41] ∨ e = [44, 41]
theorem clT_cl (n : Nat) : Cl (clT n) := by
  unfold clT Cl
  split
  · exact .inr (.inr rfl)
  · exact .inr (.inl rfl)
theorem dl_tl {xs : List PyData} {e r : List Nat} (h : Cl e) : Dl (tls xs ++ (e ++ r)) := by
  intro c l q
  cases xs with
  | nil =>
    rw [tls, List.nil_append] at q
    rcases h with rfl | rfl | rfl <;> (injection q with q1 _; omega)
  | cons x xs =>
    rw [tls, List.cons_append] at q
    injection q with q1 _
    omega
theorem num_no {r : List Nat} (h : Dl r) : ∀ c l, r = c :: l → ¬ numC c := fun c l e z => by
  have := h c l e
  unfold numC at z
  omega
theorem q_no {r : List Nat} : ∀ c l, (39 :: r) = c :: l → ¬ (c ≠ 39) := fun c l e z => by
  injection e with e1 _
  exact z e1.symm
theorem pl_no {x : Str} (h : plS x = true) : ∀ c ∈ x.cps.toList, c ≠ 39 := fun c hc e => by
  have := List.all_eq_true.mp h c hc
  rw [e] at this
  simp [okC] at this
theorem cl_cat {n m : Nat} {r s : List Nat} (h : clT n ++ r = clT m ++ s) (e : n = m) : r = s := by
  rw [e] at h
  exact List.append_cancel_left h
mutual
theorem dec : ∀ (t v : PyData) (r s : List Nat), plP t = true → noDc t = true → plP v = true → Dl r → Dl s → ch v ++ r = ch t ++ s → v = t ∧ r = s
  | .none, v, r, s, _, _, _, _, _, h => by
    have k := kd_eq h
    cases v with
    | none => exact ⟨rfl, List.append_cancel_left h⟩
    | _ => simp [kd] at k
  | .bool b, v, r, s, _, _, _, _, _, h => by
    have k := kd_eq h
    cases v with
    | bool c =>
      cases b <;> cases c
      · exact ⟨rfl, List.append_cancel_left h⟩
      · rw [ch, ch] at h; simp at h
      · rw [ch, ch] at h; simp at h
      · exact ⟨rfl, List.append_cancel_left h⟩
    | _ => simp [kd] at k
  | .int i, v, r, s, _, _, _, hr, hs, h => by
    have k := kd_eq h
    cases v with
    | int j =>
      rw [ch, ch] at h
      obtain ⟨e1, e2⟩ := pre_eq (P := numC) (intCh_num j) (intCh_num i) (num_no hr) (num_no hs) h
      exact ⟨by rw [intCh_inj e1], e2⟩
    | _ => simp [kd] at k
  | .str x, v, r, s, ht, _, hv, hr, hs, h => by
    have k := kd_eq h
    cases v with
    | str y =>
      rw [ch, ch, List.cons_append, List.cons_append] at h
      injection h with _ h
      rw [List.append_assoc, List.append_assoc] at h
      obtain ⟨e1, e2⟩ := pre_eq (P := fun c => c ≠ 39) (pl_no (by simpa [plP] using hv)) (pl_no (by simpa [plP] using ht)) q_no q_no h
      exact ⟨by rw [TL.ext_tl e1], by injection e2⟩
    | _ => simp [kd] at k
  | .list ts, v, r, s, ht, nt, hv, hr, hs, h => by
    have k := kd_eq h
    cases v with
    | list vs =>
      rw [ch, ch, List.cons_append, List.cons_append] at h
      injection h with _ h
      rw [List.append_assoc, List.append_assoc] at h
      obtain ⟨e1, e2⟩ := decs ts vs [93] [93] r s (by simpa [plP] using ht) (by simpa [noDc] using nt) (by simpa [plP] using hv) (.inl rfl) (.inl rfl) h
      exact ⟨by rw [e1], by injection e2⟩
    | _ => simp [kd] at k
  | .tuple ts, v, r, s, ht, nt, hv, hr, hs, h => by
    have k := kd_eq h
    cases v with
    | tuple vs =>
      rw [ch, ch, List.cons_append, List.cons_append] at h
      injection h with _ h
      rw [List.append_assoc, List.append_assoc] at h
      obtain ⟨e1, e2⟩ := decs ts vs (clT vs.length) (clT ts.length) r s (by simpa [plP] using ht) (by simpa [noDc] using nt) (by simpa [plP] using hv) (clT_cl _) (clT_cl _) h
      exact ⟨by rw [e1], cl_cat e2 (by rw [e1])⟩
    | _ => simp [kd] at k
  | .dict _, _, _, _, _, nt, _, _, _, _ => by simp [noDc] at nt
theorem decs : ∀ (ts vs : List PyData) (e f r s : List Nat), plPs ts = true → noDcs ts = true → plPs vs = true → Cl e → Cl f → chs vs ++ (e ++ r) = chs ts ++ (f ++ s) → vs = ts ∧ e ++ r = f ++ s
  | [], [], e, f, r, s, _, _, _, _, _, h => ⟨rfl, by simpa [chs] using h⟩
  | [], v :: vs, e, f, r, s, _, _, _, _, hf, h => by
    exfalso
    obtain ⟨c, l, q, c1, c2, c3⟩ := ch_hd v
    rw [chs, chs, q] at h
    rcases hf with rfl | rfl | rfl <;> (injection h with h1 _; omega)
  | t :: ts, [], e, f, r, s, _, _, _, he, _, h => by
    exfalso
    obtain ⟨c, l, q, c1, c2, c3⟩ := ch_hd t
    rw [chs, chs, q] at h
    rcases he with rfl | rfl | rfl <;> (injection h with h1 _; omega)
  | t :: ts, v :: vs, e, f, r, s, ht, nt, hv, he, hf, h => by
    simp only [plPs, noDcs, Bool.and_eq_true] at ht nt hv
    rw [chs, chs, List.append_assoc, List.append_assoc] at h
    obtain ⟨e1, e2⟩ := dec t v _ _ ht.1 nt.1 hv.1 (dl_tl he) (dl_tl hf) h
    obtain ⟨e3, e4⟩ := decT ts vs e f r s ht.2 nt.2 hv.2 he hf e2
    exact ⟨by rw [e1, e3], e4⟩
theorem decT : ∀ (ts vs : List PyData) (e f r s : List Nat), plPs ts = true → noDcs ts = true → plPs vs = true → Cl e → Cl f → tls vs ++ (e ++ r) = tls ts ++ (f ++ s) → vs = ts ∧ e ++ r = f ++ s
  | [], [], e, f, r, s, _, _, _, _, _, h => ⟨rfl, by simpa [tls] using h⟩
  | [], v :: vs, e, f, r, s, _, _, _, _, hf, h => by
    exfalso
    rw [tls, tls] at h
    rcases hf with rfl | rfl | rfl
    · injection h with h1 _; omega
    · injection h with h1 _; omega
    · injection h with _ h2; injection h2 with h1 _; omega
  | t :: ts, [], e, f, r, s, _, _, _, he, _, h => by
    exfalso
    rw [tls, tls] at h
    rcases he with rfl | rfl | rfl
    · injection h with h1 _; omega
    · injection h with h1 _; omega
    · injection h with _ h2; injection h2 with h1 _; omega
  | t :: ts, v :: vs, e, f, r, s, ht, nt, hv, he, hf, h => by
    simp only [plPs, noDcs, Bool.and_eq_true] at ht nt hv
    rw [tls, tls, List.cons_append, List.cons_append, List.cons_append, List.cons_append] at h
    injection h with _ h
    injection h with _ h
    rw [List.append_assoc, List.append_assoc] at h
    obtain ⟨e1, e2⟩ := dec t v _ _ ht.1 nt.1 hv.1 (dl_tl he) (dl_tl hf) h
    obtain ⟨e3, e4⟩ := decT ts vs e f r s ht.2 nt.2 hv.2 he hf e2
    exact ⟨by rw [e1, e3], e4⟩
end
/-- texts alike: things alike -/
theorem shown_inj {v t : PyData} (ht : plP t = true) (nt : noDc t = true) (hv : plP v = true) (h : v.shown = t.shown) : v = t := by
  have e : ch v ++ [] = ch t ++ [] := by rw [← shown_ch v hv, ← shown_ch t ht, h]
  exact (dec t v [] [] ht nt hv (fun c l z => nomatch z) (fun c l z => nomatch z) e).1
end VL
namespace VL
open PySem PySem.Spec L2
def kyP : Key → PyData
  | .inl i => .int i
  | .inr x => .str x
mutual
def pyM (M : Mem) : D → PyData
  | .non => .none
  | .bl b => .bool b
  | .int i => .int i
  | .str x => .str x
  | .lst xs => .list (pysM M xs)
  | .tup xs => .tuple (pysM M xs)
  | .rd xs => .list (pysM M xs)
  | .obj a => match M a with
    | some (.dk kvs) => .dict (kvs.map fun p => (kyP p.1, py p.2))
    | _ => .none
  | .exc _ _ => .none
def pysM (M : Mem) : List D → List PyData
  | [] => []
  | x :: xs => pyM M x :: pysM M xs
end
theorem pysM_map (M : Mem) (xs : List D) : pysM M xs = xs.map (pyM M) := by
  induction xs with
  | nil => rw [pysM]; rfl
  | cons x xs ih => rw [pysM, ih]; rfl
/-- the dicts that are drawn -/
def drawnDc (kvs : List (Key × D)) : Prop := kvs = [] ∨ kvs = [(.inr "a", .int 1)]
/-- lists, if lk, else dicts -/
def Pw (M : Mem) (lk : Bool) : Nat → D → Prop
  | _, .non => True
  | _, .bl _ => True
  | _, .int i => i.natAbs < 10 ^ 60
  | _, .str x => plS x = true ∧ x.length ≤ 60
  | 0, .lst _ => False
  | 0, .tup _ => False
  | n + 1, .lst xs => lk = true ∧ xs.length ≤ 10 ∧ ∀ x ∈ xs, Pw M lk n x
  | n + 1, .tup xs => xs.length ≤ 10 ∧ ∀ x ∈ xs, Pw M lk n x
  | _, .obj a => lk = false ∧ ∃ kvs, M a = some (.dk kvs) ∧ drawnDc kvs
  | _, .rd _ => False
  | _, .exc _ _ => False
def Rv (M : Mem) (d : D) : Prop := Pw M true 5 d ∨ Pw M false 5 d
theorem pw_up {M : Mem} {lk : Bool} : ∀ {n m : Nat} {d : D}, Pw M lk n d → n ≤ m → Pw M lk m d
  | n, m, .non, _, _ => by cases m <;> simp [Pw]
  | n, m, .bl _, _, _ => by cases m <;> simp [Pw]
  | n, m, .int _, h, _ => by cases n <;> cases m <;> simpa [Pw] using h
  | n, m, .str _, h, _ => by cases n <;> cases m <;> simpa [Pw] using h
  | n, m, .obj _, h, _ => by cases n <;> cases m <;> simpa [Pw] using h
  | 0, m, .lst _, h, _ => by simp [Pw] at h
  | 0, m, .tup _, h, _ => by simp [Pw] at h
  | n + 1, m, .lst xs, h, hm => by
    cases m with
    | zero => omega
    | succ m =>
      simp only [Pw] at h ⊢
      exact ⟨h.1, h.2.1, fun x hx => pw_up (h.2.2 x hx) (by omega)⟩
  | n + 1, m, .tup xs, h, hm => by
    cases m with
    | zero => omega
    | succ m =>
      simp only [Pw] at h ⊢
      exact ⟨h.1, fun x hx => pw_up (h.2 x hx) (by omega)⟩
  | n, m, .rd _, h, _ => by cases n <;> simp [Pw] at h
  | n, m, .exc _ _, h, _ => by cases n <;> simp [Pw] at h
def fW : Nat → Nat
  | 0 => 70
  | n + 1 => 10 * (fW n + 2) + 5
theorem fW_ge (n : Nat) : 70 ≤ fW n := by
  induction n with
  | zero => exact Nat.le_refl _
  | succ n ih => unfold fW; omega
theorem sum_le {α : Type} (f : α → Nat) (k : Nat) : ∀ {l : List α}, (∀ x ∈ l, f x ≤ k) → (l.map f).sum ≤ l.length * k
  | [], _ => by simp
  | x :: l, h => by
    have h1 := h x List.mem_cons_self
    have h2 := sum_le f k (l := l) fun y hy => h y (List.mem_cons_of_mem _ hy)
    rw [List.map_cons, List.sum_cons, List.length_cons, Nat.succ_mul]
    omega
structure Fct (n : Nat) (p : PyData) : Prop where
  pl : plP p = true
  sm : ∀ c ∈ ch p, c < 127
  de : p.depth ≤ n + 1
  sw : p.showable = true
  ln : p.shown.length ≤ fW n
theorem plPs_all (xs : List PyData) : plPs xs = xs.all plP := by
  induction xs with
  | nil => simp [plPs]
  | cons x xs ih => simp [plPs, ih]
theorem tls_mem {c : Nat} : ∀ {xs : List PyData}, c ∈ tls xs → c = 44 ∨ c = 32 ∨ ∃ x ∈ xs, c ∈ ch x
  | [], h => by rw [tls] at h; cases h
  | x :: xs, h => by
    rw [tls, List.mem_cons, List.mem_cons, List.mem_append] at h
    rcases h with h | h | h | h
    · exact .inl h
    · exact .inr (.inl h)
    · exact .inr (.inr ⟨x, List.mem_cons_self, h⟩)
    · rcases tls_mem h with h | h | ⟨y, hy, h⟩
      · exact .inl h
      · exact .inr (.inl h)
      · exact .inr (.inr ⟨y, List.mem_cons_of_mem _ hy, h⟩)
theorem chs_mem {c : Nat} {xs : List PyData} (h : c ∈ chs xs) : c = 44 ∨ c = 32 ∨ ∃ x ∈ xs, c ∈ ch x := by
  cases xs with
  | nil => rw [chs] at h; cases h
  | cons x xs =>
    rw [chs, List.mem_append] at h
    rcases h with h | h
    · exact .inr (.inr ⟨x, List.mem_cons_self, h⟩)
    · rcases tls_mem h with h | h | ⟨y, hy, h⟩
      · exact .inl h
      · exact .inr (.inl h)
      · exact .inr (.inr ⟨y, List.mem_cons_of_mem _ hy, h⟩)
theorem depthAll_le (n : Nat) : ∀ {xs : List PyData}, (∀ x ∈ xs, x.depth ≤ n) → PyData.depthAll xs ≤ n
  | [], _ => by simp [PyData.depthAll]
  | x :: xs, h => by
    have h1 := h x List.mem_cons_self
    have h2 := depthAll_le n (xs := xs) fun y hy => h y (List.mem_cons_of_mem _ hy)
    rw [PyData.depthAll]
    omega
theorem fct_seq {n : Nat} {xs : List PyData} (h : ∀ x ∈ xs, Fct n x) (hl : xs.length ≤ 10) : Fct (n + 1) (.list xs) ∧ Fct (n + 1) (.tuple xs) := by
  have pl : plPs xs = true := by
    rw [plPs_all, List.all_eq_true]
    exact fun x hx => (h x hx).pl
  have sm : ∀ c ∈ chs xs, c < 127 := fun c hc => by
    rcases chs_mem hc with h1 | h1 | ⟨x, hx, h1⟩
    · omega
    · omega
    · exact (h x hx).sm c h1
  have de := depthAll_le (n + 1) fun x hx => (h x hx).de
  have sw : PyData.showableAll xs = true := by
    rw [showableAll_all, List.all_eq_true]
    exact fun x hx => (h x hx).sw
  have ln := sum_le (fun x : PyData => x.shown.length) (fW n) (l := xs) fun x hx => (h x hx).ln
  have l10 : xs.length * fW n ≤ 10 * fW n := Nat.mul_le_mul_right _ hl
  have fe : fW (n + 1) = 10 * (fW n + 2) + 5 := rfl
  refine ⟨⟨by simp [plP, pl], fun c hc => ?_, by rw [PyData.depth]; omega, by simpa [PyData.showable] using sw, ?_⟩, ⟨by simp [plP, pl], fun c hc => ?_, by rw [PyData.depth]; omega, by simpa [PyData.showable] using sw, ?_⟩⟩
  · rw [ch, List.mem_cons, List.mem_append, List.mem_singleton] at hc
    rcases hc with h1 | h1 | h1
    · omega
    · exact sm c h1
    · omega
  · rw [PyData.shown, shownAll_map]
    have := listText_len_le (xs.map PyData.shown)
    rw [List.map_map, List.length_map] at this
    simp only [Function.comp_def] at this
    omega
  · rw [ch, List.mem_cons, List.mem_append] at hc
    rcases hc with h1 | h1 | h1
    · omega
    · exact sm c h1
    · unfold clT at h1
      split at h1 <;> simp at h1 <;> omega
  · rw [PyData.shown, shownAll_map]
    have := tupleText_len_le (xs.map PyData.shown)
    rw [List.map_map, List.length_map] at this
    simp only [Function.comp_def] at this
    omega
theorem log2_60 {k : Nat} (h : k < 10 ^ 60) : k.log2 < 1920 := by
  by_cases z : k = 0
  · rw [z]; decide
  · rw [Nat.log2_lt z]
    exact Nat.lt_trans h (by decide +kernel)
theorem fct_int {n : Nat} {i : Int} (h : i.natAbs < 10 ^ 60) : Fct n (.int i) := by
  have := fW_ge n
  refine ⟨by simp [plP], fun c hc => ?_, by simp [PyData.depth], ?_, ?_⟩
  · rw [ch] at hc
    have := intCh_num i c hc
    unfold numC at this
    omega
  · simp only [PyData.showable]
    exact decide_eq_true (log2_60 h)
  · have h2 := int_text_length_le10 (a := i) (k := 60) (by decide) h
    rw [PyData.shown]
    have h3 : (Str.ofString (toString i)).length = (toString i).length := by
      have a : (Str.ofString (toString i)).length = (Str.ofString (toString i)).cps.toList.length := by unfold Str.length; exact (Array.length_toList).symm
      rw [a, PyProof.Rows.signs_ofString, List.length_map, String.length_toList]
    show (Str.ofString (toString i)).length ≤ _
    omega
theorem fct_str {n : Nat} {x : Str} (h1 : plS x = true) (h2 : x.length ≤ 60) : Fct n (.str x) := by
  have := fW_ge n
  refine ⟨by simp [plP, h1], fun c hc => ?_, by simp [PyData.depth], by simp [PyData.showable], ?_⟩
  · rw [ch, List.mem_cons, List.mem_append, List.mem_singleton] at hc
    rcases hc with h | h | h
    · omega
    · have := List.all_eq_true.mp h1 c h
      simp only [okC, Bool.and_eq_true, decide_eq_true_eq] at this
      omega
    · omega
  · rw [PyData.shown]
    have e : (reprText x).length = (reprText x).cps.toList.length := by simp [Str.length]
    have e2 : x.length = x.cps.toList.length := by simp [Str.length]
    rw [e, reprText_ok h1]
    simp only [List.length_cons, List.length_append, List.length_nil]
    omega
theorem fct_dict {n : Nat} {kvs : List (Key × D)} (h : drawnDc kvs) : Fct n (.dict (kvs.map fun p => (kyP p.1, py p.2))) := by
  have := fW_ge n
  rcases h with rfl | rfl
  · refine ⟨by simp [plP], ?_, ?_, ?_, ?_⟩
    · show ∀ c ∈ ch (.dict []), c < 127
      have e : ch (.dict []) = [123, 125] := by
        rw [ch, PyData.shown, PyData.shownKv]
        decide +kernel
      rw [e]
      decide
    · show PyData.depth (.dict []) ≤ _
      simp [PyData.depth, PyData.depthKv]
    · show PyData.showable (.dict []) = true
      simp [PyData.showable, PyData.showableKv]
    · show (PyData.shown (.dict [])).length ≤ _
      have : (PyData.shown (.dict [])).length = 2 := by
        rw [PyData.shown, PyData.shownKv]
        decide +kernel
      omega
  · have e0 : ([((Sum.inr "a" : Key), D.int 1)].map fun p => (kyP p.1, py p.2)) = [(PyData.str "a", PyData.int 1)] := by simp [kyP, py]
    rw [e0]
    have e1 : (PyData.dict [(PyData.str "a", PyData.int 1)]).shown.cps.toList = [123, 39, 97, 39, 58, 32, 49, 125] := by
      rw [PyData.shown, PyData.shownKv, PyData.shownKv, PyData.shown, PyData.shown]
      decide +kernel
    refine ⟨by simp [plP], ?_, ?_, ?_, ?_⟩
    · rw [ch, e1]
      decide
    · simp [PyData.depth, PyData.depthKv]
    · simp [PyData.showable, PyData.showableKv]
      decide
    · have e2 : (PyData.dict [(PyData.str "a", PyData.int 1)]).shown.length = (PyData.dict [(PyData.str "a", PyData.int 1)]).shown.cps.toList.length := by simp [Str.length]
      rw [e2, e1]
      simp only [List.length_cons, List.length_nil]
      omega
theorem pw_fct {M : Mem} {lk : Bool} : ∀ {n : Nat} {d : D}, Pw M lk n d → Fct n (pyM M d)
  | n, .non, _ => by
    have := fW_ge n
    rw [pyM]
    exact ⟨by simp [plP], by rw [ch]; decide, by simp [PyData.depth], by simp [PyData.showable], by
      have : (PyData.shown .none).length = 4 := by rw [PyData.shown]; decide +kernel
      omega⟩
  | n, .bl b, _ => by
    have := fW_ge n
    rw [pyM]
    exact ⟨by simp [plP], by rw [ch]; cases b <;> decide, by simp [PyData.depth], by simp [PyData.showable], by
      have : (PyData.shown (.bool b)).length ≤ 5 := by rw [PyData.shown]; cases b <;> decide +kernel
      omega⟩
  | n, .int i, h => by
    rw [pyM]
    exact fct_int (by cases n <;> simpa [Pw] using h)
  | n, .str x, h => by
    rw [pyM]
    have : plS x = true ∧ x.length ≤ 60 := by cases n <;> simpa [Pw] using h
    exact fct_str this.1 this.2
  | n, .obj a, h => by
    have : lk = false ∧ ∃ kvs, M a = some (.dk kvs) ∧ drawnDc kvs := by cases n <;> simpa [Pw] using h
    obtain ⟨_, kvs, e, hk⟩ := this
    rw [pyM, e]
    exact fct_dict hk
  | 0, .lst _, h => by simp [Pw] at h
  | 0, .tup _, h => by simp [Pw] at h
  | n + 1, .lst xs, h => by
    simp only [Pw] at h
    rw [pyM, pysM_map]
    exact (fct_seq (fun x hx => by
      obtain ⟨y, hy, rfl⟩ := List.mem_map.mp hx
      exact pw_fct (h.2.2 y hy)) (by rw [List.length_map]; exact h.2.1)).1
  | n + 1, .tup xs, h => by
    simp only [Pw] at h
    rw [pyM, pysM_map]
    exact (fct_seq (fun x hx => by
      obtain ⟨y, hy, rfl⟩ := List.mem_map.mp hx
      exact pw_fct (h.2 y hy)) (by rw [List.length_map]; exact h.1)).2
  | n, .rd _, h => by cases n <;> simp [Pw] at h
  | n, .exc _ _, h => by cases n <;> simp [Pw] at h
theorem strOk_of {x : Str} (h : ∀ c ∈ x.cps.toList, c < 127) : PyData.strOk x = true := by
  unfold PyData.strOk
  rw [← Array.all_toList, List.all_eq_true]
  intro c hc
  have := h c hc
  simp
  omega
theorem plS_small {x : Str} (h : plS x = true) : PyData.strOk x = true := strOk_of fun c hc => by
  have := List.all_eq_true.mp h c hc
  simp only [okC, Bool.and_eq_true, decide_eq_true_eq] at this
  omega
/-- the shown text of a drawn thing may be compared -/
theorem rv_txt {M : Mem} {d : D} (h : Rv M d) : PyData.strOk (pyM M d).shown = true := by
  have f : Fct 5 (pyM M d) := h.elim pw_fct pw_fct
  exact strOk_of fun c hc => f.sm c (by rw [← shown_ch _ f.pl]; exact hc)
theorem pw_sh {M : Mem} : ∀ {n : Nat} {d : D}, Pw M true n d → Sh n d ∧ pyM M d = py d ∧ fz M d = d
  | n, .non, _ => ⟨sh_non, by rw [pyM, py], rfl⟩
  | n, .bl b, _ => ⟨sh_bl, by rw [pyM, py], rfl⟩
  | n, .int i, _ => ⟨sh_int, by rw [pyM, py], rfl⟩
  | n, .str x, h => by
    have : plS x = true ∧ x.length ≤ 60 := by cases n <;> simpa [Pw] using h
    exact ⟨sh_str (plS_small this.1), by rw [pyM, py], rfl⟩
  | n, .obj a, h => by
    exfalso
    cases n <;> simp [Pw] at h
  | 0, .lst _, h => by simp [Pw] at h
  | 0, .tup _, h => by simp [Pw] at h
  | n + 1, .lst xs, h => by
    simp only [Pw] at h
    refine ⟨sh_lst fun x hx => (pw_sh (h.2.2 x hx)).1, ?_, rfl⟩
    rw [pyM, py, pysM_map, pys_map]
    congr 1
    exact List.map_congr_left fun x hx => (pw_sh (h.2.2 x hx)).2.1
  | n + 1, .tup xs, h => by
    simp only [Pw] at h
    refine ⟨sh_tup fun x hx => (pw_sh (h.2 x hx)).1, ?_, rfl⟩
    rw [pyM, py, pysM_map, pys_map]
    congr 1
    exact List.map_congr_left fun x hx => (pw_sh (h.2 x hx)).2.1
  | n, .rd _, h => by cases n <;> simp [Pw] at h
  | n, .exc _ _, h => by cases n <;> simp [Pw] at h
section
variable {X : Cx} {pins : List (Addr × Obj)} {σ : St} {H F G : Hp} {M : Mem} {s : Shared}
theorem kws_nil {kws : List (Key × V)} (e : kws.map (·.1) = ([] : List Key)) : kws = [] := by
  cases kws with
  | nil => rfl
  | cons k r => cases e
mutual
theorem pw_reads (I : L2.Inv X pins σ H s) (rel : Rel X.K F M G H) : ∀ {n : Nat} {d : D} {v : V} {u : Value}, Pw M false n d → DR X.K F v d → RelV v u → ∃ as, Reads s.heap u (pyM M d) as ∧ sysModules ∉ as
  | n, .non, _, _, _, h, r => by
    cases h; cases r
    rw [pyM]
    exact ⟨_, Reads.none, by simp⟩
  | n, .bl b, _, _, _, h, r => by
    cases h; cases r
    rw [pyM]
    exact ⟨_, Reads.bool b, by simp⟩
  | n, .int i, _, _, _, h, r => by
    cases h
    obtain ⟨t, rfl⟩ := r
    rw [pyM]
    exact ⟨_, Reads.int i t, by simp⟩
  | n, .str x, _, _, _, h, r => by
    cases h
    obtain ⟨t, rfl⟩ := r
    rw [pyM]
    exact ⟨_, Reads.str x t, by simp⟩
  | n, .obj a, _, _, h, hd, r => by
    have : ∃ kvs, M a = some (.dk kvs) ∧ drawnDc kvs := by cases n <;> simpa [Pw] using h
    obtain ⟨kvs, e, hk⟩ := this
    cases hd
    cases r
    rw [pyM, e]
    obtain ⟨_, _, ho, hH, kws, rfl, k1, k2⟩ := rel.ob a _ e
    obtain ⟨_, ns, vs, kv, o, es, ep, ho, ex, hdat, _, pr, _⟩ := dk_of I.hok hH
    have na : sysModules ≠ a := fun q => by rw [q] at ns; simp at ns
    have ncl := ex.1
    rcases hk with rfl | rfl
    · have := kws_nil k1
      subst this
      cases kv
      have es0 : es.toList = [] := by cases q : es.toList with
        | nil => rfl
        | cons x xs => rw [q] at pr; cases pr
      have := Reads.dict (h := s.heap) (kvs := []) ho ncl hdat (by rw [es0]; exact ReadsAll.nil) (by rw [es0]; exact ReadsAll.nil)
      exact ⟨_, this, by simpa using na⟩
    · match kws, k1, k2, kv with
      | [(k, w)], k1, k2, kv =>
        simp at k1
        subst k1
        cases k2 with
        | cons z1 z2 =>
          cases z1
          cases kv with
          | cons q1 q2 =>
            cases q2
            rename_i b
            obtain ⟨bk, bv⟩ := b
            obtain ⟨e1, t, e2⟩ := q1
            dsimp only at e1 e2
            cases q : es.toList with
            | nil => rw [q] at pr; cases pr
            | cons en er =>
              rw [q] at pr
              cases pr with
              | cons p1 p2 p3 =>
                cases p3
                rcases keyIs_shape p1 with ⟨i, t', f1, _⟩ | ⟨x, t', f1, f2⟩
                · rw [← e1] at f1; cases f1
                · rw [← e1] at f1
                  injection f1 with f1
                  subst f1
                  have := Reads.dict (h := s.heap) (kvs := [(PyData.str "a", PyData.int 1)]) ho ncl hdat (by rw [q]; exact ReadsAll.cons (by show Reads s.heap en.key (PyData.str "a") _; rw [f2]; exact Reads.str _ _) ReadsAll.nil) (by rw [q]; exact ReadsAll.cons (by show Reads s.heap en.val (PyData.int 1) _; rw [p2, e2]; exact Reads.int _ _) ReadsAll.nil)
                  exact ⟨_, by simpa [kyP, py] using this, by simpa using na⟩
  | 0, .lst _, _, _, h, _, _ => by simp [Pw] at h
  | 0, .tup _, _, _, h, _, _ => by simp [Pw] at h
  | n + 1, .lst xs, _, _, h, _, _ => by simp [Pw] at h
  | n + 1, .tup xs, _, _, h, hd, r => by
    simp only [Pw] at h
    cases hd with
    | tup hs ha =>
      cases r
      obtain ⟨its, rv, ⟨o, ho, hc, k, hd'⟩, _⟩ := I.tuple (same_tup rel.sub hs)
      obtain ⟨as, hr, hm⟩ := pw_readsAll I rel h.2 ha rv
      rw [pyM]
      exact ⟨_, Reads.tuple ho hc hd' hr, hm⟩
  | n, .rd _, _, _, h, _, _ => by cases n <;> simp [Pw] at h
  | n, .exc _ _, _, _, h, _, _ => by cases n <;> simp [Pw] at h
theorem pw_readsAll (I : L2.Inv X pins σ H s) (rel : Rel X.K F M G H) : ∀ {n : Nat} {ds : List D} {vs : List V} {us : List Value}, (∀ x ∈ ds, Pw M false n x) → DRs X.K F vs ds → Vals vs us → ∃ as, ReadsAll s.heap us (pysM M ds) as ∧ sysModules ∉ as
  | n, [], _, _, _, h, r => by
    cases h; cases r
    rw [pysM]
    exact ⟨_, ReadsAll.nil, by simp⟩
  | n, d :: ds, _, _, p, h, r => by
    cases h with
    | cons h1 h2 =>
      cases r with
      | cons r1 r2 =>
        obtain ⟨as, q1, m1⟩ := pw_reads I rel (p d List.mem_cons_self) h1 r1
        obtain ⟨bs, q2, m2⟩ := pw_readsAll I rel (fun x hx => p x (List.mem_cons_of_mem _ hx)) h2 r2
        rw [pysM]
        exact ⟨_, ReadsAll.cons q1 q2, fun z => (List.mem_append.mp z).elim m1 m2⟩
end
end
def D.isSeqObj : D → Bool
  | .tup _ => true
  | .obj _ => true
  | _ => false
/-- repr of a drawn thing -/
def rReprV : VRs
  | [x], M, Q => Rv M x ∧ Q (.str (pyM M x).shown) M
  | _, _, _ => False
theorem fW5 : fW 5 ≤ 16000000 := by decide
theorem c_reprV {X : Cx} {k : Nat} (hr : RmG k X.A) : CallR X (.builtin "repr") (ls X.K rReprV) := by
  intro pins s σ H xs us Q I r ⟨F, M, G, ds, Q', rel, dv, q, o⟩
  unfold rReprV at q
  split at q
  · rename_i d
    obtain ⟨rv, q⟩ := q
    rcases rv with h | h
    · obtain ⟨e1, e2, e3⟩ := pw_sh h
      have f := pw_fct h
      have f5 := fW5
      have l := f.ln
      refine c_repr hr pins s σ H xs us Q I r ⟨F, M, G, [d], Q', rel, dv, ?_, o⟩
      refine ⟨by rw [e3]; exact Sh.up 5 30 _ (by decide) e1, by rw [e3, ← e2]; exact f.sw, by rw [e3, ← e2]; omega, ?_⟩
      rw [e3, ← e2]
      exact q
    · have f := pw_fct h
      have f5 := fW5
      have l := f.ln
      have s16 := size16
      obtain ⟨v, rfl, z⟩ := one_of dv
      obtain ⟨u, rfl, ru⟩ := r.one
      have sp : d.isSeqObj = true ∨ Pw M true 5 d := by
        cases d with
        | tup xs => exact .inl rfl
        | obj a => exact .inl rfl
        | _ => exact .inr (by simpa [Pw] using h)
      rcases sp with sp | h'
      · obtain ⟨as, rd, hm⟩ := pw_reads I rel h z ru
        have hp := f.de
        have hu := hu64 hr.r
        have href : ∃ a, v = V.ref a := by
          cases d with
          | tup xs => cases z; exact ⟨_, rfl⟩
          | obj a => cases z; exact ⟨_, rfl⟩
          | _ => cases sp
        obtain ⟨a, rfl⟩ := href
        cases ru
        exact PySem.repr_of_reads' rd f.sw (fun _ => hm) hr.g (by omega) (fun _ _ e => e) (fun h' u tk hk => ⟨.str _, H, I.kept hk, ⟨_, rfl⟩, o.stay rel (.str _) q⟩) (by omega)
      · obtain ⟨e1, e2, e3⟩ := pw_sh h'
        refine c_repr hr pins s σ H _ _ Q I (.cons ru .nil) ⟨F, M, G, [d], Q', rel, .cons z .nil, ?_, o⟩
        refine ⟨by rw [e3]; exact Sh.up 5 30 _ (by decide) e1, by rw [e3, ← e2]; exact f.sw, by rw [e3, ← e2]; omega, ?_⟩
        rw [e3, ← e2]
        exact q
  · exact q.elim
mutual
theorem pyM_inj {M : Mem} : ∀ {n m : Nat} {lk : Bool} {v t : D}, Pw M lk n v → Pw M true m t → pyM M v = pyM M t → v = t
  | n, m, lk, .non, t, _, ht, e => by
    cases t <;> first | rfl | (exfalso; cases m <;> simp [Pw] at ht; done) | (rw [pyM, pyM] at e; cases e; done)
  | n, m, lk, .bl b, t, _, ht, e => by
    cases t <;> first | (rw [pyM, pyM] at e; injection e with e; rw [e]) | (rw [pyM, pyM] at e; cases e) | (exfalso; cases m <;> simp [Pw] at ht)
  | n, m, lk, .int i, t, _, ht, e => by
    cases t <;> first | (rw [pyM, pyM] at e; injection e with e; rw [e]) | (rw [pyM, pyM] at e; cases e) | (exfalso; cases m <;> simp [Pw] at ht)
  | n, m, lk, .str x, t, _, ht, e => by
    cases t <;> first | (rw [pyM, pyM] at e; injection e with e; rw [e]) | (rw [pyM, pyM] at e; cases e) | (exfalso; cases m <;> simp [Pw] at ht)
  | n, m, lk, .obj a, t, h, ht, e => by
    exfalso
    have : lk = false ∧ ∃ kvs, M a = some (.dk kvs) ∧ drawnDc kvs := by cases n <;> simpa [Pw] using h
    obtain ⟨_, kvs, e1, _⟩ := this
    rw [pyM, e1] at e
    cases t <;> first | (rw [pyM] at e; cases e) | (cases m <;> simp [Pw] at ht)
  | 0, m, lk, .lst xs, t, h, _, _ => by simp [Pw] at h
  | 0, m, lk, .tup xs, t, h, _, _ => by simp [Pw] at h
  | n + 1, m, lk, .lst xs, t, h, ht, e => by
    cases t with
    | lst ys =>
      rw [pyM, pyM] at e
      injection e with e
      cases m with
      | zero => simp [Pw] at ht
      | succ m =>
        simp only [Pw] at h ht
        rw [pysM_inj h.2.2 ht.2.2 e]
    | _ => first | (rw [pyM, pyM] at e; cases e) | (exfalso; cases m <;> simp [Pw] at ht)
  | n + 1, m, lk, .tup xs, t, h, ht, e => by
    cases t with
    | tup ys =>
      rw [pyM, pyM] at e
      injection e with e
      cases m with
      | zero => simp [Pw] at ht
      | succ m =>
        simp only [Pw] at h ht
        rw [pysM_inj h.2 ht.2 e]
    | _ => first | (rw [pyM, pyM] at e; cases e) | (exfalso; cases m <;> simp [Pw] at ht)
  | n, m, lk, .rd _, _, h, _, _ => by cases n <;> simp [Pw] at h
  | n, m, lk, .exc _ _, _, h, _, _ => by cases n <;> simp [Pw] at h
theorem pysM_inj {M : Mem} : ∀ {n m : Nat} {lk : Bool} {xs ys : List D}, (∀ x ∈ xs, Pw M lk n x) → (∀ y ∈ ys, Pw M true m y) → pysM M xs = pysM M ys → xs = ys
  | n, m, lk, [], [], _, _, _ => rfl
  | n, m, lk, [], y :: ys, _, _, e => by rw [pysM, pysM] at e; cases e
  | n, m, lk, x :: xs, [], _, _, e => by rw [pysM, pysM] at e; cases e
  | n, m, lk, x :: xs, y :: ys, h, h', e => by
    rw [pysM, pysM] at e
    injection e with e1 e2
    rw [pyM_inj (h x List.mem_cons_self) (h' y List.mem_cons_self) e1, pysM_inj (fun z hz => h z (List.mem_cons_of_mem _ hz)) (fun z hz => h' z (List.mem_cons_of_mem _ hz)) e2]
end
theorem noDcs_all (xs : List PyData) : noDcs xs = xs.all noDc := by
  induction xs with
  | nil => simp [noDcs]
  | cons x xs ih => simp [noDcs, ih]
theorem pw_noDc {M : Mem} : ∀ {n : Nat} {d : D}, Pw M true n d → noDc (pyM M d) = true
  | n, .non, _ => by rw [pyM, noDc]
  | n, .bl b, _ => by rw [pyM, noDc]
  | n, .int i, _ => by rw [pyM, noDc]
  | n, .str x, _ => by rw [pyM, noDc]
  | n, .obj a, h => by
    exfalso
    cases n <;> simp [Pw] at h
  | 0, .lst _, h => by simp [Pw] at h
  | 0, .tup _, h => by simp [Pw] at h
  | n + 1, .lst xs, h => by
    simp only [Pw] at h
    rw [pyM, noDc, noDcs_all, pysM_map, List.all_map, List.all_eq_true]
    exact fun x hx => pw_noDc (h.2.2 x hx)
  | n + 1, .tup xs, h => by
    simp only [Pw] at h
    rw [pyM, noDc, noDcs_all, pysM_map, List.all_map, List.all_eq_true]
    exact fun x hx => pw_noDc (h.2 x hx)
  | n, .rd _, h => by cases n <;> simp [Pw] at h
  | n, .exc _ _, h => by cases n <;> simp [Pw] at h
/-- the shown text of v is that of t exactly if v is t -/
theorem txt_iff {M : Mem} {v t : D} (hv : Rv M v) (ht : Pw M true 5 t) : (pyM M v).shown = (pyM M t).shown ↔ v = t := by
  refine ⟨fun e => ?_, fun e => by rw [e]⟩
  have fv : Fct 5 (pyM M v) := hv.elim pw_fct pw_fct
  have e2 := shown_inj (pw_fct ht).pl (pw_noDc ht) fv.pl e
  exact hv.elim (fun h => pyM_inj h ht e2) (fun h => pyM_inj h ht e2)
end VL
namespace VL
open PySem PySem.Spec L2
def Pt : Nat → D → Prop
  | _, .non => True
  | _, .bl _ => True
  | _, .int i => i.natAbs < 10 ^ 59
  | _, .str x => plS x = true ∧ x.length ≤ 60
  | 0, .tup _ => False
  | n + 1, .tup xs => xs.length ≤ 9 ∧ ∀ x ∈ xs, Pt n x
  | _, _ => False
def Rw (M : Mem) (n : Nat) (d : D) : Prop := Pw M true n d ∨ Pw M false n d
theorem p59 : (10 : Nat) ^ 59 < 10 ^ 60 := by decide +kernel
theorem pt_pw {M : Mem} {lk : Bool} : ∀ {n : Nat} {d : D}, Pt n d → Pw M lk n d
  | n, .non, _ => by cases n <;> simp [Pw]
  | n, .bl _, _ => by cases n <;> simp [Pw]
  | n, .int i, h => by
    have : i.natAbs < 10 ^ 59 := by cases n <;> simpa [Pt] using h
    have h2 := Nat.lt_trans this p59
    cases n <;> simpa [Pw] using h2
  | n, .str x, h => by cases n <;> simpa [Pt, Pw] using h
  | 0, .tup _, h => by simp [Pt] at h
  | n + 1, .tup xs, h => by
    simp only [Pt, Pw] at h ⊢
    exact ⟨by omega, fun x hx => pt_pw (h.2 x hx)⟩
  | n, .lst _, h => by cases n <;> simp [Pt] at h
  | n, .obj _, h => by cases n <;> simp [Pt] at h
  | n, .rd _, h => by cases n <;> simp [Pt] at h
  | n, .exc _ _, h => by cases n <;> simp [Pt] at h
theorem pt_bt : ∀ {n : Nat} {d : D}, Pt n d → Bt n d
  | n, .non, _ => by cases n <;> simp [Bt]
  | n, .bl _, _ => by cases n <;> simp [Bt]
  | n, .int i, h => by cases n <;> simp [Bt]
  | n, .str x, h => by
    have : plS x = true ∧ x.length ≤ 60 := by cases n <;> simpa [Pt] using h
    have := plS_small this.1
    cases n <;> simpa [Bt] using this
  | 0, .tup _, h => by simp [Pt] at h
  | n + 1, .tup xs, h => by
    simp only [Pt] at h
    simp only [Bt]
    exact ⟨by omega, fun x hx => pt_bt (h.2 x hx)⟩
  | n, .lst _, h => by cases n <;> simp [Pt] at h
  | n, .obj _, h => by cases n <;> simp [Pt] at h
  | n, .rd _, h => by cases n <;> simp [Pt] at h
  | n, .exc _ _, h => by cases n <;> simp [Pt] at h
theorem rw_up {M : Mem} {n m : Nat} {d : D} (h : Rw M n d) (hm : n ≤ m) : Rw M m d := h.imp (fun z => pw_up z hm) (fun z => pw_up z hm)
theorem pt_rw {M : Mem} {n : Nat} {d : D} (h : Pt n d) : Rw M n d := .inl (pt_pw h)
theorem pwSub {M M' : Mem} (s : Sub M M') {lk : Bool} : ∀ {n : Nat} {d : D}, Pw M lk n d → Pw M' lk n d
  | n, .non, _ => by cases n <;> simp [Pw]
  | n, .bl _, _ => by cases n <;> simp [Pw]
  | n, .int i, h => by cases n <;> simpa [Pw] using h
  | n, .str x, h => by cases n <;> simpa [Pw] using h
  | n, .obj a, h => by
    have : lk = false ∧ ∃ kvs, M a = some (.dk kvs) ∧ drawnDc kvs := by cases n <;> simpa [Pw] using h
    obtain ⟨e1, kvs, e2, e3⟩ := this
    have : lk = false ∧ ∃ kvs, M' a = some (.dk kvs) ∧ drawnDc kvs := ⟨e1, kvs, s _ _ e2, e3⟩
    cases n <;> simpa [Pw] using this
  | 0, .tup _, h => by simp [Pw] at h
  | 0, .lst _, h => by simp [Pw] at h
  | n + 1, .tup xs, h => by
    simp only [Pw] at h ⊢
    exact ⟨h.1, fun x hx => pwSub s (h.2 x hx)⟩
  | n + 1, .lst xs, h => by
    simp only [Pw] at h ⊢
    exact ⟨h.1, h.2.1, fun x hx => pwSub s (h.2.2 x hx)⟩
  | n, .rd _, h => by cases n <;> simp [Pw] at h
  | n, .exc _ _, h => by cases n <;> simp [Pw] at h
theorem pwUpd {M : Mem} {p : Addr} {l l' : List D} (hp : M p = some (.lst l)) {lk : Bool} : ∀ {n : Nat} {d : D}, Pw M lk n d → Pw (mupd M p (.lst l')) lk n d
  | n, .non, _ => by cases n <;> simp [Pw]
  | n, .bl _, _ => by cases n <;> simp [Pw]
  | n, .int i, h => by cases n <;> simpa [Pw] using h
  | n, .str x, h => by cases n <;> simpa [Pw] using h
  | n, .obj a, h => by
    have : lk = false ∧ ∃ kvs, M a = some (.dk kvs) ∧ drawnDc kvs := by cases n <;> simpa [Pw] using h
    obtain ⟨e1, kvs, e2, e3⟩ := this
    have na : a ≠ p := fun e => by rw [e, hp] at e2; cases e2
    have : lk = false ∧ ∃ kvs, mupd M p (.lst l') a = some (.dk kvs) ∧ drawnDc kvs := ⟨e1, kvs, by rw [mupd_ne na]; exact e2, e3⟩
    cases n <;> simpa [Pw] using this
  | 0, .tup _, h => by simp [Pw] at h
  | 0, .lst _, h => by simp [Pw] at h
  | n + 1, .tup xs, h => by
    simp only [Pw] at h ⊢
    exact ⟨h.1, fun x hx => pwUpd hp (h.2 x hx)⟩
  | n + 1, .lst xs, h => by
    simp only [Pw] at h ⊢
    exact ⟨h.1, h.2.1, fun x hx => pwUpd hp (h.2.2 x hx)⟩
  | n, .rd _, h => by cases n <;> simp [Pw] at h
  | n, .exc _ _, h => by cases n <;> simp [Pw] at h
theorem rwUpd {M : Mem} {p : Addr} {l l' : List D} (hp : M p = some (.lst l)) {n : Nat} {d : D} (h : Rw M n d) : Rw (mupd M p (.lst l')) n d := h.imp (pwUpd hp) (pwUpd hp)
theorem rwSub {M M' : Mem} (s : Sub M M') {n : Nat} {d : D} (h : Rw M n d) : Rw M' n d := h.imp (pwSub s) (pwSub s)
/-- the text of a number -/
theorem plS_int (i : Int) : plS (Str.ofString (toString i)) = true := by
  unfold plS
  rw [List.all_eq_true]
  intro c hc
  have := intCh_num i c hc
  unfold numC at this
  simp only [okC, Bool.and_eq_true, decide_eq_true_eq]
  omega
theorem len_int {i : Int} (h : i.natAbs < 10 ^ 59) : (Str.ofString (toString i)).length ≤ 60 := by
  have h2 := int_text_length_le10 (a := i) (k := 59) (by decide) h
  have h3 : (Str.ofString (toString i)).length = (toString i).length := by
    have a : (Str.ofString (toString i)).length = (Str.ofString (toString i)).cps.toList.length := by unfold Str.length; exact (Array.length_toList).symm
    rw [a, PyProof.Rows.signs_ofString, List.length_map, String.length_toList]
  omega
theorem pl_e : plS "" = true := by decide +kernel
theorem pl_a : plS "a" = true := by decide +kernel
theorem pl_square : plS "square" = true := by decide +kernel
theorem cut_drop {α : Type} (xs : List α) (k : Nat) : cutD xs (some (k : Int)) none = xs.drop k := by
  unfold cutD
  have e2 : HT.sIx xs.length 0 (some (k : Int)) = min k xs.length := HT.sIx_nat _ _ _
  have e1 : HT.sIx xs.length xs.length none = xs.length := rfl
  rw [e1, e2]
  rcases Nat.le_total k xs.length with h | h
  · rw [Nat.min_eq_left h, List.take_of_length_le (by rw [List.length_drop]; omega)]
  · rw [Nat.min_eq_right h, List.drop_length, List.drop_of_length_le h]
    simp
theorem cut_one {α : Type} (xs : List α) : cutD xs none (some 1) = xs.take 1 := cut_take xs 1
end VL
namespace VL
open PySem PySem.Spec L2
def kD : Key → D
  | .inl i => .int i
  | .inr x => .str x
theorem kD_dr {K : PySem.W.Frag} {F : Hp} : ∀ {ks : List Key} {vs : List V}, DRs K F vs (ks.map kD) → vs = ks.map kV
  | [], _, h => by cases h; rfl
  | k :: ks, _, h => by
    cases h with
    | cons a b =>
      rw [List.map_cons, kD_dr b]
      cases k with
      | inl i => cases a; rfl
      | inr x => cases a; rfl
section
variable {X : Cx} {k : Nat} {pos : Pos}
/-- (a, b), a key -/
def vKt (t : VTA) : VTE := fun e M Q => t e M fun ds M1 => ∃ ks : List Key, ds = ks.map kD ∧ ks.length ≤ 100 ∧ ∀ p, M1 p = none → Q (.obj p) (mupd M1 p (.kt ks))
theorem v_kt {es : List Expr} {t : VTA} {x1 : Nat} (h : VA X es t) : VE X (.Tuple es x1 pos) (vKt t) :=
  v_pe (pe_tup h) fun F M G σ H e Q' Q hs hr q o => ⟨F, M, G, e, _, hs, hr, q, fun vs H1 F1 M1 ds s1 r1 d1 q1 => by
    obtain ⟨ks, rfl, hl, q1⟩ := q1
    have e1 := kD_dr d1
    subst e1
    have sz := size1000
    exact ⟨by rw [List.length_map]; omega, fun p hp => o _ _ _ _ _ s1 (r1.newM hp (m := .kt ks) rfl) (.obj p) (q1 p (r1.m0 hp))⟩⟩
/-- {}, its keys tuples -/
def vDictT : VTE := fun _ M Q => ∀ p, M p = none → Q (.obj p) (mupd M p (.dt []))
theorem v_dictT : VE X (.Dict [] [] pos) vDictT := v_pe pe_dnewT fun F M G σ H e Q' Q hs hr q o => fun p hp => o.newO hr (m := .dt []) ⟨[], rfl, rfl, .nil⟩ p hp (q p (hr.m0 hp))
def findT (kvs : List (List Key × D)) (ks : List Key) : Option D := (kvs.find? fun kv => decide (kv.1 = ks)).map (·.2)
theorem findT_val {K : PySem.W.Frag} {F : Hp} {ks : List Key} : ∀ {kvs : List (List Key × D)} {kws : List (List Key × V)}, kws.map (·.1) = kvs.map (·.1) → DRs K F (kws.map (·.2)) (kvs.map (·.2)) →
    ((findT kvs ks = none ∧ valV kws ks = none) ∨ ∃ d v, findT kvs ks = some d ∧ valV kws ks = some v ∧ DR K F v d)
  | [], kws, e, _ => by
    cases kws with
    | nil => exact .inl ⟨rfl, rfl⟩
    | cons w kws => simp at e
  | (k1, d1) :: kvs, kws, e, z => by
    cases kws with
    | nil => simp at e
    | cons w kws =>
      obtain ⟨k2, v1⟩ := w
      simp only [List.map_cons, List.cons.injEq] at e z
      cases z with
      | cons z1 z2 =>
        obtain ⟨e1, e2⟩ := e
        have e1' : k2 = k1 := e1
        subst e1'
        by_cases q : k2 = ks
        · exact .inr ⟨d1, v1, by simp [findT, q], by simp [valV, q], z1⟩
        · have := findT_val (ks := ks) e2 z2
          unfold findT valV at this ⊢
          simpa [q] using this
def oInT : VR2 := fun x y M Q => ∃ b a ks kvs, x = .obj b ∧ y = .obj a ∧ M b = some (.kt ks) ∧ M a = some (.dt kvs) ∧ Q (.bl (findT kvs ks).isSome) M
def oNotInT : VR2 := fun x y M Q => ∃ b a ks kvs, x = .obj b ∧ y = .obj a ∧ M b = some (.kt ks) ∧ M a = some (.dt kvs) ∧ Q (.bl (!(findT kvs ks).isSome)) M
theorem o_inT (hr : RmG k X.A) : OpR X (compareOp .In) (l2 X.K oInT) := fun pins s σ H x y v u Q I rx ry ⟨F, M, G, dx, dy, Q', r, da, db, ⟨b, a, ks, kvs, e1, e2, hb, ha, q⟩, o⟩ => by
  subst e1 e2
  cases da; cases db
  cases ry
  obtain ⟨_, _, hk, hkb, rfl⟩ := r.ob b _ hb
  obtain ⟨_, _, ho, hoa, kws, rfl, k1, z⟩ := r.ob a _ ha
  refine d_in (by have := hu64 hr.r; omega) I (.inr ⟨kws, ks, b, .inl hoa, rfl, hkb, rfl⟩) rx fun s' I' => ?_
  refine ⟨.bl _, H, I', rfl, ?_⟩
  rcases findT_val (ks := ks) k1 z with ⟨f1, f2⟩ | ⟨d, w, f1, f2, _⟩
  · rw [f2]
    rw [f1] at q
    exact o.stay r (.bl _) q
  · rw [f2]
    rw [f1] at q
    exact o.stay r (.bl _) q
theorem o_notInT (hr : RmG k X.A) : OpR X (compareOp .NotIn) (l2 X.K oNotInT) := fun pins s σ H x y v u Q I rx ry ⟨F, M, G, dx, dy, Q', r, da, db, ⟨b, a, ks, kvs, e1, e2, hb, ha, q⟩, o⟩ => by
  subst e1 e2
  cases da; cases db
  cases ry
  obtain ⟨_, _, hk, hkb, rfl⟩ := r.ob b _ hb
  obtain ⟨_, _, ho, hoa, kws, rfl, k1, z⟩ := r.ob a _ ha
  refine d_notIn (by have := hu64 hr.r; omega) I (.inr ⟨kws, ks, b, .inl hoa, rfl, hkb, rfl⟩) rx fun s' I' => ?_
  refine ⟨.bl _, H, I', rfl, ?_⟩
  rcases findT_val (ks := ks) k1 z with ⟨f1, f2⟩ | ⟨d, w, f1, f2, _⟩
  · rw [f2]
    rw [f1] at q
    exact o.stay r (.bl _) q
  · rw [f2]
    rw [f1] at q
    exact o.stay r (.bl _) q
variable {ti to : VTE} {i o : Expr}
/-- d[k], there -/
def vIxT (to ti : VTE) : VTE := fun e M Q => to e M fun o M1 => ti e M1 fun i M2 => ∃ p kvs b ks d, o = .obj p ∧ i = .obj b ∧ M2 p = some (.dt kvs) ∧ M2 b = some (.kt ks) ∧ findT kvs ks = some d ∧ Q d M2
theorem v_ixT (hr : RmG k X.A) (ho : VE X o to) (hi : VE X i ti) (hs : NoSl i := by exact fun _ _ => rfl) : VE X (.Subscript o i pos) (vIxT to ti) :=
  v_pe (pe_dget (by have := hu64 hr.r; omega) ho hi hs) fun F M G σ H e Q' Q hs hr q o => ⟨F, M, G, e, _, hs, hr, q, fun x H1 F1 M1 d s1 r1 d1 q1 => ⟨F1, M1, G, e, _, hs.up s1, r1, q1, fun y H2 F2 M2 d' s2 r2 d2 q2 => by
    obtain ⟨p, kvs, b, ks, dd, rfl, rfl, hp, hb, hf, q2⟩ := q2
    cases d1; cases d2
    obtain ⟨_, _, hk, hkb, rfl⟩ := r2.ob b _ hb
    obtain ⟨_, _, ho, e1, kws, rfl, k1, z⟩ := r2.ob p _ hp
    rcases findT_val (ks := ks) k1 z with ⟨f1, f2⟩ | ⟨d, w, f1, f2, f3⟩
    · rw [hf] at f1; cases f1
    · rw [hf] at f1
      injection f1 with f1
      subst f1
      exact ⟨p, w, rfl, .inr ⟨kws, ks, b, .inl e1, rfl, hkb, f2.symm⟩, o _ H2 F2 M2 _ (s1.trans s2) r2 f3 q2⟩⟩⟩
theorem put_newT {kws : List (List Key × V)} {ks : List Key} {v : V} (h : ∀ kv ∈ kws, kv.1 ≠ ks) : putK kws ks v = kws ++ [(ks, v)] := by
  unfold putK
  rw [if_neg]
  rw [List.any_eq_true]
  rintro ⟨kv, hkv, e⟩
  exact h kv hkv (of_decide_eq_true e)
theorem keys_newT {kws : List (List Key × V)} {kvs : List (List Key × D)} (e : kws.map (·.1) = kvs.map (·.1)) {ks : List Key} (h : ∀ kv ∈ kvs, kv.1 ≠ ks) : ∀ kv ∈ kws, kv.1 ≠ ks := fun kv hkv z => by
  have : kv.1 ∈ kvs.map (·.1) := by rw [← e]; exact List.mem_map_of_mem hkv
  obtain ⟨y, hy, ey⟩ := List.mem_map.mp this
  exact h y hy (ey.trans z)
/-- d[k] = v, a key that is new -/
def gSubT (to ti : VTE) : VTG := fun d e M Q => to e M fun o M1 => ti e M1 fun i M2 => ∃ p kvs b ks, o = .obj p ∧ i = .obj b ∧ M2 p = some (.dt kvs) ∧ M2 b = some (.kt ks) ∧ kvs.length < 1000 ∧ (∀ kv ∈ kvs, kv.1 ≠ ks) ∧ Q e (mupd M2 p (.dt (kvs ++ [(ks, d)])))
theorem vg_subT (hr : RmG k X.A) (ho : VE X o to) (hi : VE X i ti)
    (ha : ∀ v, assign (.Subscript o i pos) X.env v = (do
      let ov ← holding [v] (eval o X.env)
      let iv ← holding [v, ov] (eval i X.env)
      standAt pos
      holding [v, ov, iv] (setItem ov iv v)
      release [v, ov, iv] []) := by intro _; rfl) : VG X (.Subscript o i pos) (gSubT to ti) :=
  PG_imp (pg_sub ho hi (set_dict (by have := hu64 hr.r; omega)) ha) fun v σ H Q ⟨F, M, G, e, d, Q', hs, hr, dv, q, o⟩ => ⟨F, M, G, e, _, hs, hr, q, fun x H1 F1 M1 dx s1 r1 d1 q1 => ⟨F1, M1, G, e, _, hs.up s1, r1, q1, fun y H2 F2 M2 dy s2 r2 d2 q2 => by
    obtain ⟨p, kvs, b, ks, rfl, rfl, hp, hb, hl, hn, q2⟩ := q2
    cases d1; cases d2
    obtain ⟨_, _, hk, hkb, rfl⟩ := r2.ob b _ hb
    obtain ⟨_, _, ho, e1, kws, rfl, k1, z⟩ := r2.ob p _ hp
    have kl : kws.length = kvs.length := by have := congrArg List.length k1; simpa using this
    have sz := size1000
    refine ⟨p, _, rfl, .inr ⟨kws, ks, b, e1, rfl, hkb, by omega, rfl⟩, ?_⟩
    rw [put_newT (keys_newT k1 hn)]
    exact o _ _ _ _ _ (s1.trans s2) (r2.wr hp (m := .dt (kvs ++ [(ks, d)])) ⟨kws ++ [(ks, v)], rfl, by simp [k1], by rw [List.map_append, List.map_append]; exact z.app (.cons (dv.up (s1.trans s2)) .nil)⟩) (hs.up (s1.trans s2)) q2⟩⟩
end
end VL
namespace VL
open PySem PySem.Spec L2
/-- a, b = a list -/
@[simp] def gTpL (n : Nat) (t : VTGs) : VTG := fun d e M Q => ∃ xs, asL M d = some xs ∧ xs.length = n ∧ t xs e M Q
theorem vg_tupL {X : Cx} {es : List Expr} {pos : Pos} {k : Nat} {us : VTGs} {n : Nat} (hc : X.calm = true) (h : VGs X es us) (hn : (assignEach es X.env).length = n := by rfl) (hst : (assignEach es X.env).findIdx? (·.1) = none := by rfl) : VG X (.Tuple es k pos) (gTpL n us) :=
  PG_imp (pg_lst hc h hn hst) fun v σ H Q ⟨F, M, G, e, d, Q', hs, hr, dv, q, o⟩ => by
    obtain ⟨xs, ed, hl, q⟩ := q
    obtain ⟨a, vs, rfl, sq, zs⟩ := asL_at hr dv ed
    exact ⟨_, _, rfl, sq, by rw [zs.len]; exact hl, F, M, G, e, xs, Q', hs, hr, zs, q, o⟩
end VL
namespace VL
open PySem PySem.Spec L2
section
variable {X : Cx} {k : Nat} {pos : Pos} {ti to : VTE} {i o : Expr}
theorem findI_val {K : PySem.W.Frag} {F : Hp} {ks : L2.Key} : ∀ {kvs : List (L2.Key × D)} {kws : List (L2.Key × V)}, kws.map (·.1) = kvs.map (·.1) → DRs K F (kws.map (·.2)) (kvs.map (·.2)) →
    ((findD kvs ks = none ∧ valV kws ks = none) ∨ ∃ d v, findD kvs ks = some d ∧ valV kws ks = some v ∧ DR K F v d)
  | [], kws, e, _ => by
    cases kws with
    | nil => exact .inl ⟨rfl, rfl⟩
    | cons w kws => simp at e
  | (k1, d1) :: kvs, kws, e, z => by
    cases kws with
    | nil => simp at e
    | cons w kws =>
      obtain ⟨k2, v1⟩ := w
      simp only [List.map_cons, List.cons.injEq] at e z
      cases z with
      | cons z1 z2 =>
        obtain ⟨e1, e2⟩ := e
        have e1' : k2 = k1 := e1
        subst e1'
        by_cases q : k2 = ks
        · exact .inr ⟨d1, v1, by simp [findD, q], by simp [valV, q], z1⟩
        · have := findI_val (ks := ks) e2 z2
          unfold findD valV at this ⊢
          simpa [q] using this
def oInI : VR2 := fun x y M Q => ∃ j a kvs, x = .int j ∧ y = .obj a ∧ M a = some (.dk kvs) ∧ Q (.bl (findD kvs (.inl j)).isSome) M
theorem o_inI (hr : RmG k X.A) : OpR X (compareOp .In) (l2 X.K oInI) := fun pins s σ H x y v u Q I rx ry ⟨F, M, G, dx, dy, Q', r, da, db, ⟨j, a, kvs, e1, e2, ha, q⟩, o⟩ => by
  subst e1 e2
  cases da; cases db
  cases ry
  obtain ⟨_, _, ho, hoa, kws, rfl, k1, z⟩ := r.ob a _ ha
  refine d_in (by have := hu64 hr.r; omega) I (.inl ⟨kws, .inl j, .inl hoa, rfl, rfl⟩) rx fun s' I' => ?_
  refine ⟨.bl _, H, I', rfl, ?_⟩
  rcases findI_val (ks := .inl j) k1 z with ⟨f1, f2⟩ | ⟨d, w, f1, f2, _⟩
  · rw [f2]
    rw [f1] at q
    exact o.stay r (.bl _) q
  · rw [f2]
    rw [f1] at q
    exact o.stay r (.bl _) q
/-- d[k], there -/
def vIxI (to ti : VTE) : VTE := fun e M Q => to e M fun o M1 => ti e M1 fun i M2 => ∃ p kvs j d, o = .obj p ∧ i = .int j ∧ M2 p = some (.dk kvs) ∧ findD kvs (.inl j) = some d ∧ Q d M2
theorem v_ixI (hr : RmG k X.A) (ho : VE X o to) (hi : VE X i ti) (hs : NoSl i := by exact fun _ _ => rfl) : VE X (.Subscript o i pos) (vIxI to ti) :=
  v_pe (pe_dget (by have := hu64 hr.r; omega) ho hi hs) fun F M G σ H e Q' Q hs hr q o => ⟨F, M, G, e, _, hs, hr, q, fun x H1 F1 M1 d s1 r1 d1 q1 => ⟨F1, M1, G, e, _, hs.up s1, r1, q1, fun y H2 F2 M2 d' s2 r2 d2 q2 => by
    obtain ⟨p, kvs, j, dd, rfl, rfl, hp, hf, q2⟩ := q2
    cases d1; cases d2
    obtain ⟨_, _, ho, e1, kws, rfl, k1, z⟩ := r2.ob p _ hp
    rcases findI_val (ks := .inl j) k1 z with ⟨f1, f2⟩ | ⟨d, w, f1, f2, f3⟩
    · rw [hf] at f1; cases f1
    · rw [hf] at f1
      injection f1 with f1
      subst f1
      exact ⟨p, w, rfl, .inl ⟨kws, .inl j, .inl e1, rfl, f2.symm⟩, o _ H2 F2 M2 _ (s1.trans s2) r2 f3 q2⟩⟩⟩
/-- d[k] = v, a key that is new -/
def gSubI (to ti : VTE) : VTG := fun d e M Q => to e M fun o M1 => ti e M1 fun i M2 => ∃ p kvs j, o = .obj p ∧ i = .int j ∧ M2 p = some (.dk kvs) ∧ kvs.length < 1000 ∧ (∀ kv ∈ kvs, kv.1 ≠ .inl j) ∧ Q e (mupd M2 p (.dk (kvs ++ [(.inl j, d)])))
theorem vg_subI (hr : RmG k X.A) (ho : VE X o to) (hi : VE X i ti)
    (ha : ∀ v, assign (.Subscript o i pos) X.env v = (do
      let ov ← holding [v] (eval o X.env)
      let iv ← holding [v, ov] (eval i X.env)
      standAt pos
      holding [v, ov, iv] (setItem ov iv v)
      release [v, ov, iv] []) := by intro _; rfl) : VG X (.Subscript o i pos) (gSubI to ti) :=
  PG_imp (pg_sub ho hi (set_dict (by have := hu64 hr.r; omega)) ha) fun v σ H Q ⟨F, M, G, e, d, Q', hs, hr, dv, q, o⟩ => ⟨F, M, G, e, _, hs, hr, q, fun x H1 F1 M1 dx s1 r1 d1 q1 => ⟨F1, M1, G, e, _, hs.up s1, r1, q1, fun y H2 F2 M2 dy s2 r2 d2 q2 => by
    obtain ⟨p, kvs, j, rfl, rfl, hp, hl, hn, q2⟩ := q2
    cases d1; cases d2
    obtain ⟨_, _, ho, e1, kws, rfl, k1, z⟩ := r2.ob p _ hp
    have kl : kws.length = kvs.length := by have := congrArg List.length k1; simpa using this
    have sz := size1000
    refine ⟨p, _, rfl, .inl ⟨kws, .inl j, e1, rfl, by omega, rfl⟩, ?_⟩
    rw [put_new (keys_new k1 hn)]
    exact o _ _ _ _ _ (s1.trans s2) (r2.wr hp (m := .dk (kvs ++ [(.inl j, d)])) ⟨kws ++ [(.inl j, v)], rfl, by simp [k1], by rw [List.map_append, List.map_append]; exact z.app (.cons (dv.up (s1.trans s2)) .nil)⟩) (hs.up (s1.trans s2)) q2⟩⟩
end
end VL
namespace VL
open PySem PySem.Spec L2
section
variable {X : Cx} {e : Expr} {es : List Expr} {to : VTE} {t : VTA} {pos : Pos}
@[simp] def vIndex (to : VTE) (t : VTA) : VTE := fun e M Q => to e M fun x M1 => (∃ l, asP M1 x = some l) ∧ t e M1 fun xs M2 => ∃ (y : D) (ls : List D) (j : Nat) (z : D), xs = [y] ∧ asP M2 x = some ls ∧ Sh 30 y ∧ (∀ w ∈ ls, Sh 30 w) ∧ ls[j]? = some z ∧ eqD z y = true ∧ (∀ (m : Nat) (w : D), m < j → ls[m]? = some w → eqD w y = false) ∧ Q (.int j) M2
theorem asP_asL {M : Mem} {d : D} {l : List D} (h : asP M d = some l) : asL M d = some l := by
  cases d <;> first | exact h | (simp [asP] at h) | skip
  all_goals exact h
theorem asP_fz {M : Mem} {d : D} {l : List D} (h : asP M d = some l) : fz M d = .lst l := by
  unfold fz
  rw [asP_asL h]
theorem pys_get : ∀ {xs : List D} {j : Nat} {z : D}, xs[j]? = some z → (pys xs)[j]? = some (py z)
  | [], j, z, h => by simp at h
  | x :: xs, 0, z, h => by simp at h; simp [pys, h]
  | x :: xs, j + 1, z, h => by
    simp only [List.getElem?_cons_succ, pys] at h ⊢
    exact pys_get h
theorem pys_geti : ∀ {xs : List D} {j : Nat} {z : PyData}, (pys xs)[j]? = some z → ∃ w, xs[j]? = some w ∧ z = py w
  | [], j, z, h => by simp [pys] at h
  | x :: xs, 0, z, h => by simp [pys] at h; exact ⟨x, rfl, h.symm⟩
  | x :: xs, j + 1, z, h => by
    simp only [List.getElem?_cons_succ, pys] at h ⊢
    exact pys_geti h
theorem shaped_of {n : Nat} {d : D} (h : Sh n d) (hn : n ≤ 60) : SeqAt.shaped (py d) = true := by
  obtain ⟨a, b⟩ := sh_py n d h
  unfold SeqAt.shaped
  rw [a, Bool.true_and]
  exact decide_eq_true (by omega)
theorem v_index {k : Nat} {apos : Pos} {o : Expr} (hr : Room k X.A) (ho : VE X o to) (ha : VA X (e :: es) t)
    (hbase : attributeBase o "index" X.env (eval o X.env) = eval o X.env := by rfl)
    (hfew : ((backTo pos (starEach (e :: es) X.env)).all (fun x => !x.1) && (backToKw pos (keywordEach [] X.env)).all (fun x => x.1.isSome)
      && decide ((e :: es).length + ([] : List Keyword).length + (if ([] : List Keyword).isEmpty then 0 else 1) < 30)) = true := by rfl)
    (hline : (apos.endLine == pos.line) = true := by rfl) (hs : starEach (e :: es) X.env = (false, eval e X.env) :: starEach es X.env := by rfl) (hplain : (backTo pos (starEach es X.env)).any (·.1) = false := by rfl) :
    VE X (.Call (.Attribute o "index" apos) (e :: es) [] pos) (vIndex to t) :=
  v_pe (pe_bm PySem.F.plainAttrs_list PySem.F.slot_list_index PySem.F.type_list_index (mt_indexD (by have := hu64 hr; omega)) ho ha hbase hfew hline hs hplain) fun F M G σ H e Q' Q hs hr q o => ⟨F, M, G, e, _, hs, hr, q, fun v H1 F1 M1 d s1 r1 d1 ⟨⟨l, el⟩, q1⟩ => by
    obtain ⟨a, vs, rfl, h1, z1⟩ := asP_at r1 d1 el
    refine ⟨.inl ⟨rfl, vs, SqL.of h1⟩, F1, M1, G, e, _, hs.up s1, r1, q1, fun ws H2 F2 M2 ds s2 r2 d2 ⟨y, ls, j, z, ed, e2, sy, sl, hj, he, hno, q2⟩ => ?_⟩
    subst ed
    obtain ⟨w, rfl, zw⟩ := one_of d2
    have fzl := asP_fz e2
    have shl : Sh 31 (fz M2 d) := by rw [fzl]; exact sh_lst sl
    have dl := fz_dp r2 (d1.up s2) shl
    have dy : Dp X.K H2 w (py y) := DR.dp r2.sub y w (sh_noObj 30 y sy) zw
    rw [fzl] at dl shl
    refine ⟨a, w, py y, pys ls, j, py z, rfl, rfl, by simpa [py] using dl, dy, by simpa [py] using shaped_of shl (by decide), shaped_of sy (by decide), pys_get hj, he, fun m w' hm hw => ?_, o _ H2 F2 M2 _ (s1.trans s2) r2 (.int _) q2⟩
    obtain ⟨u, hu, rfl⟩ := pys_geti hw
    exact hno m u hm hu⟩
end
end VL
namespace VL
open PySem PySem.Spec L2
open PyProof.Rows (envOfC)
open LamX (TabB CodeO LamS lamEnv lamCx inv_table among_app lam_start2 run_ofS)
section
variable {X : Cx} {pins : List (Addr × Obj)} {σ : L2.St} {F G H : Hp} {M : Mem} {s : Shared}
abbrev lamO (f : Addr) (q : Str) (params : Arguments) (body : Expr) (scope : Scope) (cl : List (Str × Addr)) (pm ctv : Value) (c' : Addr) : HO := .ext fun h => h.get? f = some (PySem.W.kla_obj "<lambda>" q params body scope cl pm c' ctv)
theorem lam_ok {P : Program} {w : World} {H : Hp} {h : Heap} {f c' : Addr} {q : Str} {params : Arguments} {body : Expr} {scope : Scope} {cl : List (Str × Addr)} {pm ctv : Value} (e : h.get? f = some (PySem.W.kla_obj "<lambda>" q params body scope cl pm c' ctv)) : ObjOk P w H h f (lamO f q params body scope cl pm ctv c') :=
  ⟨e, ⟨_, e⟩, fun _ _ z st => st _ z⟩
/-- the lambda is made, and known as a thing of the memory -/
theorem lam_makeF {c P : Addr} {params : Arguments} {body : Expr} {scope : Scope} {pos : Pos} {E : Value → Shared → Prop} {Q : Value → Shared → Prop} (I : Inv X pins σ H s) (r : Rel X.K F M G H) (T : TabB X.base X.mg c P) (code : X.env.code = .ref c)
    (tab : M P = some (.tb (X.env.qual ++ "<lambda>"))) (nodef : defaultsOf params X.env = ([], [])) (seen : ∀ y ∈ scope.names, y.2 = .free → ∃ c, X.env.cells.lookup y.1 = some c)
    (go : ∀ (f : Addr) (F1 H1 : Hp) (s' : Shared), Same F F1 → M f = none → Rel X.K F1 (mupd M f (.lam f (X.env.qual ++ "<lambda>") params body scope (cloFrom X.env.cells scope.names []))) G H1 → Inv X pins σ H1 s' → Q (.ref f) s') :
    wpAny (model X.prog X.w) X.A (eval (.Lambda params body scope pos) X.env) Q E s := by
  obtain ⟨_, _, ho, atP, ps, rfl, tri, amg⟩ := r.ob P _ tab
  refine PySem.W.kla_eval nodef ?_
  have bP : s.heap.BuiltinsAt X.mg P := T.bm.keeps I.bk
  have objP : s.heap.get? P = some { cls := .none, data := .fields ps } := I.hok P _ atP
  cases hc : codeAmong pos ps.toList with
  | none =>
    refine PySem.W.kla_makeFunction (mg := X.mg) (c := c) (P := P) (ps := ps) (closure_ok seen) I.ok.glob (I.mod.glob.keeps I.bk) code (T.code.keeps I.bk) objP tri hc T.gP bP fun c' ctv h' tk ext above below rec_ tabAt => ?_
    obtain ⟨c2, oc, vs, t, e2, hoc, hd, hv⟩ := rec_
    cases e2
    have size_le : s.heap.objs.size ≤ h'.objs.size := Nat.le_trans above (Nat.le_of_lt below)
    have newC : H c' = none := I.hok.fresh above
    have PneC : P ≠ c' := ne_of_none atP newC
    have I0 := inv_table (t' := tk) (more := #[rawInt pos.line, rawInt pos.col, .ref c']) (h' := h') I atP (fun b o hb e => ext b o hb e) tabAt above ⟨oc, vs, t, hoc, hd, hv⟩
    have I1 := I0.laid (a := h'.objs.size) (o := lamO h'.objs.size (X.env.qual ++ "<lambda>") params body scope (cloFrom X.env.cells scope.names []) ((X.mg "__name__").getD .none) ctv c') (t' := tk) (h' := h'.push (PySem.W.kla_obj "<lambda>" (X.env.qual ++ "<lambda>") params body scope (cloFrom X.env.cells scope.names []) ((X.mg "__name__").getD .none) c' ctv)) (fun b u e => Heap.get?_push_of_some _ e) (Nat.le_refl _) (lam_ok (Heap.get?_push_size _ rfl))
    have list_eq : (ps ++ #[rawInt pos.line, rawInt pos.col, .ref c']).toList = ps.toList ++ [rawInt pos.line, rawInt pos.col, .ref c'] := by simp
    have r1 := r.newF (o := CodeO c' (X.env.qual ++ "<lambda>")) newC
    have sF := r.sF (o := CodeO c' (X.env.qual ++ "<lambda>")) newC
    have r2 := r1.wr (p := P) tab (m := .tb (X.env.qual ++ "<lambda>")) (o := .tbl (ps ++ #[rawInt pos.line, rawInt pos.col, .ref c'])) ⟨_, rfl, by rw [list_eq]; exact PySem.TriplesOk_snoc _ _ _ _ tri, fun p' cv hcv => by
      rw [list_eq] at hcv
      rcases among_app _ tri hcv with z | z
      · obtain ⟨c0, e1, e2⟩ := amg p' cv z
        exact ⟨c0, e1, sF _ _ e2⟩
      · exact ⟨c', z, upd_same⟩⟩
    rw [mupd_self tab] at r2
    have comm : upd (upd H c' (CodeO c' (X.env.qual ++ "<lambda>"))) P (.tbl (ps ++ #[rawInt pos.line, rawInt pos.col, .ref c'])) = upd (upd H P (.tbl (ps ++ #[rawInt pos.line, rawInt pos.col, .ref c']))) c' (CodeO c' (X.env.qual ++ "<lambda>")) := by
      funext b
      by_cases h1 : b = P
      · rw [h1, upd_same, upd_ne PneC, upd_same]
      · by_cases h2 : b = c'
        · rw [h2, upd_ne (Ne.symm PneC), upd_same, upd_same]
        · rw [upd_ne h1, upd_ne h2, upd_ne h2, upd_ne h1]
    rw [comm] at r2
    have fr0 : (upd (upd H P (.tbl (ps ++ #[rawInt pos.line, rawInt pos.col, .ref c']))) c' (CodeO c' (X.env.qual ++ "<lambda>"))) h'.objs.size = none := by
      rw [upd_ne (Nat.ne_of_gt below), upd_ne (Nat.ne_of_gt (Nat.lt_of_lt_of_le (Heap.lt_size objP) size_le))]
      exact I.hok.fresh size_le
    exact go h'.objs.size _ _ _ sF (r2.m0 fr0) (r2.newM fr0 ⟨_, _, c', rfl, upd_same⟩) I1
  | some cv =>
    obtain ⟨c', rfl, inF⟩ := amg pos cv hc
    refine PySem.W.kla_makeFunctionHit (mg := X.mg) (c := c) (P := P) (ps := ps) (closure_ok seen) I.ok.glob (I.mod.glob.keeps I.bk) code (T.code.keeps I.bk) objP tri hc bP fun ctv h' tk ext size_le => ?_
    have I0 : Inv X pins σ H { s with heap := h', toks := tk } := I.kept fun b o e => ext b o e
    have I1 := I0.laid (a := h'.objs.size) (o := lamO h'.objs.size (X.env.qual ++ "<lambda>") params body scope (cloFrom X.env.cells scope.names []) ((X.mg "__name__").getD .none) ctv c') (t' := tk) (h' := h'.push (PySem.W.kla_obj "<lambda>" (X.env.qual ++ "<lambda>") params body scope (cloFrom X.env.cells scope.names []) ((X.mg "__name__").getD .none) c' ctv)) (fun b u e => Heap.get?_push_of_some _ e) (Nat.le_refl _) (lam_ok (Heap.get?_push_size _ rfl))
    have fr0 : H h'.objs.size = none := I.hok.fresh size_le
    exact go h'.objs.size F _ _ (Same.refl F) (r.m0 fr0) (r.newM fr0 ⟨_, _, c', rfl, inF⟩) I1
def vLam (P : Addr) (q : Str) (params : Arguments) (body : Expr) (scope : Scope) (cl : List (Str × Addr)) : VTE := fun _ M Q => M P = some (.tb q) ∧ ∀ f, M f = none → Q (.obj f) (mupd M f (.lam f q params body scope cl))
theorem v_lambda {c P : Addr} {params : Arguments} {body : Expr} {scope : Scope} {pos : Pos} (T : TabB X.base X.mg c P) (code : X.env.code = .ref c) (L : LamS X.env.scope scope) (nodef : defaultsOf params X.env = ([], [])) :
    VE X (.Lambda params body scope pos) (vLam P (X.env.qual ++ "<lambda>") params body scope (cloFrom X.env.cells scope.names [])) :=
  ⟨fun pins s σ H Q I ⟨F, M, G, e, Q', hs, hr, ⟨tab, told⟩, o⟩ => lam_makeF I hr T code tab nodef (L.has I.ok) fun f F1 H1 s' sF mf r1 I1 => ⟨.ref f, H1, I1, rfl, o _ H1 F1 _ _ sF r1 (.obj f) (told f mf)⟩⟩
/-- look(), f known as a thing of the memory; X made it, and was at s, H when it called -/
theorem pe_lookG {CXg : CXT} {Eg : XK} {Ng : List Str} {qg : Str} {sg : Scope} {g : Addr} {cdg : Value} {params : Arguments} {body : Expr} {scope : Scope} {k i : Nat} {a : Str} {pn : List (Addr × Obj)} {xe : Value → Shared → Prop} {W : WX} {tb : XK → TE} {p1 p2 : Pos} {A' : Around} {stack' : List Env} {s' : Shared} {H' : Hp}
    (I : Inv X pins σ H s) (L : LamS X.env.scope scope) (over : ∀ (HZ : Hp) (h : Heap), Un (frs stack') [] H' HZ s'.heap h → Un (frs X.stack) [] H HZ s.heap h)
    (binds : ∀ (q : Str) (cl : List (Str × Addr)) (pm cv ctv : Value), bindArgs (PySem.W.kla_fn "<lambda>" q params body scope cl pm cv ctv) ⟨[], []⟩ = pure [])
    (tk : Takes ((cxOf CXg X.prog X.w X.K X.mg X.base Ng qg sg g cdg A' stack' s' H' Eg).tr pn xe) W) (room : RmG (k + 1) (A'.deeper (envOfC qg sg s'.heap.objs.size g cdg)))
    (run : ∀ (A : Around) (outer : List Env) (s : Shared) (H : Hp) (E : XK) (f c' : Addr), RmG k (A.deeper (lamEnv X scope s.heap.objs.size f c')) → PE (lamCx X A outer s H E scope f c') body (tb E))
    (hN : Ng[i]? = some a) (hv : Vis sg a) (hd : (a == ("__debug__" : Str)) = false := by decide) (hcd : (a == ("__classdict__" : Str)) = false := by decide) :
    PE ((cxOf CXg X.prog X.w X.K X.mg X.base Ng qg sg g cdg A' stack' s' H' Eg).tr pn xe) (.Call (.Name a p1) [] [] p2)
      (fun σZ HZ Q => ∃ (f c' : Addr) (pm ctv : Value), σZ[i]? = some (some (.ref f)) ∧ HZ f = some (lamO f (X.env.qual ++ "<lambda>") params body scope (cloFrom X.env.cells scope.names []) pm ctv c') ∧ HZ c' = some (CodeO c' (X.env.qual ++ "<lambda>")) ∧ tb (WE W σZ) σ HZ Q) := by
  refine ⟨fun pinsZ sZ σZ HZ Q IZ ⟨f, c', pm, ctv, at_i, atF, codeZ, told⟩ => ?_⟩
  refine wpAny_Call_Name_kw (thn ((pe_var (pos := p1) (i := i) hN hv hd hcd).run pinsZ sZ σZ HZ (fun v H1 => v = .ref f ∧ H1 = HZ) IZ ⟨.ref f, at_i, rfl, rfl⟩) fun u s1 ⟨v, H1, I1, r1, ev, eH⟩ => ?_)
  subst ev
  rw [eH] at I1
  obtain rfl : u = Value.ref f := r1
  have atf1 : s1.heap.get? f = some (PySem.W.kla_obj "<lambda>" (X.env.qual ++ "<lambda>") params body scope (cloFrom X.env.cells scope.names []) pm c' ctv) := (I1.hok f _ atF).1
  have grew : Un (frs X.stack) [] H HZ s.heap s1.heap := over _ _ I1.base
  obtain ⟨⟨oc, vs, t, hoc, hdc, hvc⟩, _, _⟩ := I1.hok c' _ codeZ
  refine PySem.W.callWith_F0 ⟨_, _, _, _, atf1⟩ (wpAny_call (codeAny_mono (R := CR (L2.CX X.prog X.w) (envOfC qg sg s'.heap.objs.size g cdg :: stack') X.prog X.w HZ s1 Q (WE W σZ)) ?_ fun res s' done => ?_))
  · refine PySem.W.kla_callFunE room.r.depth atf1 rfl L.co L.gen rfl ⟨c', oc, vs, t, rfl, hoc, hdc, hvc⟩ ?_
    change wpAny _ _ (bindArgs _ ⟨[], []⟩) _ _ _
    rw [binds]
    refine wpAny_pure (wpAny_newFunctionEnv (fun y hy => (L.own y hy).2) (fun y hy => absurd hy (by simp)) (fun h₁ hns same => ⟨I1.nolimit.fresh _ same, ?_⟩) L.kind)
    show codeAny _ _ (.expr body (lamEnv X scope s1.heap.objs.size f c')) _ _
    have J := lam_start2 (f := f) (c' := c') (scope := scope) (E := WE W σZ) (tk := s1.toks + ([] : List (Str × Value)).length) I L I1.env0 room.r.hd grew hns (fun b o e => same.extBut b o (Nat.ne_of_lt (Heap.lt_size e)) (Heap.get?_push_of_some _ e))
    refine PySem.W.kla_codeExpr (wpAny_mono ((run _ _ s1 HZ (WE W σZ) f c' ⟨room.r.deeper _, room.g⟩).run [] _ _ HZ Q J told) (fun v s' done => ?_) fun _ _ z => z)
    obtain ⟨y, H', J', rv, q⟩ := done
    exact ⟨y, H', J'.os, J'.bare, J'.base, J'.hok, rv, q⟩
  · cases res with
    | error e => exact passAt tk σZ pinsZ HZ s1 e s' I1 done
    | ok fl =>
      cases fl with
      | ret u => exact I1.after done
      | next => exact False.elim done
      | brk => exact False.elim done
      | cont => exact False.elim done
end
end VL
namespace VL
open PySem PySem.Spec L2
open PyProof.Rows (envOfC)
open LamX (TabB CodeO LamS lamEnv lamCx run_ofS)
/-- a lambda, and what its body tells -/
structure LamT where
  params : Arguments
  body : Expr
  scope : Scope
  t : VTEX
/-- what is known of a lambda of X -/
structure LamOk (X : Cx) (k : Nat) (z : LamT) : Prop where
  sc : LamS X.env.scope z.scope
  noarg : ∀ (q : Str) (cl : List (Str × Addr)) (pm cv ctv : Value), bindArgs (PySem.W.kla_fn "<lambda>" q z.params z.body z.scope cl pm cv ctv) ⟨[], []⟩ = pure []
  run : ∀ (A : Around) (outer : List Env) (s : Shared) (H : Hp) (E : XK) (f c' : Addr), RmG k (A.deeper (lamEnv X z.scope s.heap.objs.size f c')) → VEX (lamCx X A outer s H E z.scope f c') E z.body z.t
/-- y, z = (None, None); try: z = a(); except xe as n: y = n; return (y, z) -/
structure CatchT (x a y z n xe : Str) (st : Stmt) : Prop where
  sc : FnScope [a, y, z, n] [a] (defScope st)
  bind : ∀ (kV doc pm : Value) (an : Option Addr) (cdv ct : Value) (us : List Value), us.length = [a].length → bindArgs (PySem.W.fnOf x x (defArgs st) (defBody st) (defScope st) .none kV doc pm an cdv ct) ⟨us, []⟩ = pure ([a].zip us)
  la : (defScope st).names.lookup a = some .local
  ly : (defScope st).names.lookup y = some .local
  lz : (defScope st).names.lookup z = some .local
  ln : (defScope st).names.lookup n = some .local
  lx : (defScope st).names.lookup xe = some .globalImplicit
  da : (a == ("__debug__" : Str)) = false
  da2 : (a == ("__classdict__" : Str)) = false
  dx : (xe == ("__debug__" : Str)) = false
  dn : (n == ("__debug__" : Str)) = false
  dn2 : (n == ("__classdict__" : Str)) = false
  dy : (y == ("__debug__" : Str)) = false
  dy2 : (y == ("__classdict__" : Str)) = false
  dz : (z == ("__debug__" : Str)) = false
  dz2 : (z == ("__classdict__" : Str)) = false
  text : ∃ (p1 p2 p3 p4 p5 p6 p7 q1 q2 q3 q4 q5 q6 q7 q8 q9 r1 r2 r3 r4 r5 : Pos) (k1 k2 k3 j1 j2 : Nat), defBody st = [.Assign [.Tuple [.Name y p1, .Name z p2] k1 p3] (.Tuple [.Constant .none j1 p4, .Constant .none j2 p5] k2 p6) p7,
      .Try [.Assign [.Name z q1] (.Call (.Name a q2) [] [] q3) q4] [.ExceptHandler (some (.Name xe q5)) (some n) [.Assign [.Name y q6] (.Name n q7) q8] q9] [] [] r1, .Return (some (.Tuple [.Name y r2, .Name z r3] k3 r4)) r5]
    ∧ (∀ (L g : Addr) (cdv : Value), swappedStores [.Tuple [.Name y p1, .Name z p2] k1 p3] (.Tuple [.Constant .none j1 p4, .Constant .none j2 p5] k2 p6) (envOfC x (defScope st) L g cdv) = pure none)
    ∧ (∀ (L g : Addr) (cdv : Value), swapsWithSole [.Tuple [.Name y p1, .Name z p2] k1 p3] (.Tuple [.Constant .none j1 p4, .Constant .none j2 p5] k2 p6) p7.line (envOfC x (defScope st) L g cdv) = pure false)
    ∧ (∀ (L g : Addr) (cdv : Value), swapsWith (.Call (.Name a q2) [] [] q3) (some (.Name z q1)) q4.line (envOfC x (defScope st) L g cdv) = pure false)
    ∧ (∀ (L g : Addr) (cdv : Value), swapsWith (.Name n q7) (some (.Name y q6)) q8.line (envOfC x (defScope st) L g cdv) = pure false)
section
variable {X : Cx} {x a y z n xe : Str} {st : Stmt} {CS : Addr} {k : Nat} {pins : List (Addr × Obj)} {σ : L2.St} {F G H' H : Hp} {M : Mem} {s s' : Shared}
abbrev clOf (X : Cx) (z : LamT) : List (Str × Addr) := cloFrom X.env.cells z.scope.names []
/-- the def that catches, run over a lambda that X made -/
theorem caught_core (T : CatchT x a y z n xe st) {w : LamT} (LO : LamOk X k w) {g : Addr} {oc : Value} {od : Option Addr} {dV kV doc pm cdv ct : Value} {an : Option Addr} {osl : Array (Option Value)}
    (lk : X.K.lookup g = some ⟨oc, od, .func (PySem.W.fnOf x x (defArgs st) (defBody st) (defScope st) dV kV doc pm an cdv ct), osl⟩) (hcd : PySem.W.codeIn X.K cdv x = true) (err : X.mg xe = some (.ref CS))
    (I : Inv X pins σ H s) {A' : Around} {stack' : List Env} (e0 : Env0 X.prog X.w X.K X.mg X.base A' stack' s' H') (over : ∀ (HZ : Hp) (h : Heap), Un (frs stack') [] H' HZ s'.heap h → Un (frs X.stack) [] H HZ s.heap h) (room : RmG (k + 2) A')
    {f : Addr} (hb : BindsTo s' (PySem.W.fnOf x x (defArgs st) (defBody st) (defScope st) dV kV doc pm an cdv ct) ⟨[.ref f], []⟩ ([a].zip [.ref f])) {e : VEnv} {Q' : VK} {Q : L2.VK}
    (r1' : Rel X.K F M G H') (hs : SR X.K F σ e) (mf : M f = some (.lam f (X.env.qual ++ "<lambda>") w.params w.body w.scope (clOf X w)))
    (told : w.t e M (fun d M' => Q' (.tup [.non, d]) M') (fun C d M' => PySem.W.exmOne X.K (.ref C) (.ref CS) = some true ∧ Q' (.tup [.exc C d, .non]) M')) (o : OutE X.K F G Q' Q) :
    codeAny (model X.prog X.w) A' (.call (.ref g) ⟨[.ref f], []⟩) (CR CX0 stack' X.prog X.w H' s' Q E0) s' := by
  obtain ⟨p1, p2, p3, p4, p5, p6, p7, q1, q2, q3, q4, q5, q6, q7, q8, q9, r1, r2, r3, r4, r5, k1, k2, k3, j1, j2, text, s1, s2, s3, s4⟩ := T.text
  have Sg := T.sc
  refine run_ofS (N := [a, y, z, n]) (ps := [a]) (us := [.ref f]) (vs := [.ref f]) lk hcd Sg room.r e0 hb (.cons rfl .nil) rfl fun _ => ?_
  rw [text]
  have step1 : PS (cxOf CX0 X.prog X.w X.K X.mg X.base [a, y, z, n] x (defScope st) g cdv A' stack' s' H' E0) (.Assign [.Tuple [.Name y p1, .Name z p2] k1 p3] (.Tuple [.Constant .none j1 p4, .Constant .none j2 p5] k2 p6) p7) _ :=
    ps_asg (pe_tup (pa_cons pe_non (pa_cons pe_non pa_nil))) (pg_tup rfl (pgs_cons (pg_name (i := 1) Sg.nd rfl (.inl T.ly) (.inr T.ly)) (pgs_cons (pg_name (i := 2) Sg.nd rfl (.inl T.lz) (.inr T.lz)) pgs_nil))) (s2 _ _ _) (s1 _ _ _)
  have step2 : PS (cxOf CX0 X.prog X.w X.K X.mg X.base [a, y, z, n] x (defScope st) g cdv A' stack' s' H' E0) (.Try [.Assign [.Name z q1] (.Call (.Name a q2) [] [] q3) q4] [.ExceptHandler (some (.Name xe q5)) (some n) [.Assign [.Name y q6] (.Name n q7) q8] q9] [] [] r1) _ :=
    ps_try_keep (i := 3) rfl rfl rfl Sg.nd rfl T.ln ⟨T.lx, T.dx, .inl err⟩ (fun W pn xe' tk _ => pss_one (ps_set (i := 2) Sg.nd rfl (.inl T.lz) (pe_lookG (i := 0) (tb := fun E => lEX X.K E w.t) I LO.sc over LO.noarg tk ⟨room.r.deeper _, room.g⟩ (fun A outer s H E f c' hr => LO.run A outer s H E f c' hr) rfl (.inl T.la) T.da T.da2) (s3 _ _ _) (.inr T.lz)))
      (fun a' oe cls d pn _ _ => pss_one (ps_set (i := 1) Sg.nd rfl (.inl T.ly) (pe_var (i := 3) rfl (.inl T.ln) T.dn T.dn2) (s4 _ _ _) (.inr T.ly)))
  have step3 : PS (cxOf CX0 X.prog X.w X.K X.mg X.base [a, y, z, n] x (defScope st) g cdv A' stack' s' H' E0) (.Return (some (.Tuple [.Name y r2, .Name z r3] k3 r4)) r5) _ :=
    ps_ret (pe_tup (pa_cons (pe_var (i := 1) rfl (.inl T.ly) T.dy T.dy2) (pa_cons (pe_var (i := 2) rfl (.inl T.lz) T.dz T.dz2) pa_nil)))
  refine ⟨_, pss_cons step1 (pss_cons step2 (pss_one step3)), ?_⟩
  refine ⟨by simp [sizeLine_eq], fun p0 hp0 => ?_⟩
  have s0 := r1'.sF (o := .tup [.non, .non]) hp0
  have r1z := r1'.newF (o := .tup [.non, .non]) hp0
  refine ⟨p0, _, rfl, SqT.of upd_same, rfl, _, _, rfl, _, _, rfl, rfl, ?_⟩
  obtain ⟨_, _, ho, atF, pm', ctv', c', rfl, inF⟩ := r1z.ob f _ mf
  refine ⟨f, c', pm', ctv', rfl, atF, r1z.sub _ _ inF, _, M, G, e, _, _, hs.up s0, r1z, told, fun v H2 F2 M2 d sF2 r2 dv q2 => ?_, fun C dx v d H2 F2 M2 sF2 r2 hx dv q2 => ?_⟩
  · refine ⟨.non, rfl, v, rfl, by simp [sizeLine_eq], fun p' hp => ?_⟩
    have sp := r2.sF (o := .tup [.non, v]) hp
    exact o _ _ _ M2 _ ((s0.trans sF2).trans sp) (r2.newF hp) (.tup (SqT.of upd_same) (.cons .non (.cons (dv.up sp) .nil))) q2
  · refine ⟨C, dx, rfl, rfl, q2.1, fun a' ha => ⟨.ref a', rfl, fun ha2 => ⟨.ref a', rfl, .non, rfl, by simp [sizeLine_eq], fun p' hp => ?_⟩⟩⟩
    have sa := r2.sF (o := exF a' C dx) ha
    have r3' := r2.newF (o := exF a' C dx) ha
    have sp := r3'.sF (o := .tup [.ref a', .non]) hp
    exact o _ _ _ M2 _ (((s0.trans sF2).trans sa).trans sp) (r3'.newF hp) (.tup (SqT.of upd_same) (.cons (.exc (sp _ _ upd_same) (sp _ _ (sa _ _ hx)) ((dv.up sa).up sp)) (.cons .non .nil))) q2.2
end
end VL
namespace VL
open PySem PySem.Spec L2
open PyProof.Rows
/-- a reading, told above F0 -/
def lEF (K : PySem.W.Frag) (F0 : Hp) (t : VTE) : TE := fun σ H Q => ∃ F M G e Q', Same F0 F ∧ SR K F σ e ∧ Rel K F M G H ∧ t e M Q' ∧ OutE K F G Q' Q
def VEF (X : Cx) (F0 : Hp) (e : Expr) (t : VTE) : Prop := PE X e (lEF X.K F0 t)
section
variable {X : Cx} {F0 : Hp} {a b : Expr} {ta tb : VTE} {pos : Pos}
theorem vf_of (h : VE X a ta) : VEF X F0 a ta := PE_imp h fun σ H Q ⟨F, M, G, e, Q', _, hs, hr, q, o⟩ => ⟨F, M, G, e, Q', hs, hr, q, o⟩
theorem vf_ix (ha : VEF X F0 a ta) (hb : VE X b tb) (hs : PlainIx b := by exact fun _ _ => rfl) : VEF X F0 (.Subscript a b pos) (vOp oIx ta tb) :=
  PE_imp (pe_ix o_ix ha hb hs) fun σ H Q ⟨F, M, G, e, Q', s0, hs, hr, q, o⟩ => ⟨F, M, G, e, _, s0, hs, hr, q, fun x H1 F1 M1 d s1 r1 d1 q1 => ⟨F1, M1, G, e, _, hs.up s1, r1, q1, fun y H2 F2 M2 d' s2 r2 d2 q2 => ⟨F2, M2, G, d, d', Q', r2, d1.up s2, d2, q2, o.up (s1.trans s2)⟩⟩⟩
end
/-- an item's rule, X's state at the block's start known -/
def ItemL (X : Cx) (elt : Expr) (scope : Scope) (te : VEnv → VTE) : Prop :=
  ∀ (s0 : Shared) (K0 : Hp) (C : Addr) (cl : List (Str × Addr)) (its : List Addr) (pins : List (Addr × Obj)) (σ : L2.St) (F0 : Hp) (e : VEnv),
    Inv X pins σ K0 s0 → (∀ b ∈ its, (b ∈ X.ex ∨ X.s_0.heap.objs.size ≤ b) ∧ b ≠ X.env.locals ∧ (∀ x c, X.env.cells.lookup x = some c → c ≠ b) ∧ ∀ p ∈ X.pn ++ pins, p.1 ≠ b) → SR X.K F0 σ e → VEF (X.blk s0 K0 scope (compEnvC scope cl C X.env) its) F0 elt (te e)
section
variable {X : Cx} {elt tg iter : Expr} {scope : Scope} {own : List (Str × Nat)} {ti : VTI} {g : VTG} {g0 : TG} {te : VEnv → VTE} {pos : Pos}
/-- what the loop keeps: i turns are done, the list at D holds accV -/
def Kept (X : Cx) (F1 G : Hp) (nl : Addr) (w : VIt) (P : Nat → List D → Mem → Prop) (i : Nat) (Hc : Hp) : Prop :=
  ∃ Fc Mc acc accV, Same F1 Fc ∧ Rel X.K Fc Mc (upd G nl (.lst accV)) Hc ∧ DRs X.K Fc accV acc ∧ P i acc Mc
theorem lcL_core {pins : List (Addr × Obj)} {s : Shared} {σ : L2.St} {F G H : Hp} {M : Mem} {e : VEnv} {pos' : Pos} {use : Option (Value → Sem Unit)} {Qf : Value → Shared → Prop} {Qd : List D → Mem → Prop}
    (hc : X.calm = true) (hN : X.N.Nodup) (I : Inv X pins σ H s) (hi : VI X tg iter ti) (ok : BlkOk X.N X.env.scope scope own) (hg : LcG X tg scope g g0 (own.map (·.2))) (he : ItemL X elt scope te)
    (flat : ∀ x, foldedSetIterable iter X.env x = pure x) (slots : SR X.K F σ e) (rel : Rel X.K F M G H)
    (told : ti e M fun w M1 => ∃ P : Nat → List D → Mem → Prop, P 0 [] M1 ∧ (∀ i acc M, i ≤ w.ds.length → P i acc M → w.ok M) ∧
      (∀ i d acc M, w.ds[i]? = some d → P i acc M → g d (vwipe e (own.map (·.2))) M fun e2 M2 => te e e2 M2 fun y M4 => acc.length < sizeLine ∧ P (i + 1) (acc ++ [y]) M4) ∧ ∀ acc M, P w.ds.length acc M → Qd acc M)
    (post : ∀ (nl C : Addr) (s' : Shared) (m : Str → Option Value) (H' F' : Hp) (M' : Mem) (acc : List D) (accV : List V), Inv X pins σ H' s' → Same F F' → Rel X.K F' M' (upd G nl (.lst accV)) H' → G nl = none → DRs X.K F' accV acc → Qd acc M' → s'.heap.Ns C m → FpOk X pins H' C →
      compPost (model X.prog X.w) X.A X.xe use Qf (.ref nl) C (.ok .next) s') :
    wpAny (model X.prog X.w) X.A (comprehension (.ListComp elt [⟨tg, iter, [], 0⟩] scope pos) scope X.env pos' (newList []) false (eval iter X.env) use) Qf X.xe s := by
  have closed : ∀ y ∈ scope.names, y.2 = .free → ∃ c, X.env.cells.lookup y.1 = some c := fun y hy q =>
    (ok.free y hy q).elim (fun k => I.ok.has _ (.inl k)) fun k => I.ok.has _ (.inr k)
  have walked := hi.run pins s σ H (fun J H1 => ∃ w F1 M1, Same F F1 ∧ Rel X.K F1 M1 G H1 ∧ VWalk X.K F1 J w ∧ ∃ P : Nat → List D → Mem → Prop, P 0 [] M1 ∧ (∀ i acc M, i ≤ w.ds.length → P i acc M → w.ok M) ∧
    (∀ i d acc M, w.ds[i]? = some d → P i acc M → g d (vwipe e (own.map (·.2))) M fun e2 M2 => te e e2 M2 fun y M4 => acc.length < sizeLine ∧ P (i + 1) (acc ++ [y]) M4) ∧ ∀ acc M, P w.ds.length acc M → Qd acc M) I
    ⟨F, M, G, e, _, slots, rel, told, fun J w H1 F1 M1 s1 r1 hw z => ⟨w, F1, M1, s1, r1, hw, z⟩⟩
  refine wpAny_comprehension_free rfl flat (closure_ok closed) ok.kind (fun y hy q => (ok.uniq y hy).trans (by rw [q])) (thn walked fun xv sa ha => thn ha ?_)
  rintro itv sb ⟨it, its, tn, J, Hb, rfl, Ib, turn, tn0, itsOk, w, F1, M1, sF, r1, hw, P, p0, pok, pstep, pend⟩
  refine wpAny_newObj_type (newEnv_comp ?_) (show 0 ≤ sizeLine by decide)
  obtain ⟨nl, hD⟩ : ∃ nl, nl = sb.heap.objs.size := ⟨_, rfl⟩
  have newD : Hb nl = none := by rw [hD]; exact Ib.fresh
  have gD : G nl = none := r1.g0 newD
  obtain ⟨sl, hsl⟩ : ∃ sl : Shared, sl = { sb with heap := sb.heap.push { cls := .type "list", data := .seq ([] : List Value).toArray } } := ⟨_, rfl⟩
  have old : ∀ b o, sb.heap.get? b = some o → sl.heap.get? b = some o := fun b o q => by rw [hsl]; exact Heap.get?_push_of_some _ q
  have Il : Inv X pins σ (upd Hb nl (.lst [])) sl := by
    have z := Ib.lnew (ys := []) (t' := sb.toks) (its := []) .nil (Nat.zero_le _)
    rw [hsl, hD]
    exact z
  have small : ∀ b ∈ its, b < nl := fun b hb => by
    obtain ⟨o, q, _⟩ := turn.obj _ _ tn0 b hb
    rw [hD]
    exact Heap.lt_size q
  have itsL : ∀ b ∈ its, FpOk X pins (upd Hb nl (.lst [])) b ∧ b < sl.heap.objs.size := fun b hb => by
    have lt := small b hb
    obtain ⟨z0, z⟩ := itsOk b hb
    refine ⟨⟨by rw [upd_ne (Nat.ne_of_lt lt)]; exact z0, z⟩, ?_⟩
    obtain ⟨o, q, _⟩ := turn.obj _ _ tn0 b hb
    exact Heap.lt_size (old b o q)
  have tnL : tn 0 sl.heap := turn.keep _ _ _ tn0 fun b _ => old b
  have others : ∀ b ∈ its, (b ∈ X.ex ∨ X.s_0.heap.objs.size ≤ b) ∧ b ≠ X.env.locals ∧ (∀ x c, X.env.cells.lookup x = some c → c ≠ b) ∧ ∀ p ∈ X.pn ++ pins, p.1 ≠ b := fun b hb => by
    obtain ⟨⟨_, v1, _, v2, v3, v4⟩, _⟩ := itsL b hb
    exact ⟨v2, v1, v3, v4⟩
  have start := block_start Il ok hN itsL
  have item := he sl (upd Hb nl (.lst [])) sl.heap.objs.size (cellsFrom (sl.heap.objs.size + 1) scope.names (cloFrom X.env.cells scope.names [])) its pins σ F e Il others slots
  have store := hg.pg sl (upd Hb nl (.lst [])) sl.heap.objs.size (cellsFrom (sl.heap.objs.size + 1) scope.names (cloFrom X.env.cells scope.names [])) its
  have went : ∀ b ∈ its, (upd Hb nl (.lst [])) b = none := fun b hb => (itsL b hb).1.1
  have begun : Kept X F1 G nl w P 0 (upd Hb nl (.lst [])) := ⟨F1, M1, [], [], Same.refl F1, r1.hide newD, .nil, p0⟩
  rw [← hsl, ← hD]
  show codeAny _ _ (.compStart _ 0 (.ref it) (.ref nl) (compEnvC scope (cellsFrom (sl.heap.objs.size + 1) scope.names (cloFrom X.env.cells scope.names [])) sl.heap.objs.size X.env)) (compPost (model X.prog X.w) X.A X.xe use Qf (.ref nl) sl.heap.objs.size) { sl with heap := pushCells (sl.heap.push { cls := .type "dict", data := .dict #[] }) scope.names }
  obtain ⟨ce, hce⟩ : ∃ ce, ce = compEnvC scope (cellsFrom (sl.heap.objs.size + 1) scope.names (cloFrom X.env.cells scope.names [])) sl.heap.objs.size X.env := ⟨_, rfl⟩
  have at_C : ce.locals = sl.heap.objs.size := by rw [hce] <;> rfl
  obtain ⟨sc, hsc⟩ : ∃ sc : Shared, sc = { sl with heap := pushCells (sl.heap.push { cls := .type "dict", data := .dict #[] }) scope.names } := ⟨_, rfl⟩
  have tnC : tn 0 sc.heap := turn.keep _ _ _ tnL fun b _ o q => by rw [hsc]; exact pushCells_keeps _ _ _ _ (Heap.get?_push_of_some _ q)
  rw [← hce] at start item store ⊢
  rw [← hsc] at start ⊢
  obtain ⟨Hl, hHl⟩ : ∃ Hl, Hl = upd Hb nl (.lst []) := ⟨_, rfl⟩
  rw [← hHl] at Il itsL start item store went begun
  have fine : ∀ {σ1 : L2.St} {H1 : Hp} {s1 : Shared}, Inv (X.blk sl Hl scope ce its) [] σ1 H1 s1 → (∀ b ∈ its, H1 b = none) → ∀ b ∈ its, FpOk (X.blk sl Hl scope ce its) [] H1 b := fun {σ1 H1 s1} I1 none1 b hb => by
    obtain ⟨u1, u2⟩ := I1.ok.exf b hb
    exact ⟨none1 b hb, u1, I1.ok.exfs b hb, Or.inl hb, u2, fun p hp => by cases hp⟩
  have loop : codeAny (model X.prog X.w) X.A (.compLoop (.ListComp elt [⟨tg, iter, [], 0⟩] scope pos) 0 (.ref it) (.ref nl) ce) (compPost (model X.prog X.w) X.A X.xe use Qf (.ref nl) sl.heap.objs.size) sc := by
    refine compLoop_any (fun left s1 => ∃ i H1, Inv (X.blk sl Hl scope ce its) [] (wipe σ (own.map (·.2))) H1 s1 ∧ tn i s1.heap ∧ (∀ b ∈ its, H1 b = none) ∧ i ≤ w.ds.length ∧ left = w.ds.length - i ∧ Kept X F1 G nl w P i H1) ?_ w.ds.length ⟨0, Hl, start, tnC, went, Nat.zero_le _, rfl, begun⟩
    rintro left s1 ⟨i, H1, I1, tn1, none1, hi1, rfl, Fc, Mc, acc, accV, sc1, rc1, zs1, p1⟩
    rcases Nat.lt_or_ge i w.ds.length with lt | ge
    · have go := hw.goes i H1 Fc _ Mc sc1 rc1 (pok i acc Mc hi1 p1) lt
      refine thnF (turn.item (X.blk sl Hl scope ce its) rfl rfl rfl hc i [] s1 _ H1 (fun _ _ => False) I1 (fine I1 none1) tn1 go) ?_
      rintro r s2 ⟨u, rfl, h2⟩
      refine thnF h2 ?_
      rintro _ s3 ⟨x, H3, I3, rx, yd, tn3, none3⟩
      have I3p := I3.pinned (fine I3 none3) (turn.obj _ _ tn3)
      obtain ⟨F3, d, s13, r3, hd, dx⟩ := hw.yields i H1 x H3 Fc _ Mc sc1 rc1 (pok i acc Mc hi1 p1) lt yd
      -- the target takes the item, then the item's value is asked
      have asked := hg.own x (wipe σ (own.map (·.2))) H3 _ (hg.lift x _ _ _ ⟨F3, Mc, upd G nl (.lst accV), vwipe e (own.map (·.2)), d, _, (slots.wiped (own.map (·.2))).up ((sF.trans sc1).trans s13), r3, dx, pstep i d acc Mc hd p1,
        fun σ4 H4 F4 M4 e4 s4 r4 hs4 q4 => (show lEF X.K F (te e) σ4 H4 fun y H5 => ∃ ac, H5 nl = some (.lst ac) ∧ ac.length < sizeLine ∧ Kept X F1 G nl w P (i + 1) (upd H5 nl (.lst (ac ++ [y]))) from
          ⟨F4, M4, upd G nl (.lst accV), e4, _, (((sF.trans sc1).trans s13).trans s4), hs4, r4, q4, fun v H6 F6 M6 dy s6 r6 d6 ⟨hz, q6⟩ => by
            refine ⟨accV, r6.hid nl _ upd_same, by rw [zs1.len]; exact hz, F6, M6, acc ++ [dy], accV ++ [v], ((sc1.trans s13).trans s4).trans s6, ?_, (zs1.up ((s13.trans s4).trans s6)).app (.cons d6 .nil), q6⟩
            have z := r6.hwr (o := .lst (accV ++ [v])) (u := .lst accV) upd_same
            rw [upd_upd] at z
            exact z⟩)⟩)
      refine thnF (store.run _ s3 _ H3 x u _ I3p rx asked) ?_
      rintro _ s4 ⟨σ4, H4, I4, w4, q4⟩
      rw [wipe_wipe] at w4
      refine wpAny_tests_nil ?_
      show wpAny _ _ _ _ _ _
      refine thnF (item.run _ s4 σ4 H4 _ I4 q4) ?_
      rintro z s5 ⟨yv, H5, I5, ry, ac, hD5, hz5, nx⟩
      refine app_ok (X := X.blk sl Hl scope ce its) I5 hD5 hz5 ry fun s6 I6 => ?_
      have pinned : ∀ b ∈ its, ∀ o, s3.heap.get? b = some o → s6.heap.get? b = some o ∧ upd H5 nl (.lst (ac ++ [yv])) b = none := fun b hb o q => by
        obtain ⟨z1, z2, _⟩ := I6.pin (b, o) (List.mem_append_right _ (List.mem_append_right _ (mem_pinsAt hb q)))
        exact ⟨z1, z2⟩
      refine ⟨w.ds.length - (i + 1), by omega, i + 1, _, (I6.unpinned (pins := [])).weak (by rw [← w4, wipe_length]) (fun j v q => ?_), turn.keep _ _ _ tn3 fun b hb o q => (pinned b hb o q).1, fun b hb => ?_, lt, rfl, nx⟩
      · rw [← w4] at q
        exact (wipe_some q).1
      · obtain ⟨o, q, _⟩ := turn.obj _ _ tn3 b hb
        exact (pinned b hb o q).2
    · have ei : i = w.ds.length := Nat.le_antisymm hi1 ge
      subst ei
      have stop := hw.stops H1 Fc _ Mc sc1 rc1 (pok _ acc Mc hi1 p1)
      refine thnF (turn.done (X.blk sl Hl scope ce its) rfl rfl rfl hc _ [] s1 _ H1 (fun _ _ => False) I1 (fine I1 none1) tn1 stop) ?_
      rintro r s2 ⟨rfl, I2⟩
      have back : Inv X pins σ H1 s2 := Il.call' (ch := its) I2.os I2.base I2.hok I2.bare others
      have freeC : H1 sl.heap.objs.size = none := by rw [← at_C]; exact I2.free
      obtain ⟨m, hm, _⟩ := I2.loc
      have hm : s2.heap.Ns ce.locals m := hm
      rw [at_C] at hm
      exact post nl sl.heap.objs.size s2 m H1 Fc Mc acc accV back (sF.trans sc1) rc1 gD zs1 (pend acc Mc p1) hm (Il.fpOk (Nat.le_refl _) freeC)
  exact codeAny_compStart_list loop (turn.self X.A 0 _ _ _ tnC loop)
end
end VL
namespace VL
open PySem PySem.Spec L2
open PyProof.Rows
/-- a comprehension whose items may call what this frame made -/
def vLcL (ti : VTI) (g : VTG) (te : VEnv → VTE) (vs : List Nat) : VTE := fun e M Q => vLc ti g vYes (te e) vs e M Q
section
variable {X : Cx} {elt tg iter : Expr} {scope : Scope} {own : List (Str × Nat)} {ti : VTI} {g : VTG} {g0 : TG} {te : VEnv → VTE} {pos : Pos}
theorem lcL_told {e : VEnv} {M : Mem} {vs : List Nat} {Qd : List D → Mem → Prop} (hm : ∀ R R' : VIt → Mem → Prop, (∀ w M1, R w M1 → R' w M1) → ti e M R → ti e M R') (h : ti e M fun w M1 => ∃ P : Nat → List D → Mem → Prop, P 0 [] M1 ∧ (∀ i acc M, i ≤ w.ds.length → P i acc M → w.ok M) ∧
      (∀ i d acc M, w.ds[i]? = some d → P i acc M → g d (vwipe e vs) M fun e2 M2 => vYes e2 M2 fun b M3 => if b = true then te e e2 M3 fun y M4 => acc.length < sizeLine ∧ P (i + 1) (acc ++ [y]) M4 else P (i + 1) acc M3) ∧ ∀ acc M, P w.ds.length acc M → Qd acc M) :
    ti e M fun w M1 => ∃ P : Nat → List D → Mem → Prop, P 0 [] M1 ∧ (∀ i acc M, i ≤ w.ds.length → P i acc M → w.ok M) ∧
      (∀ i d acc M, w.ds[i]? = some d → P i acc M → g d (vwipe e vs) M fun e2 M2 => te e e2 M2 fun y M4 => acc.length < sizeLine ∧ P (i + 1) (acc ++ [y]) M4) ∧ ∀ acc M, P w.ds.length acc M → Qd acc M := by
  have e1 : ∀ (te : VTE) (i : Nat) (acc : List D) (P : Nat → List D → Mem → Prop), (fun (e2 : VEnv) (M2 : Mem) => vYes e2 M2 fun b M3 => if b = true then te e2 M3 fun y M4 => acc.length < sizeLine ∧ P (i + 1) (acc ++ [y]) M4 else P (i + 1) acc M3) = fun e2 M2 => te e2 M2 fun y M4 => acc.length < sizeLine ∧ P (i + 1) (acc ++ [y]) M4 := fun te i acc P => by
    funext e2 M2
    simp
  refine hm _ _ (fun w M1 ⟨P, h1, h2, h3, h4⟩ => ⟨P, h1, h2, fun i d acc M hd hp => ?_, h4⟩) h
  have := h3 i d acc M hd hp
  rw [e1] at this
  exact this
theorem v_lcL (hc : X.calm = true) (hN : X.N.Nodup) (hi : VI X tg iter ti) (ok : BlkOk X.N X.env.scope scope own) (hg : LcG X tg scope g g0 (own.map (·.2))) (he : ItemL X elt scope te)
    (hm : ∀ e M (R R' : VIt → Mem → Prop), (∀ w M1, R w M1 → R' w M1) → ti e M R → ti e M R') (hs : ∀ x, foldedSetIterable iter X.env x = pure x := by intro _; rfl) :
    VE X (.ListComp elt [⟨tg, iter, [], 0⟩] scope pos) (vLcL ti g te (own.map (·.2))) := by
  refine ⟨fun pins s σ H Q I ⟨F, M, G, e, Q', slots, rel, told, o⟩ => ?_⟩
  rw [eval_ListComp]
  refine lcL_core (Qd := fun acc M => Q' (.lst acc) M) hc hN I hi ok hg he hs slots rel (lcL_told (hm e M) told) fun nl C s' m H' F' M' acc accV I' sF r' gD zs q hn fp => ⟨m, hn, fun h2 sb => ?_⟩
  obtain ⟨f0, f1, _, f3, f4, f5⟩ := fp
  obtain ⟨s2, r2⟩ := r'.give gD
  exact ⟨.ref nl, H', I'.turned (t' := s'.toks) (fun b o hb z => (sb.2 b hb).trans z) f0 f1 f3 f4 f5, rfl, o _ _ _ _ _ (sF.trans s2) r2 (.lst upd_same (zs.up s2)) q⟩
theorem vs_setLcL {i : Nat} {y : Str} {py : Pos} {spos : Pos} (hc : X.calm = true) (hN : X.N.Nodup) (hy : X.N[i]? = some y) (hyl : X.env.scope.names.lookup y = some .local)
    (hsw : swapsWith (.ListComp elt [⟨tg, iter, [], 0⟩] scope pos) (some (.Name y py)) spos.line X.env = pure true) (hi : VI X tg iter ti) (ok : BlkOk X.N X.env.scope scope own) (hg : LcG X tg scope g g0 (own.map (·.2))) (he : ItemL X elt scope te)
    (hm : ∀ e M (R R' : VIt → Mem → Prop), (∀ w M1, R w M1 → R' w M1) → ti e M R → ti e M R') (hs : ∀ x, foldedSetIterable iter X.env x = pure x := by intro _; rfl) :
    VS X (.Assign [.Name y py] (.ListComp elt [⟨tg, iter, [], 0⟩] scope pos) spos) (sAsg (vLcL ti g te (own.map (·.2))) (gN i)) := by
  refine ⟨fun pins s σ H Dn I ⟨F, M, G, e, D', slots, rel, told, o⟩ => ?_⟩
  rw [exec_Assign_Name_used _ _ _ _ hsw]
  refine wpAny_bind (wpAny_standAt (wpAny_bind ?_))
  show wpAny _ X.A (do let _ ← comprehension (.ListComp elt [⟨tg, iter, [], 0⟩] scope pos) scope X.env (firstIterPos [⟨tg, iter, [], 0⟩] pos) (newList []) false (eval iter X.env) (some (assign (.Name y py) X.env)); _) _ _ s
  refine wpAny_bind (thn (lcL_core (Qf := fun _ s' => SP X pins Dn .next s') (Qd := fun acc M1 => gN i (.lst acc) e M1 D'.nx) hc hN I hi ok hg he hs slots rel (lcL_told (hm e M) told) fun nl C s' m H' F' M' acc accV I' sF r' gD zs q hn fp => ?_) fun _ s' z => wpAny_pure (wpAny_pure z))
  show wpAny _ _ (assign (.Name y py) X.env (.ref nl)) _ _ _
  obtain ⟨f0, f1, _, f3, f4, f5⟩ := fp
  obtain ⟨s2, r2⟩ := r'.give gD
  refine wpAny_assign_Name (store_ok2 (v := V.ref nl) I' hN hy (.inl hyl) rfl (fun sz I2 ⟨a, sb, ha⟩ => ?_) (.inr hyl))
  have neC : C ≠ a := ha.elim (fun z => by rw [z]; exact f1) fun z q => f4 y a z q.symm
  refine ⟨m, hn.sameBut sb neC, fun h3 sb3 => ⟨_, H', I2.turned (t' := sz.toks) (fun b ob hb z => (sb3.2 b hb).trans z) f0 f1 f3 f4 f5, ?_⟩⟩
  exact o.nx _ H' _ M' _ (sF.trans s2) r2 ((slots.up (sF.trans s2)).put (.lst upd_same (zs.up s2)) i) q
end
end VL
namespace VL
open PySem PySem.Spec L2
open PyProof.Rows
open LamX (run_ofS)
/-- a lambda of X, as a thing of the memory -/
def lamM (X : Cx) (z : LamT) (f : Addr) : MO := .lam f (X.env.qual ++ "<lambda>") z.params z.body z.scope (clOf X z)
theorem Un.over {fs gs ex : List Addr} {H H1 H2 : Hp} {h h1 h2 : Heap} (a : Un fs ex H H1 h h1) (b : Un gs [] H1 H2 h1 h2) (sub : ∀ c ∈ gs, c ∈ fs ∨ h.get? c = none) : Un fs ex H H2 h h2 where
  keep := fun c o q n nf nx => by
    refine b.keep c o (a.keep c o q n nf nx) (a.free c o q n nx) (fun z => ?_) (by simp)
    rcases sub c z with z | z
    · exact nf z
    · rw [q] at z; cases z
  slot := fun c o q n hf nx => by
    obtain ⟨sl, q1⟩ := a.slot c o q n hf nx
    obtain ⟨sl2, q2⟩ := b.any q1 (a.free c o q n nx) (by simp)
    exact ⟨sl2, q2⟩
  free := fun c o q n nx => by
    obtain ⟨o1, q1⟩ := a.there c o q nx
    exact b.free c o1 q1 (a.free c o q n nx) (by simp)
  there := fun c o q nx => by
    obtain ⟨o1, q1⟩ := a.there c o q nx
    exact b.there c o1 q1 (by simp)
  tups := fun c xs q => b.tups c xs (a.tups c xs q)
  frzs := fun c o u q => b.frzs c o u (a.frzs c o u q)
  tbls := fun c ps q => by
    obtain ⟨m1, q1⟩ := a.tbls c ps q
    obtain ⟨m2, q2⟩ := b.tbls c _ q1
    exact ⟨m1 ++ m2, by rw [q2, Array.append_assoc]⟩
/-- every lambda of the list -/
def LamsOk (X : Cx) (k : Nat) (zs : List LamT) : Prop := ∀ z ∈ zs, LamOk X k z
theorem lams_nil {X : Cx} {k : Nat} : LamsOk X k [] := fun z hz => nomatch hz
theorem lams_cons {X : Cx} {k : Nat} {z : LamT} {zs : List LamT} (h : LamOk X k z) (hs : LamsOk X k zs) : LamsOk X k (z :: zs) := fun y hy => (List.mem_cons.mp hy).elim (fun e => e ▸ h) (hs y)
section
variable {X : Cx} {x a y z n xe : Str} {st : Stmt} {CS : Addr} {k : Nat} {pos p : Pos} {e1 : Expr} {es : List Expr} {ta : VTA}
theorem v_lambdaZ {LM : LamT → Addr → MO} (hLM : LM = lamM X) {c P : Addr} (w : LamT) (T : LamX.TabB X.base X.mg c P) (code : X.env.code = .ref c) (L : LamX.LamS X.env.scope w.scope) (nodef : defaultsOf w.params X.env = ([], [])) :
    VE X (.Lambda w.params w.body w.scope pos) (fun _ M Q => M P = some (.tb (X.env.qual ++ "<lambda>")) ∧ ∀ f, M f = none → Q (.obj f) (mupd M f (LM w f))) := by
  subst hLM
  exact v_lambda T code L nodef
/-- what the def that catches gives of a lambda -/
def vCaughtL (K : PySem.W.Frag) (LM : LamT → Addr → MO) (zs : List LamT) (CS : Addr) (t : VTA) : VEnv → VTE := fun eX e M Q => t e M fun ds M1 => ∃ f w, ds = [.obj f] ∧ w ∈ zs ∧ M1 f = some (LM w f) ∧
  w.t eX M1 (fun d M' => Q (.tup [.non, d]) M') (fun C d M' => PySem.W.exmOne K (.ref C) (.ref CS) = some true ∧ Q (.tup [.exc C d, .non]) M')
theorem vf_caught {LM : LamT → Addr → MO} (hLM : LM = lamM X) {zs : List LamT} {s0 : Shared} {K0 : Hp} {scope : Scope} {cenv : Env} {its : List Addr} {pins : List (Addr × Obj)} {σ : L2.St} {F0 : Hp} {eX : VEnv} (hD : Df X.K X.mg x st) (T : CatchT x a y z n xe st) (err : X.mg xe = some (.ref CS)) (LO : LamsOk X k zs) (room : RmG (k + 2) X.A)
    (I : Inv X pins σ K0 s0) (others : ∀ b ∈ its, (b ∈ X.ex ∨ X.s_0.heap.objs.size ≤ b) ∧ b ≠ X.env.locals ∧ (∀ x c, X.env.cells.lookup x = some c → c ≠ b) ∧ ∀ p ∈ X.pn ++ pins, p.1 ≠ b) (hs : SR X.K F0 σ eX)
    (ha : VA (X.blk s0 K0 scope cenv its) (e1 :: es) ta) (hg : Gl (X.blk s0 K0 scope cenv its) x := by rfl) (hdb : (x == ("__debug__" : Str)) = false := by decide) (he : starEach (e1 :: es) (X.blk s0 K0 scope cenv its).env = (false, eval e1 (X.blk s0 K0 scope cenv its).env) :: starEach es (X.blk s0 K0 scope cenv its).env := by rfl) (hpl : (backTo pos (starEach es (X.blk s0 K0 scope cenv its).env)).any (·.1) = false := by rfl) :
    VEF (X.blk s0 K0 scope cenv its) F0 (.Call (.Name x p) (e1 :: es) [] pos) (vCaughtL X.K LM zs CS ta eX) := by
  subst hLM
  obtain ⟨g, fd, hm, Fd⟩ := hD.ex
  obtain ⟨oc, od, dV, kV, doc, pm, an, cdv, ct, osl, hfd, lk, hcd, _, _⟩ := id Fd.ex
  have bN := Fd.bindsN T.bind
  subst hfd
  refine ⟨fun pinsB s σB H Q IB ⟨F, M, G, eB, Q', s00, hsB, rel, told, o⟩ => ?_⟩
  refine wpAny_Call_Name_kw (ld_glob IB hg hm ?_ hdb)
  refine PySem.W.callWith_K (h₀ := X.base) IB.ok.mod.kin Fd.kp (thn (ha.run pos pinsB s σB H (fun vs H1 => ∃ F1 M1 ds, Same F F1 ∧ Rel X.K F1 M1 G H1 ∧ DRs X.K F1 vs ds ∧ ∃ f w, ds = [.obj f] ∧ w ∈ zs ∧ M1 f = some (lamM X w f) ∧ w.t eX M1 (fun d M' => Q' (.tup [.non, d]) M') (fun C d M' => PySem.W.exmOne X.K (.ref C) (.ref CS) = some true ∧ Q' (.tup [.exc C d, .non]) M')) IB ⟨F, M, G, eB, _, hsB, rel, told, fun vs H1 F1 M1 ds s1 r1 d1 q1 => ⟨F1, M1, ds, s1, r1, d1, q1⟩⟩) ?_) he hpl
  rintro us s1 ⟨vs, H1, I1, rv, F1, M1, ds, s01, r1, d1, f, w, rfl, hw, mf, told1⟩
  refine ⟨I1.kIn, ?_⟩
  obtain ⟨v, rfl, z1⟩ := one_of d1
  cases z1
  obtain ⟨u, rfl, ru⟩ := rv.one
  obtain rfl : u = Value.ref f := ru
  have IX : Inv X pins σ H1 s1 := I.call' (ch := its) I1.os I1.base I1.hok I1.bare others
  refine wpAny_call (codeAny_mono (R := CR CX0 X.stack X.prog X.w H1 s1 Q E0) (caught_core T (LO w hw) lk hcd err IX IX.env0 (fun _ _ h => h) room (bN s1 [.ref f] I1.kIn rfl) r1 (hs.up (s00.trans s01)) mf told1 (o.up s01)) fun res s2 done => ?_)
  cases res with
  | error e => exact (show False from done).elim
  | ok fl =>
    cases fl with
    | ret u => exact I1.after done
    | next => exact False.elim done
    | brk => exact False.elim done
    | cont => exact False.elim done
end
end VL
namespace VL
open PySem PySem.Spec L2
open PyProof.Rows
open LamX (run_ofS)
structure DueT (x cn a b y : Str) (st : Stmt) (N : List Str) (rest : List Stmt) : Prop where
  sc : FnScope N [a, b] (defScope st)
  bind : ∀ (kV doc pm : Value) (an : Option Addr) (cdv ct : Value) (us : List Value), us.length = [a, b].length → bindArgs (PySem.W.fnOf x x (defArgs st) (defBody st) (defScope st) .none kV doc pm an cdv ct) ⟨us, []⟩ = pure ([a, b].zip us)
  n0 : N[0]? = some a
  n2 : N[2]? = some y
  la : (defScope st).names.lookup a = some .local
  ly : (defScope st).names.lookup y = some .local
  lg : (defScope st).names.lookup cn = some .globalImplicit
  dc : (cn == ("__debug__" : Str)) = false
  da : (a == ("__debug__" : Str)) = false
  da2 : (a == ("__classdict__" : Str)) = false
  slots : ∀ l d c : D, (vstart N.length [l, d]).set 2 (some c) = vstart N.length [l, d, c]
  text : ∃ (p1 p2 p3 p4 p5 p6 p7 : Pos) (j : Nat), defBody st = .Assign [.Name y p1] (.Subscript (.Call (.Name cn p2) [.Name a p3] [] p4) (.Constant (.int 0) j p5) p6) p7 :: rest
    ∧ (∀ (L g : Addr) (cdv : Value), swapsWith (.Subscript (.Call (.Name cn p2) [.Name a p3] [] p4) (.Constant (.int 0) j p5) p6) (some (.Name y p1)) p7.line (envOfC x (defScope st) L g cdv) = pure false)
    ∧ (∀ (L g : Addr) (cdv : Value), starEach [.Name a p3] (envOfC x (defScope st) L g cdv) = (false, eval (.Name a p3) (envOfC x (defScope st) L g cdv)) :: starEach [] (envOfC x (defScope st) L g cdv))
    ∧ (∀ (L g : Addr) (cdv : Value), (backTo p4 (starEach ([] : List Expr) (envOfC x (defScope st) L g cdv))).any (·.1) = false)
/-- the rest of that def -/
structure KnRest (P : Program) (w : World) (K : PySem.W.Frag) (mg : Str → Option Value) (base : Heap) (k : Nat) (x : Str) (st : Stmt) (N : List Str) (rest : List Stmt) (ψ : VSp) : Prop where
  ok : ∀ (f : Addr) (cdv : Value) (A : Around) (outer : List Env) (s : Shared) (H : Hp), RmG k (A.deeper (envOfC x (defScope st) s.heap.objs.size f cdv)) →
    ∃ t, VSs (cxOf CX0 P w K mg base N x (defScope st) f cdv A outer s H E0) rest t ∧ ∀ ds M Q, ψ ds M Q → t { nx := fun _ M' => Q .non M', rt := Q } (vstart N.length ds) M
section
variable {X : Cx} {x cn a b y a' y' z' n' xe : Str} {st stc : Stmt} {CS : Addr} {k : Nat} {pos p : Pos} {e1 : Expr} {es : List Expr} {ta : VTA} {N : List Str} {rest : List Stmt} {ψ : VSp}
theorem due_core (T : DueT x cn a b y st N rest) (hC : Df X.K X.mg cn stc) (Tc : CatchT cn a' y' z' n' xe stc) (err : X.mg xe = some (.ref CS)) {w : LamT} (LO : LamOk X k w) (room : RmG (k + 3) X.A)
    (KR : KnRest X.prog X.w X.K X.mg X.base (k + 2) x st N rest ψ) {g : Addr} {oc : Value} {od : Option Addr} {dV kV doc pm cdv ct : Value} {an : Option Addr} {osl : Array (Option Value)}
    (lk : X.K.lookup g = some ⟨oc, od, .func (PySem.W.fnOf x x (defArgs st) (defBody st) (defScope st) dV kV doc pm an cdv ct), osl⟩) (hcd : PySem.W.codeIn X.K cdv x = true)
    {pins : List (Addr × Obj)} {σ : L2.St} {F G H : Hp} {M : Mem} {s : Shared} (I : Inv X pins σ H s) {eX : VEnv} {f : Addr} {d : D} {vs : List V} {us : List Value} {Q' : VK} {Q : L2.VK}
    (hb : BindsTo s (PySem.W.fnOf x x (defArgs st) (defBody st) (defScope st) dV kV doc pm an cdv ct) ⟨us, []⟩ ([a, b].zip us))
    (rel : Rel X.K F M G H) (hs : SR X.K F σ eX) (mf : M f = some (lamM X w f)) (dv : DRs X.K F vs [.obj f, d]) (rv : Vals vs us)
    (told : w.t eX M (fun _ M' => ψ [.obj f, d, .non] M' Q') (fun C c M' => PySem.W.exmOne X.K (.ref C) (.ref CS) = some true ∧ ψ [.obj f, d, .exc C c] M' Q')) (o : OutE X.K F G Q' Q) :
    codeAny (model X.prog X.w) X.A (.call (.ref g) ⟨us, []⟩) (CR CX0 X.stack X.prog X.w H s Q E0) s := by
  obtain ⟨gc, fdc, hmc, Fdc⟩ := hC.ex
  obtain ⟨occ, odc, dVc, kVc, docc, pmc, anc, cdvc, ctc, oslc, hfdc, lkc, hcdc, _, _⟩ := id Fdc.ex
  have bNc := Fdc.bindsN Tc.bind
  subst hfdc
  obtain ⟨p1, p2, p3, p4, p5, p6, p7, j, text, sw, st1, st2⟩ := T.text
  have Sg := T.sc
  refine run_ofS (N := N) (ps := [a, b]) (us := us) (vs := vs) lk hcd Sg room.r I.env0 hb rv (by rw [dv.len]; rfl) fun rm => ?_
  obtain ⟨t2, rest2, want⟩ := KR.ok g cdv X.A X.stack s H ⟨rm, room.g⟩
  rw [text]
  have callP : PE (cxOf CX0 X.prog X.w X.K X.mg X.base N x (defScope st) g cdv X.A X.stack s H E0) (.Call (.Name cn p2) [.Name a p3] [] p4) (fun σY HY Q => ∃ F M G Q', SR X.K F σ eX ∧ Rel X.K F M G HY ∧ σY[0]? = some (some (.ref f)) ∧ M f = some (lamM X w f) ∧
      w.t eX M (fun d M' => Q' (.tup [.non, d]) M') (fun C d M' => PySem.W.exmOne X.K (.ref C) (.ref CS) = some true ∧ Q' (.tup [.exc C d, .non]) M') ∧ OutE X.K F G Q' Q) := by
    refine ⟨fun pinsY sY σY HY QY IY ⟨F, M, G, Q', hs, rel, at0, mf, told, o⟩ => ?_⟩
    refine wpAny_Call_Name_kw (ld_glob IY T.lg hmc ?_ T.dc)
    refine PySem.W.callWith_K (h₀ := X.base) IY.ok.mod.kin Fdc.kp (thn ((pa_cons (pe_var (i := 0) T.n0 (.inl T.la) T.da T.da2) pa_nil (st1 _ _ _)).run p4 pinsY sY σY HY (fun vs H1 => vs = [.ref f] ∧ H1 = HY) IY ⟨.ref f, at0, rfl, rfl⟩) ?_) (st1 _ _ _) (st2 _ _ _)
    rintro us1 s1 ⟨vs1, H1, I1, rv1, rfl, rfl⟩
    refine ⟨I1.kIn, ?_⟩
    obtain ⟨u, rfl, ru⟩ := rv1.one
    obtain rfl : u = Value.ref f := ru
    have over : ∀ (HZ : Hp) (h : Heap), Un (frs (cxOf CX0 X.prog X.w X.K X.mg X.base N x (defScope st) g cdv X.A X.stack s H E0).stack) [] H1 HZ s1.heap h → Un (frs X.stack) [] H HZ s.heap h := fun HZ h u => Un.over I1.base u fun c hc => by
      rcases List.mem_cons.mp (I1.stkSub c hc) with q | q
      · right
        cases z : s.heap.get? c with
        | none => rfl
        | some ob =>
          have lt := Heap.lt_size z
          have ab : s.heap.objs.size ≤ (cxOf CX0 X.prog X.w X.K X.mg X.base N x (defScope st) g cdv X.A X.stack s H E0).env.locals := I1.ok.above
          rw [q] at lt
          exact absurd (Nat.lt_of_lt_of_le lt ab) (Nat.lt_irrefl _)
      · exact .inl q
    refine wpAny_call (codeAny_mono (R := CR CX0 (cxOf CX0 X.prog X.w X.K X.mg X.base N x (defScope st) g cdv X.A X.stack s H E0).stack X.prog X.w H1 s1 QY E0) (caught_core Tc LO lkc hcdc err I I1.env0 over ⟨room.r.deeper _, room.g⟩ (bNc s1 [.ref f] I1.kIn rfl) rel hs mf told o) fun res s2 done => ?_)
    cases res with
    | error e => exact (show False from done).elim
    | ok fl =>
      cases fl with
      | ret u => exact I1.after done
      | next => exact False.elim done
      | brk => exact False.elim done
      | cont => exact False.elim done
  have step1 : PS (cxOf CX0 X.prog X.w X.K X.mg X.base N x (defScope st) g cdv X.A X.stack s H E0) (.Assign [.Name y p1] (.Subscript (.Call (.Name cn p2) [.Name a p3] [] p4) (.Constant (.int 0) j p5) p6) p7) _ :=
    ps_set (i := 2) Sg.nd T.n2 (.inl T.ly) (pe_ix o_ix callP (v_int (i := 0)) (fun _ _ => rfl)) (sw _ _ _) (.inr T.ly)
  refine ⟨_, pss_cons step1 rest2, ?_⟩
  have start := SR.start (N := N) dv
  obtain ⟨v0, v1, rfl, z0, z1⟩ := two_of dv
  cases z0
  have after : ∀ (c : D) (v : V) (F2 : Hp) (M2 : Mem) (H2 : Hp), Same F F2 → Rel X.K F2 M2 G H2 → DR X.K F2 v c → ψ [.obj f, d, c] M2 Q' → lS X.K t2 { nx := fun _ H' => Q .non H', rt := Q } ((L2.start N [.ref f, v1]).set 2 (some v)) H2 := fun c v F2 M2 H2 s2 r2 dc q =>
    ⟨F2, M2, G, vstart N.length [.obj f, d, c], _, by rw [← T.slots (.obj f) d c]; exact (start.up s2).put dc 2, r2, want _ M2 Q' q, ⟨fun σ H3 F3 M3 e s3 r3 _ q3 => o _ H3 F3 M3 _ (s2.trans s3) r3 .non q3, o.up s2, fun _ _ _ _ _ _ _ _ z => z.elim, fun _ _ _ _ _ _ _ _ z => z.elim⟩⟩
  refine ⟨F, M, G, fun c M' => match c with
    | .tup [c0, _] => ψ [.obj f, d, c0] M' Q'
    | _ => False, hs, rel, ?_, mf, told, fun v H2 F2 M2 c s2 r2 dc q => ?_⟩
  · have : L2.start N [.ref f, v1] = [V.ref f, v1].map some ++ List.replicate (N.length - 2) none := rfl
    rw [this]
    rfl
  · obtain ⟨c0, c1, rfl⟩ : ∃ c0 c1, c = .tup [c0, c1] := by
      dsimp only at q
      split at q
      · exact ⟨_, _, rfl⟩
      · exact q.elim
    refine ⟨F2, M2, G, vstart N.length [.obj f, d], fun y M3 => y = .int 0 ∧ ψ [.obj f, d, c0] M3 Q', start.up s2, r2, ⟨rfl, q⟩, fun y H3 F3 M3 dy s3 r3 dy3 ⟨e3, q3⟩ => ?_⟩
    subst e3
    refine ⟨F3, M3, G, .tup [c0, c1], .int 0, fun c M4 => c = c0 ∧ ψ [.obj f, d, c0] M4 Q', r3, dc.up s3, dy3, ⟨c0, rfl, rfl, q3⟩, fun v4 H4 F4 M4 c4 s4 r4 dc4 ⟨e4, q4⟩ => ?_⟩
    subst e4
    exact after c4 v4 F4 M4 H4 ((s2.trans s3).trans s4) r4 dc4 q4
/-- .. as an item of a comprehension -/
def vDueL (K : PySem.W.Frag) (LM : LamT → Addr → MO) (zs : List LamT) (CS : Addr) (ψ : VSp) (t : VTA) : VEnv → VTE := fun eX e M Q => t e M fun ds M1 => ∃ f d w, ds = [.obj f, d] ∧ w ∈ zs ∧ M1 f = some (LM w f) ∧
  w.t eX M1 (fun _ M' => ψ [.obj f, d, .non] M' Q) (fun C c M' => PySem.W.exmOne K (.ref C) (.ref CS) = some true ∧ ψ [.obj f, d, .exc C c] M' Q)
theorem vf_due {LM : LamT → Addr → MO} (hLM : LM = lamM X) {zs : List LamT} {s0 : Shared} {K0 : Hp} {scope : Scope} {cenv : Env} {its : List Addr} {pins : List (Addr × Obj)} {σ : L2.St} {F0 : Hp} {eX : VEnv} (hD : Df X.K X.mg x st) (T : DueT x cn a b y st N rest) (hC : Df X.K X.mg cn stc) (Tc : CatchT cn a' y' z' n' xe stc) (err : X.mg xe = some (.ref CS))
    (KR : KnRest X.prog X.w X.K X.mg X.base (k + 2) x st N rest ψ) (LO : LamsOk X k zs) (room : RmG (k + 3) X.A)
    (I : Inv X pins σ K0 s0) (others : ∀ b ∈ its, (b ∈ X.ex ∨ X.s_0.heap.objs.size ≤ b) ∧ b ≠ X.env.locals ∧ (∀ x c, X.env.cells.lookup x = some c → c ≠ b) ∧ ∀ p ∈ X.pn ++ pins, p.1 ≠ b) (hs : SR X.K F0 σ eX)
    (ha : VA (X.blk s0 K0 scope cenv its) (e1 :: es) ta) (hg : Gl (X.blk s0 K0 scope cenv its) x := by rfl) (hdb : (x == ("__debug__" : Str)) = false := by decide) (he : starEach (e1 :: es) (X.blk s0 K0 scope cenv its).env = (false, eval e1 (X.blk s0 K0 scope cenv its).env) :: starEach es (X.blk s0 K0 scope cenv its).env := by rfl) (hpl : (backTo pos (starEach es (X.blk s0 K0 scope cenv its).env)).any (·.1) = false := by rfl) :
    VEF (X.blk s0 K0 scope cenv its) F0 (.Call (.Name x p) (e1 :: es) [] pos) (vDueL X.K LM zs CS ψ ta eX) := by
  subst hLM
  obtain ⟨g, fd, hm, Fd⟩ := hD.ex
  obtain ⟨oc, od, dV, kV, doc, pm, an, cdv, ct, osl, hfd, lk, hcd, _, _⟩ := id Fd.ex
  have bN := Fd.bindsN T.bind
  subst hfd
  refine ⟨fun pinsB s σB H Q IB ⟨F, M, G, eB, Q', s00, hsB, rel, told, o⟩ => ?_⟩
  refine wpAny_Call_Name_kw (ld_glob IB hg hm ?_ hdb)
  refine PySem.W.callWith_K (h₀ := X.base) IB.ok.mod.kin Fd.kp (thn (ha.run pos pinsB s σB H (fun vs H1 => ∃ F1 M1 ds, Same F F1 ∧ Rel X.K F1 M1 G H1 ∧ DRs X.K F1 vs ds ∧ ∃ f d w, ds = [.obj f, d] ∧ w ∈ zs ∧ M1 f = some (lamM X w f) ∧ w.t eX M1 (fun _ M' => ψ [.obj f, d, .non] M' Q') (fun C c M' => PySem.W.exmOne X.K (.ref C) (.ref CS) = some true ∧ ψ [.obj f, d, .exc C c] M' Q')) IB ⟨F, M, G, eB, _, hsB, rel, told, fun vs H1 F1 M1 ds s1 r1 d1 q1 => ⟨F1, M1, ds, s1, r1, d1, q1⟩⟩) ?_) he hpl
  rintro us s1 ⟨vs, H1, I1, rv, F1, M1, ds, s01, r1, d1, f, d, w, rfl, hw, mf, told1⟩
  refine ⟨I1.kIn, ?_⟩
  have IX : Inv X pins σ H1 s1 := I.call' (ch := its) I1.os I1.base I1.hok I1.bare others
  have len : us.length = [a, b].length := by rw [← rv.length, d1.len]; rfl
  rw [List.nil_append]
  refine wpAny_call (codeAny_mono (R := CR CX0 X.stack X.prog X.w H1 s1 Q E0) (due_core T hC Tc err (LO w hw) room KR lk hcd IX (by have z := bN s1 us I1.kIn (by rw [List.append_nil]; exact len); rw [List.append_nil] at z; exact z) r1 (hs.up (s00.trans s01)) mf d1 rv told1 (o.up s01)) fun res s2 done => ?_)
  cases res with
  | error e => exact (show False from done).elim
  | ok fl =>
    cases fl with
    | ret u => exact I1.after done
    | next => exact False.elim done
    | brk => exact False.elim done
    | cont => exact False.elim done
/-- .. in the frame itself -/
theorem v_due {LM : LamT → Addr → MO} (hLM : LM = lamM X) {zs : List LamT} (hD : Df X.K X.mg x st) (T : DueT x cn a b y st N rest) (hC : Df X.K X.mg cn stc) (Tc : CatchT cn a' y' z' n' xe stc) (err : X.mg xe = some (.ref CS))
    (KR : KnRest X.prog X.w X.K X.mg X.base (k + 2) x st N rest ψ) (LO : LamsOk X k zs) (room : RmG (k + 3) X.A)
    (ha : VA X (e1 :: es) ta) (hg : Gl X x := by rfl) (hdb : (x == ("__debug__" : Str)) = false := by decide) (he : starEach (e1 :: es) X.env = (false, eval e1 X.env) :: starEach es X.env := by rfl) (hpl : (backTo pos (starEach es X.env)).any (·.1) = false := by rfl) :
    VE X (.Call (.Name x p) (e1 :: es) [] pos) (fun e => vDueL X.K LM zs CS ψ ta e e) := by
  subst hLM
  obtain ⟨g, fd, hm, Fd⟩ := hD.ex
  obtain ⟨oc, od, dV, kV, doc, pm, an, cdv, ct, osl, hfd, lk, hcd, _, _⟩ := id Fd.ex
  have bN := Fd.bindsN T.bind
  subst hfd
  refine ⟨fun pins s σ H Q I ⟨F, M, G, e, Q', hs, rel, told, o⟩ => ?_⟩
  refine wpAny_Call_Name_kw (ld_glob I hg hm ?_ hdb)
  refine PySem.W.callWith_K (h₀ := X.base) I.ok.mod.kin Fd.kp (thn (ha.run pos pins s σ H (fun vs H1 => ∃ F1 M1 ds, Same F F1 ∧ Rel X.K F1 M1 G H1 ∧ DRs X.K F1 vs ds ∧ ∃ f d w, ds = [.obj f, d] ∧ w ∈ zs ∧ M1 f = some (lamM X w f) ∧ w.t e M1 (fun _ M' => ψ [.obj f, d, .non] M' Q') (fun C c M' => PySem.W.exmOne X.K (.ref C) (.ref CS) = some true ∧ ψ [.obj f, d, .exc C c] M' Q')) I ⟨F, M, G, e, _, hs, rel, told, fun vs H1 F1 M1 ds s1 r1 d1 q1 => ⟨F1, M1, ds, s1, r1, d1, q1⟩⟩) ?_) he hpl
  rintro us s1 ⟨vs, H1, I1, rv, F1, M1, ds, s01, r1, d1, f, d, w, rfl, hw, mf, told1⟩
  refine ⟨I1.kIn, ?_⟩
  have len : us.length = [a, b].length := by rw [← rv.length, d1.len]; rfl
  rw [List.nil_append]
  refine wpAny_call (codeAny_mono (R := CR CX0 X.stack X.prog X.w H1 s1 Q E0) (due_core T hC Tc err (LO w hw) room KR lk hcd I1 (by have z := bN s1 us I1.kIn (by rw [List.append_nil]; exact len); rw [List.append_nil] at z; exact z) r1 (hs.up s01) mf d1 rv told1 (o.up s01)) fun res s2 done => ?_)
  cases res with
  | error e => exact (show False from done).elim
  | ok fl =>
    cases fl with
    | ret u => exact I1.after done
    | next => exact False.elim done
    | brk => exact False.elim done
    | cont => exact False.elim done
end
end VL
namespace VL
open PySem PySem.Spec L2
open PyProof.Rows
def noE : Expr := .Constant .none 0 ⟨0, 0, 0, 0⟩
def noS : Stmt := .Pass ⟨0, 0, 0, 0⟩
def stN (ss : List Stmt) (i : Nat) : Stmt := ss.getD i noS
def exN (es : List Expr) (i : Nat) : Expr := es.getD i noE
def ifB : Stmt → List Stmt
  | .If _ b _ _ => b
  | _ => []
def ifE : Stmt → List Stmt
  | .If _ _ e _ => e
  | _ => []
def forB (s : Stmt) : List Stmt := match s with
  | .For _ _ b _ _ => b
  | _ => []
def valE : Stmt → Expr
  | .Assign _ e _ => e
  | .Expr e _ => e
  | .Return (some e) _ => e
  | _ => noE
def subE : Expr → List Expr
  | .Call _ es _ _ => es
  | .List es _ => es
  | .Tuple es _ _ => es
  | .BinOp a _ b _ => [a, b]
  | .BoolOp _ es _ => es
  | .Compare a _ es _ => a :: es
  | .UnaryOp _ a _ => [a]
  | .Subscript a b _ => [a, b]
  | .IfExp a b c _ => [a, b, c]
  | _ => []
def lamZ (t : VTEX) : Expr → LamT
  | .Lambda p b s _ => ⟨p, b, s, t⟩
  | _ => ⟨⟨[], [], none, [], [], none, []⟩, noE, default, t⟩
theorem ex_LM {X : Cx} {b : List Stmt} {p : VTS → Prop} (h : ∀ LM : LamT → Addr → MO, LM = lamM X → ∃ t, VSs X b t ∧ p t) : ∃ t, VSs X b t ∧ p t := h _ rfl
theorem iSeq_mono {i : Nat} : ∀ (e : VEnv) (M : Mem) (R R' : VIt → Mem → Prop), (∀ w M1, R w M1 → R' w M1) → iSeq (vVar i) e M R → iSeq (vVar i) e M R' := fun e M R R' h ⟨d, hd, xs, hx, r⟩ => ⟨d, hd, xs, hx, h _ _ r⟩
end VL
namespace VL
open PySem PySem.Spec L2
def prx4 (f : D → D → D → D → Mem → VK → VXK → Prop) : VSpX := fun ds M Q E' => ∃ a b c d, ds = [a, b, c, d] ∧ f a b c d M Q E'
def prx5 (f : D → D → D → D → D → Mem → VK → VXK → Prop) : VSpX := fun ds M Q E' => ∃ a b c d e, ds = [a, b, c, d, e] ∧ f a b c d e M Q E'
theorem prx4_len {f : D → D → D → D → Mem → VK → VXK → Prop} {x y z u : Str} : ∀ ds M Q E', prx4 f ds M Q E' → ds.length = [x, y, z, u].length := fun ds M Q E' ⟨a, b, c, d, e, _⟩ => by rw [e] <;> rfl
theorem prx5_len {f : D → D → D → D → D → Mem → VK → VXK → Prop} {x y z u v : Str} : ∀ ds M Q E', prx5 f ds M Q E' → ds.length = [x, y, z, u, v].length := fun ds M Q E' ⟨a, b, c, d, g, e, _⟩ => by rw [e] <;> rfl
theorem prx4_at {f : D → D → D → D → Mem → VK → VXK → Prop} {a b c d : D} {M : Mem} {Q : VK} {E' : VXK} : prx4 f [a, b, c, d] M Q E' ↔ f a b c d M Q E' := ⟨fun ⟨_, _, _, _, e, h⟩ => by cases e; exact h, fun h => ⟨_, _, _, _, rfl, h⟩⟩
theorem prx5_at {f : D → D → D → D → D → Mem → VK → VXK → Prop} {a b c d g : D} {M : Mem} {Q : VK} {E' : VXK} : prx5 f [a, b, c, d, g] M Q E' ↔ f a b c d g M Q E' := ⟨fun ⟨_, _, _, _, _, e, h⟩ => by cases e; exact h, fun h => ⟨_, _, _, _, _, rfl, h⟩⟩
/-- of any promise by its count of arguments -/
def pr5 (f : D → D → D → D → D → Mem → VK → Prop) : VSp := fun ds M Q => ∃ a b c d e, ds = [a, b, c, d, e] ∧ f a b c d e M Q
theorem pr5_len {f : D → D → D → D → D → Mem → VK → Prop} {x y z u v : Str} : ∀ ds M Q, pr5 f ds M Q → ds.length = [x, y, z, u, v].length := fun ds M Q ⟨a, b, c, d, g, e, _⟩ => by rw [e] <;> rfl
@[simp] theorem pr5_at {f : D → D → D → D → D → Mem → VK → Prop} {a b c d g : D} {M : Mem} {Q : VK} : pr5 f [a, b, c, d, g] M Q ↔ f a b c d g M Q := ⟨fun ⟨_, _, _, _, _, e, h⟩ => by cases e; exact h, fun h => ⟨_, _, _, _, _, rfl, h⟩⟩
end VL
namespace VL
open PySem PySem.Spec L2
theorem s_hide {t R : VTS} {K : VEnds} {e : VEnv} {M : Mem} (h : ∀ R' : VTS, R' = R → sSeq t R' K e M) : sSeq t R K e M := h R rfl
theorem sx_hide {t R : VTSX} {K : VEnds} {E : VXK} {e : VEnv} {M : Mem} (h : ∀ R' : VTSX, R' = R → xSeq t R' K E e M) : xSeq t R K E e M := h R rfl
theorem pw_okv {M : Mem} {lk : Bool} : ∀ {n : Nat} {d : D}, Pw M lk n d → Okv M d
  | n, .non, _ => by unfold Okv; trivial
  | n, .bl _, _ => by unfold Okv; trivial
  | n, .int _, _ => by unfold Okv; trivial
  | n, .str _, _ => by unfold Okv; trivial
  | n, .lst _, _ => by unfold Okv; trivial
  | n, .obj a, h => by
    have : lk = false ∧ ∃ kvs, M a = some (.dk kvs) ∧ drawnDc kvs := by cases n <;> simpa [Pw] using h
    obtain ⟨_, kvs, e, _⟩ := this
    unfold Okv
    exact ⟨kvs, e⟩
  | 0, .tup _, h => by simp [Pw] at h
  | n + 1, .tup xs, h => by
    simp only [Pw] at h
    unfold Okv
    exact ⟨by omega, okvs_of fun x hx => pw_okv (h.2 x hx)⟩
  | n, .rd _, h => by cases n <;> simp [Pw] at h
  | n, .exc _ _, h => by cases n <;> simp [Pw] at h
theorem pt_up : ∀ {n m : Nat} {d : D}, Pt n d → n ≤ m → Pt m d
  | n, m, .non, _, _ => by cases m <;> simp [Pt]
  | n, m, .bl _, _, _ => by cases m <;> simp [Pt]
  | n, m, .int i, h, _ => by cases n <;> cases m <;> simpa [Pt] using h
  | n, m, .str x, h, _ => by cases n <;> cases m <;> simpa [Pt] using h
  | 0, m, .tup _, h, _ => by simp [Pt] at h
  | n + 1, 0, .tup _, _, h => by omega
  | n + 1, m + 1, .tup xs, h, hm => by
    simp only [Pt] at h ⊢
    exact ⟨h.1, fun x hx => pt_up (h.2 x hx) (by omega)⟩
  | n, m, .lst _, h, _ => by cases n <;> simp [Pt] at h
  | n, m, .obj _, h, _ => by cases n <;> simp [Pt] at h
  | n, m, .rd _, h, _ => by cases n <;> simp [Pt] at h
  | n, m, .exc _ _, h, _ => by cases n <;> simp [Pt] at h
theorem rv_okv {M : Mem} {d : D} (h : Rv M d) : Okv M d := h.elim pw_okv pw_okv
/-- the tuple ts, and changed -/
def chg (ts : List D) : List D := [D.tup ts, D.lst ts, D.tup (cutD ts none (some 1)), D.tup (ts ++ [D.int 0]), D.tup ts.reverse]
theorem chg_rv {M : Mem} {k : Nat} {ts : List D} (hk : k ≤ 4) (pT : Pt (k + 1) (.tup ts)) : ∀ v ∈ chg ts, Rv M v := fun v hv => by
  simp only [Pt] at pT
  have px : ∀ x ∈ ts, Pw M true 4 x := fun x hx => pw_up (pt_pw (pT.2 x hx)) (by omega)
  have q1 := cut_len ts none (some 1)
  unfold chg at hv
  simp only [List.mem_cons, List.not_mem_nil, or_false] at hv
  refine .inl ?_
  rcases hv with rfl | rfl | rfl | rfl | rfl
  · simp only [Pw]; exact ⟨by omega, px⟩
  · simp only [Pw]; exact ⟨trivial, by omega, px⟩
  · simp only [Pw]; exact ⟨by omega, fun x hx => px x (cut_mem hx)⟩
  · simp only [Pw]; exact ⟨by rw [List.length_append]; simp; omega, fun x hx => (List.mem_append.mp hx).elim (px x) fun hx => by cases List.mem_singleton.mp hx; simp [Pw]⟩
  · simp only [Pw]; exact ⟨by rw [List.length_reverse]; omega, fun x hx => px x (List.mem_reverse.mp hx)⟩
theorem rv_one {M : Mem} {w : Str} (h : plS w = true) (hl : w.length ≤ 60) : Rv M (.tup [.str w]) := .inl (by
  simp only [Pw]
  exact ⟨by simp, fun x hx => by rw [List.mem_singleton.mp hx]; simp only [Pw]; exact ⟨h, hl⟩⟩)
theorem rv_two {M : Mem} {w : Str} {d : D} (h : plS w = true) (hl : w.length ≤ 60) (hd : Pw M true 4 d) : Rv M (.tup [.str w, d]) := .inl (by
  simp only [Pw]
  refine ⟨by simp, fun x hx => ?_⟩
  simp only [List.mem_cons, List.not_mem_nil, or_false] at hx
  rcases hx with rfl | rfl
  · simp only [Pw]; exact ⟨h, hl⟩
  · exact hd)
/-- by looking: data that is drawn -/
def pwB : Nat → D → Bool
  | _, .non => true
  | _, .bl _ => true
  | _, .int i => decide (i.natAbs < 10 ^ 60)
  | _, .str x => plS x && decide (x.length ≤ 60)
  | n + 1, .lst xs => decide (xs.length ≤ 10) && xs.all (pwB n)
  | n + 1, .tup xs => decide (xs.length ≤ 10) && xs.all (pwB n)
  | _, _ => false
theorem pwB_ok {M : Mem} : ∀ {n : Nat} {d : D}, pwB n d = true → Pw M true n d
  | n, .non, _ => by cases n <;> simp [Pw]
  | n, .bl _, _ => by cases n <;> simp [Pw]
  | n, .int i, h => by
    have : i.natAbs < 10 ^ 60 := by cases n <;> simpa [pwB] using h
    cases n <;> simpa [Pw] using this
  | n, .str x, h => by
    have : plS x = true ∧ x.length ≤ 60 := by cases n <;> simpa [pwB] using h
    cases n <;> simpa [Pw] using this
  | 0, .lst _, h => by simp [pwB] at h
  | 0, .tup _, h => by simp [pwB] at h
  | n + 1, .lst xs, h => by
    simp only [pwB, Bool.and_eq_true, decide_eq_true_eq, List.all_eq_true] at h
    simp only [Pw]
    exact ⟨trivial, h.1, fun x hx => pwB_ok (h.2 x hx)⟩
  | n + 1, .tup xs, h => by
    simp only [pwB, Bool.and_eq_true, decide_eq_true_eq, List.all_eq_true] at h
    simp only [Pw]
    exact ⟨h.1, fun x hx => pwB_ok (h.2 x hx)⟩
  | n, .obj _, h => by cases n <;> simp [pwB] at h
  | n, .rd _, h => by cases n <;> simp [pwB] at h
  | n, .exc _ _, h => by cases n <;> simp [pwB] at h
/-- the texts in a drawn thing are plain -/
theorem rv_word {M : Mem} {w : Str} {r : List D} (h : Rv M (.tup (.str w :: r))) : plS w = true := by
  rcases h with h | h
  · simp only [Pw] at h
    have := h.2 _ List.mem_cons_self
    simp only [Pw] at this
    exact this.1
  · simp only [Pw] at h
    have := h.2 _ List.mem_cons_self
    simp only [Pw] at this
    exact this.1
theorem rv_wordI {M : Mem} {xs : List D} {w : Str} {r : List D} (h : Rv M (.tup xs)) (hx : D.tup (.str w :: r) ∈ xs) : plS w = true := by
  rcases h with h | h
  · simp only [Pw] at h
    have := h.2 _ hx
    simp only [Pw] at this
    have := this.2 _ List.mem_cons_self
    simp only [Pw] at this
    exact this.1
  · simp only [Pw] at h
    have := h.2 _ hx
    simp only [Pw] at this
    have := this.2 _ List.mem_cons_self
    simp only [Pw] at this
    exact this.1
theorem inD_str {w : Str} {ws : List Str} : inD (.str w) (ws.map D.str) = ws.contains w := by
  unfold inD
  rw [List.any_map, Bool.eq_iff_iff, List.any_eq_true, List.contains_iff_mem]
  simp only [Function.comp_def, eqD_str, decide_eq_true_eq]
  exact ⟨fun ⟨x, hx, e⟩ => e ▸ hx, fun h => ⟨_, h, rfl⟩⟩
def txtOf (t : D) : D := .str (py t).shown
theorem pt_rvN {M : Mem} {n : Nat} {t : D} (hn : n ≤ 5) (h : Pt n t) : Rv M t := .inl (pw_up (pt_pw h) hn)
theorem txt_pyN {M : Mem} {n : Nat} {t : D} (hn : n ≤ 5) (h : Pt n t) : (pyM M t).shown = (py t).shown := by rw [(pw_sh (M := M) (pw_up (pt_pw h) hn)).2.1]
theorem txt_shN {n : Nat} {t : D} (hn : n ≤ 5) (h : Pt n t) : Sh 30 (txtOf t) := by
  have := rv_txt (M := fun _ => none) (pt_rvN hn h)
  rw [txt_pyN hn h] at this
  exact sh_str this
theorem in_papersN {M : Mem} {n : Nat} {v : D} {ts : List D} {b : Bool} (hn : n ≤ 5) (hv : Rv M v) (ht : ∀ t ∈ ts, Pt n t) (hb : b = true ↔ v ∈ ts) : inD (.str (pyM M v).shown) (ts.map txtOf) = b := by
  rw [Bool.eq_iff_iff, hb]
  unfold inD
  rw [List.any_map, List.any_eq_true]
  constructor
  · rintro ⟨t, hm, e⟩
    simp only [Function.comp_def, txtOf, eqD_str, decide_eq_true_eq] at e
    have : v = t := (txt_iff hv (pw_up (pt_pw (ht t hm)) hn)).mp (by rw [txt_pyN hn (ht t hm)]; exact e.symm)
    rw [this]
    exact hm
  · intro h
    refine ⟨v, h, ?_⟩
    simp only [Function.comp_def, txtOf, eqD_str, decide_eq_true_eq]
    exact (txt_pyN hn (ht v h)).symm
theorem oIn_papersN {M : Mem} {n : Nat} {v : D} {ts : List D} {b : Bool} {Q : VL.VK} (hn : n ≤ 5) (hv : Rv M v) (ht : ∀ t ∈ ts, Pt n t) (hb : b = true ↔ v ∈ ts) (q : Q (.bl b) M) : oIn (.str (pyM M v).shown) (.lst (ts.map txtOf)) M Q := by
  refine ⟨ts.map txtOf, rfl, sh_str (rv_txt hv), fun z hz => ?_, by rw [in_papersN hn hv ht hb]; exact q⟩
  obtain ⟨t, hm, rfl⟩ := List.mem_map.mp hz
  exact txt_shN hn (ht t hm)
theorem oNotIn_papersN {M : Mem} {n : Nat} {v : D} {ts : List D} {b : Bool} {Q : VL.VK} (hn : n ≤ 5) (hv : Rv M v) (ht : ∀ t ∈ ts, Pt n t) (hb : b = true ↔ v ∈ ts) (q : Q (.bl (!b)) M) : oNotIn (.str (pyM M v).shown) (.lst (ts.map txtOf)) M Q := by
  refine ⟨ts.map txtOf, rfl, sh_str (rv_txt hv), fun z hz => ?_, by rw [in_papersN hn hv ht hb]; exact q⟩
  obtain ⟨t, hm, rfl⟩ := List.mem_map.mp hz
  exact txt_shN hn (ht t hm)
theorem lamZ_t {t : VTEX} {e : Expr} : (lamZ t e).t = t := by cases e <;> rfl
end VL
open PySem PySem.Spec L2
namespace VL
/- isinstance and .value within a comprehension: the frag named by the outer frame -/
theorem v_isXB {X : Cx} {e : Expr} {te : VTE} {p1 p2 pos : Pos} {x : Str} {T : Addr} {s : Shared} {H : Hp} {scope : Scope} {C : Addr} {cl : List (Str × Addr)} {fp : List Addr} (hi : X.mg "isinstance" = none) (hm : X.mg x = some (.ref T)) (he : VE (X.blk s H scope (compEnvC scope cl C X.env) fp) e te) (hg : Gl (X.blk s H scope (compEnvC scope cl C X.env) fp) "isinstance" := by rfl) (hgx : Gl (X.blk s H scope (compEnvC scope cl C X.env) fp) x := by rfl) (hd : (x == ("__debug__" : Str)) = false := by decide)
    (h1 : starEach [e, .Name x p2] (X.blk s H scope (compEnvC scope cl C X.env) fp).env = (false, eval e (X.blk s H scope (compEnvC scope cl C X.env) fp).env) :: starEach [.Name x p2] (X.blk s H scope (compEnvC scope cl C X.env) fp).env := by rfl) (h2 : (backTo pos (starEach [.Name x p2] (X.blk s H scope (compEnvC scope cl C X.env) fp).env)).any (·.1) = false := by rfl) (h3 : starEach [.Name x p2] (X.blk s H scope (compEnvC scope cl C X.env) fp).env = (false, eval (.Name x p2) (X.blk s H scope (compEnvC scope cl C X.env) fp).env) :: starEach [] (X.blk s H scope (compEnvC scope cl C X.env) fp).env := by rfl) :
    VE (X.blk s H scope (compEnvC scope cl C X.env) fp) (.Call (.Name "isinstance" p1) [e, .Name x p2] [] pos) (vIsX X.K T te) :=
  v_isX (X := X.blk s H scope (compEnvC scope cl C X.env) fp) hi hm he hg hgx hd h1 h2 h3
theorem v_valB {X : Cx} {e : Expr} {te : VTE} {pos : Pos} {s : Shared} {H : Hp} {scope : Scope} {C : Addr} {cl : List (Str × Addr)} {fp : List Addr} (he : VE (X.blk s H scope (compEnvC scope cl C X.env) fp) e te) (hb : attributeBase e "value" (X.blk s H scope (compEnvC scope cl C X.env) fp).env (eval e (X.blk s H scope (compEnvC scope cl C X.env) fp).env) = eval e (X.blk s H scope (compEnvC scope cl C X.env) fp).env := by rfl) : VE (X.blk s H scope (compEnvC scope cl C X.env) fp) (.Attribute e "value" pos) (vVal X.K te) :=
  v_val (X := X.blk s H scope (compEnvC scope cl C X.env) fp) he hb
end VL
namespace VL
open PySem PySem.Spec L2
def two0 {α : Type} : List α → List α
  | [] => []
  | [x] => [x]
  | x :: _ :: xs => x :: two0 xs
def two {α : Type} (k : Nat) (xs : List α) : List α := two0 (xs.drop k)
theorem two0_len {α : Type} : ∀ xs : List α, (two0 xs).length = (xs.length + 1) / 2
  | [] => by simp [two0]
  | [_] => by simp [two0]
  | _ :: _ :: xs => by
    rw [two0, List.length_cons, two0_len xs, List.length_cons, List.length_cons]
    omega
theorem two0_map {α β : Type} (f : α → β) : ∀ xs : List α, two0 (xs.map f) = (two0 xs).map f
  | [] => rfl
  | [_] => rfl
  | _ :: _ :: xs => by simp [two0, two0_map f xs]
theorem two_map {α β : Type} (f : α → β) (k : Nat) (xs : List α) : two k (xs.map f) = (two k xs).map f := by
  unfold two
  rw [← List.map_drop, two0_map]
theorem two0_mem {α : Type} {x : α} : ∀ {xs : List α}, x ∈ two0 xs → x ∈ xs
  | [], h => h
  | [_], h => h
  | y :: z :: xs, h => by
    rw [two0, List.mem_cons] at h
    rcases h with rfl | h
    · exact List.mem_cons_self
    · exact List.mem_cons_of_mem _ (List.mem_cons_of_mem _ (two0_mem h))
theorem two_mem {α : Type} {x : α} {k : Nat} {xs : List α} (h : x ∈ two k xs) : x ∈ xs := List.mem_of_mem_drop (two0_mem h)
theorem two0_pick {α : Type} : ∀ xs : List α, (List.range ((xs.length + 1) / 2)).filterMap (fun m => xs[m * 2]?) = two0 xs
  | [] => by simp [two0]
  | [x] => by simp [two0]
  | x :: y :: xs => by
    have e : ((x :: y :: xs).length + 1) / 2 = (xs.length + 1) / 2 + 1 := by simp; omega
    rw [e, List.range_succ_eq_map, List.filterMap_cons]
    simp only [Nat.zero_mul, List.getElem?_cons_zero, List.filterMap_map]
    rw [two0, ← two0_pick xs]
    congr 1
    refine fm_congr fun m _ => ?_
    simp only [Function.comp_def]
    rw [show (m + 1) * 2 = (m * 2 + 1) + 1 by omega, List.getElem?_cons_succ, List.getElem?_cons_succ]
theorem two_pick {α : Type} (k : Nat) (xs : List α) : (List.range ((xs.length - k + 1) / 2)).filterMap (fun m => xs[k + m * 2]?) = two k xs := by
  unfold two
  rw [← two0_pick, List.length_drop]
  exact fm_congr fun m _ => by rw [List.getElem?_drop]
theorem adjust_two (k n : Nat) : Builtin.Slice.sliceAdjust (some (k : Int)) none 2 (n : Int) = (((min k n : Nat) : Int), (n : Int)) := by
  unfold Builtin.Slice.sliceAdjust
  simp
  omega
theorem places_two (k n : Nat) : Builtin.Slice.slicePlaces (((min k n : Nat) : Int)) (n : Int) 2 = (n - k + 1) / 2 := by
  unfold Builtin.Slice.slicePlaces
  rw [if_pos (by decide)]
  split <;> omega
section
open PyProof.Rows HT
variable {prog : Program} {w : World} {A : Around} {E : Value → Shared → Prop} {s : Shared}
theorem applied_two {sl : Addr} {t t0 : Tok} {n k : Nat} {Q : Int × Int × Nat → Shared → Prop} (hs : s.heap.IsSliceOf sl (.int (k : Int) t0) .none (.int 2 t))
    (h : Q (((min k n : Nat) : Int), 2, (n - k + 1) / 2) s) : wpAny (model prog w) A (Builtin.Slice.sliceApplied (.ref sl) (pure (n : Int))) Q E s := by
  obtain ⟨os, hos, hcs, hds⟩ := id hs
  unfold Builtin.Slice.sliceApplied Builtin.Slice.sliceFields
  refine wpAny_bind (wpAny_bind (wpAny_field hos hds (x := .int (k : Int) t0) rfl (wpAny_bind (wpAny_field hos hds (x := .none) rfl (wpAny_bind (wpAny_field hos hds (x := .int 2 t) rfl (wpAny_pure ?_)))))))
  refine wpAny_bind (slicePart_int ?_)
  show wpAny _ _ (if ((2 : Int) == 0) = true then _ else _) _ _ s
  rw [if_neg (by decide)]
  refine wpAny_bind (slicePart_int (wpAny_bind (slicePart_none (wpAny_bind (wpAny_pure ?_)))))
  show wpAny _ _ (match Builtin.Slice.sliceAdjust (some (k : Int)) none 2 (n : Int) with | (lo, hi) => pure (lo, (2 : Int), Builtin.Slice.slicePlaces lo hi 2)) _ _ s
  rw [adjust_two k n]
  show wpAny _ _ (pure (((min k n : Nat) : Int), (2 : Int), Builtin.Slice.slicePlaces (((min k n : Nat) : Int)) (n : Int) 2)) _ _ s
  rw [places_two]
  exact wpAny_pure h
theorem pick_two (xs : Array Value) (k : Nat) : ((List.range ((xs.size - k + 1) / 2)).filterMap fun (m : Nat) => xs[((((min k xs.size : Nat) : Int)) + (m : Int) * 2).toNat]?).toArray = (two k xs.toList).toArray := by
  congr 1
  rw [← two_pick, Array.length_toList]
  refine fm_congr fun m hm => ?_
  have hm' := List.mem_range.mp hm
  rw [Array.getElem?_toList]
  congr 1
  omega
end
end VL
namespace VL
open PySem PySem.Spec L2
section
open PyProof.Rows HT
variable {prog : Program} {w : World} {A : Around} {E : Value → Shared → Prop} {s : Shared}
theorem getItem_tuple_two {t sl : Addr} {items : Array Value} {i : Nat} {k0 k : Tok} {Q : Value → Shared → Prop} (ht : IsTup s.heap t items) (hs : s.heap.IsSliceOf sl (.int (i : Int) k0) .none (.int 2 k))
    (h : Q (.ref s.heap.objs.size) { s with heap := s.heap.push { cls := .type "tuple", data := .seq (two i items.toList).toArray } })
    (hsz : items.size ≤ sizeLine) : wpAny (model prog w) A (getItem (.ref t) (.ref sl)) Q E s := by
  have htake : sizeOk (.seq (two i items.toList).toArray) := by
    show (two i items.toList).toArray.size ≤ sizeLine
    rw [List.size_toArray]
    unfold two
    rw [two0_len, List.length_drop, Array.length_toList]
    omega
  obtain ⟨os, hos, hcs, hds⟩ := id hs
  have hTs : s.TypeIs (.ref sl) "slice" := ⟨os, hos, hcs⟩
  unfold getItem
  try with_reducible refine wpAny_holding ?_
  first | refine wpAny_bind (wpAny_pure ?_) | skip
  refine wpAny_bind (wpAny_sequenceKey ht.typeIs (by decide) ?_)
  refine wpAny_bind (wpAny_callSpecial?_slot (name := Str.ofString "__getitem__") ht.typeIs PyProof.Rows.slot_tuple_getitem
    (wpAny_call_entry PyProof.Rows.slot_tuple_getitem ht.typeIs entry_tuple_getitem ?_ (args_tuple_getitem _ _)))
  show wpAny _ _ (Builtin.Tuple.tupleItemsOf (.ref t) >>= _) _ _ s
  refine wpAny_bind (tupleItemsOf_ ht ?_)
  refine wpAny_bind (wpAny_typeOf hTs ?_)
  rw [if_pos (by decide)]
  refine wpAny_bind (applied_two hs ?_)
  have hno : ¬ (((((min i items.size : Nat) : Int)) == 0 && (2 : Int) == 1 && (items.size - i + 1) / 2 == items.size) = true) := by
    intro q
    rw [Bool.and_eq_true, Bool.and_eq_true] at q
    exact absurd q.1.2 (by decide)
  show wpAny _ _ (if ((((min i items.size : Nat) : Int)) == 0 && (2 : Int) == 1 && (items.size - i + 1) / 2 == items.size) = true then _ else _) _ _ s
  rw [if_neg hno, pick_two]
  first
    | exact wpAny_bind (m := Builtin.Tuple.tupleExact _) (wpAny_newObj_type (wpAny_pure ⟨_, rfl, wpAny_pure h⟩) htake)
    | exact wpAny_bind (m := Builtin.Tuple.tupleExact _) (wpAny_newObj_type (wpAny_bind (wpAny_pure (wpAny_pure ⟨_, rfl, wpAny_pure h⟩))) htake)
    | exact wpAny_bind (wpAny_bind (m := Builtin.Tuple.tupleExact _) (wpAny_newObj_type (wpAny_pure (wpAny_pure ⟨_, rfl, wpAny_pure h⟩)) htake))
    | exact wpAny_bind (wpAny_bind (m := Builtin.Tuple.tupleExact _) (wpAny_newObj_type (wpAny_pure ⟨_, rfl, wpAny_pure h⟩) htake))
end
section
variable {K : PySem.W.Frag} {F : Hp}
theorem DRs.two0 : ∀ {vs : List V} {ds : List D}, DRs K F vs ds → DRs K F (two0 vs) (VL.two0 ds)
  | _, _, .nil => .nil
  | _, _, .cons a .nil => .cons a .nil
  | _, _, .cons a (.cons _ r) => .cons a (DRs.two0 r)
theorem DRs.two {vs : List V} {ds : List D} (k : Nat) (h : DRs K F vs ds) : DRs K F (VL.two k vs) (VL.two k ds) := (h.drop k).two0
end
section
theorem vals_two0 : ∀ {vs : List V} {us : List Value}, Vals vs us → Vals (two0 vs) (two0 us)
  | _, _, .nil => .nil
  | _, _, .cons a .nil => .cons a .nil
  | _, _, .cons a (.cons _ r) => .cons a (vals_two0 r)
theorem vals_two {vs : List V} {us : List Value} (k : Nat) (h : Vals vs us) : Vals (two k vs) (two k us) := vals_two0 (h.drop k)
end
section
variable {X : Cx} {e e2 : Expr} {te : TE} {tl : TO} {pos p1 p2 p3 : Pos} {k : Nat}
def tTwoT (K : PySem.W.Frag) (te : TE) (tl : TO) : TE := fun σ H Q => te σ H fun x H1 => ∃ a, x = .ref a ∧ tl σ H1 fun o H2 => ∃ (xs : List V) (i : Nat), o = some (i : Int) ∧ SqT K H2 a xs ∧ ∀ p, H2 p = none → Q (.ref p) (upd H2 p (.tup (two i xs)))
open PyProof.Rows in
theorem pe_twoT (he : PE X e te) (hl : PO X (some e2) tl) : PE X (.Subscript e (.Slice (some e2) none (some (.Constant (.int 2) k p1)) p3) pos) (tTwoT X.K te tl) := by
  refine ⟨fun pins s σ H Q I h => ?_⟩
  refine Subscript_ (thn (he.run pins s σ H _ I h) fun v s1 ⟨x, H1, I1, r1, q1⟩ => ?_)
  obtain ⟨a, ex, q1⟩ := q1
  subst ex
  cases r1
  have hst : PO X (some (.Constant (.int 2) k p1)) (tPart (tC (.int 2))) := po_some pe_int
  refine wpAny_Slice (thn (hl.run pins s1 σ H1 _ I1 q1) fun vl s2 ⟨l, H2, I2, pl, xs, i, el, hx, q⟩ => ?_)
  subst el
  refine thn (po_none.run pins s2 σ H2 (fun o H3 => o = none ∧ H3 = H2) I2 ⟨rfl, rfl⟩) fun vu s3 ⟨u, H3, I3, pu, eu, e3⟩ => ?_
  subst eu e3
  refine thn (hst.run pins s3 σ H3 (fun o H4 => o = some 2 ∧ H4 = H3) I3 ⟨2, rfl, rfl, rfl⟩) fun vs s4 ⟨o, H4, I4, ps, eo, e4⟩ => ?_
  subst eo e4
  have I5 : Inv X pins σ H4 { s4 with heap := s4.heap.push { cls := .type "slice", data := .fields #[vl, vu, vs] } } := I4.kept (t' := s4.toks) fun b ob q => Heap.get?_push_of_some _ q
  obtain ⟨its, r, ht, hz⟩ := I5.tuple hx
  have hlen := r.length
  cases pu
  obtain ⟨tk, rfl⟩ : ∃ tk, vs = .int 2 tk := by cases ps; exact ⟨_, rfl⟩
  obtain ⟨tk0, rfl⟩ : ∃ tk, vl = .int (i : Int) tk := by cases pl; exact ⟨_, rfl⟩
  show wpAny (model X.prog X.w) X.A (subscriptTail e (.Slice (some e2) none (some (.Constant (.int 2) k p1)) p3) (.ref a) (.ref s4.heap.objs.size)) (EP X pins σ Q) X.xe { s4 with heap := s4.heap.push { cls := .type "slice", data := .fields #[.int (i : Int) tk0, .none, .int 2 tk] } }
  refine PyProof.Rows.tail_any (ops := [.ref a, .ref s4.heap.objs.size]) ht.typeIs PyProof.Rows.slot_tuple_getitem.lookup ?_ (by with_unfolding_all rfl)
  refine getItem_tuple_two ht (Heap.IsSliceOf.new _ (.int (i : Int) tk0) .none (.int 2 tk)) ?_ (by rw [List.size_toArray]; omega)
  refine ⟨.ref _, _, I5.laid (t' := s4.toks) (o := .tup (two i xs)) (fun b ob q => Heap.get?_push_of_some _ q) (Nat.le_refl _) ?_, rfl, q _ (I5.hok.fresh (Nat.le_refl _))⟩
  have tl : (two i xs).length ≤ sizeLine := by
    unfold two
    rw [two0_len, List.length_drop]
    omega
  exact ⟨tl, _, vals_two i r, PyProof.Rows.IsTup.new _ _⟩
@[simp] def vTwoT (te : VTE) (tl : VTO) : VTE := fun e M Q => te e M fun x M1 => ∃ xs, x = .tup xs ∧ tl e M1 fun o M2 => ∃ i : Nat, o = some (i : Int) ∧ Q (.tup (two i xs)) M2
theorem v_twoT {te : VTE} {tl : VTO} (he : VE X e te) (hl : VO X (some e2) tl) : VE X (.Subscript e (.Slice (some e2) none (some (.Constant (.int 2) k p1)) p3) pos) (vTwoT te tl) :=
  v_pe (pe_twoT he hl) fun F M G σ H e Q' Q hs hr q o => ⟨F, M, G, e, _, hs, hr, q, fun v H1 F1 M1 d s1 r1 d1 ⟨xs, ed, q1⟩ => by
    subst ed
    cases d1 with
    | tup h z => exact ⟨_, rfl, F1, M1, G, e, _, hs.up s1, r1, q1, fun l H2 F2 M2 s2 r2 ⟨i, el, q2⟩ => ⟨_, i, el, same_tup r2.sub (same_tup s2 h), fun p hp => (o.up (s1.trans s2)).newT r2 ((z.up s2).two i) q2 p hp⟩⟩⟩
end
end VL
namespace VL
open PySem PySem.Spec L2
section
open PyProof.Rows
variable {prog : Program} {w : World} {A : Around} {E : Value → Shared → Prop} {s : Shared} {l : Addr} {its : List Value} {ns : List Int} {Q : Value → Shared → Prop}
theorem sum_tupRaw (hh : A.handled = none) (hl : IsTup s.heap l its.toArray) (hi : IntsAre its ns)
    (h : ∀ h' tk t', (∀ b o, s.heap.get? b = some o → h'.get? b = some o) → Q (.int ns.sum t') { s with heap := h', toks := tk }) : wpAny (model prog w) A (call (.builtin "sum") [.ref l]) Q E s := by
  obtain ⟨xs, e⟩ := hi.allInts.items
  have hn : numsOf (intItems xs).toList = ns := by rw [← e]; exact hi.numsOf
  rw [nums_intItems] at hn
  rw [e] at hl
  have hl : s.heap.IsTuple l (intItems xs) := hl
  have hlt : l < s.heap.objs.size := by obtain ⟨_, e, _⟩ := hl; exact Heap.lt_size e
  refine call_sum_walkG (wpAny_pyIter_tuple hl ?_)
  refine ⟨_, _, _, _, _, _, numAt xs, rfl, Walks.tuple (A := A.in1) hh _ l (Nat.ne_of_lt hlt) (intItems xs), ⟨⟨_, Heap.get?_push_size _ rfl, rfl, rfl⟩, hl.push _⟩, (fun b hb => ?_), (fun _ _ => intItems_at), fun h' tk t' hk => ?_⟩
  · show b < (s.heap.push _).objs.size
    rw [Heap.size_push]
    rcases List.mem_cons.mp hb with rfl | hb
    · exact Nat.lt_succ_self _
    · rcases List.mem_cons.mp hb with rfl | hb
      · exact Nat.lt_succ_of_lt hlt
      · cases hb
  · have := h h' tk t' fun b o e => hk b o (fun hm => Nat.ne_of_lt (Heap.lt_size e) (List.mem_singleton.mp hm)) (Heap.get?_push_of_some _ e)
    rw [preSum_eq, List.take_of_length_le (by simp [intItems]), hn]
    exact this
end
section
variable {X : Cx}
def rSumTup (K : PySem.W.Frag) : List V → Hp → L2.VK → Prop := fun vs H Q => ∃ (a : Addr) (ns : List Int), vs = [V.ref a] ∧ SqT K H a (ns.map V.int) ∧ Q (.int ns.sum) H
theorem cr_sumT (hc : X.calm = true) : CallR X (.builtin "sum") (rSumTup X.K) := by
  intro pins s σ H vs us Q I r h
  obtain ⟨a, ns, rfl, hs, q⟩ := h
  obtain ⟨its, rv, hl, _⟩ := I.tuple hs
  rw [Vals.ref1 r]
  exact sum_tupRaw (I.ok.hd hc) hl rv.ints fun h' tk t' hk => ⟨.int _, H, I.kept hk, ⟨_, rfl⟩, q⟩
/-- sum of a tuple -/
def rSumT : VRs
  | [.tup ds], M, Q => ∃ ns : List Int, ds = ns.map D.int ∧ Q (.int ns.sum) M
  | _, _, _ => False
theorem c_sumT (hc : X.calm = true) : CallR X (.builtin "sum") (ls X.K rSumT) := cr_of (cr_sumT hc) fun F M G H xs ds Q' Q r dv q o => by
  unfold rSumT at q
  split at q
  · obtain ⟨v, rfl, z⟩ := one_of dv
    obtain ⟨ns, rfl, q⟩ := q
    cases z with
    | tup h z2 =>
      rw [drs_ints z2] at h
      exact ⟨_, ns, rfl, same_tup r.sub h, o.stay r (.int _) q⟩
  · exact q.elim
end
/-- a walk over a list that is new -/
theorem sFor_new {α : Type} {ti : VTI} {g : VTG} {tb : VTS} {D' : VEnds} {e : VEnv} {M : Mem} (xs : List α) (f : α → D) (P : Addr → Nat → VEnv → Mem → Prop)
    (hi : ∀ R : VIt → Mem → Prop, (∀ c, M c = none → R ⟨xs.map f, fun N => asI N (.obj c) = some (xs.map f)⟩ (mupd M c (.lst (xs.map f)))) → ti e M R)
    (h0 : ∀ c, M c = none → P c 0 e (mupd M c (.lst (xs.map f)))) (hok : ∀ c i e N, M c = none → P c i e N → N c = some (.lst (xs.map f)))
    (ht : ∀ c i x e N, M c = none → xs[i]? = some x → i < xs.length → P c i e N → g (f x) e N fun e2 M2 => tb { D' with nx := P c (i + 1), ct := P c (i + 1), bk := D'.nx } e2 M2) (hd : ∀ c e N, M c = none → P c xs.length e N → D'.nx e N) : sFor ti g tb D' e M := by
  refine hi _ fun c hc => ⟨P c, h0 c hc, fun i e N _ hp => by simp [asI, asL_obj (hok c i e N hc hp)], fun i d e N hd' hp => ?_, fun e N hp => hd c e N hc (by rw [← List.length_map f]; exact hp)⟩
  dsimp only at hd'
  rw [List.getElem?_map] at hd'
  cases hx : xs[i]? with
  | none => rw [hx] at hd'; cases hd'
  | some x =>
    rw [hx] at hd'
    cases hd'
    exact ht c i x e N hc hx (by rcases Nat.lt_or_ge i xs.length with h1 | h1; exact h1; rw [List.getElem?_eq_none h1] at hx; cases hx) hp
theorem s_hideIf {c : VTT} {t u R : VTS} {K : VEnds} {e : VEnv} {M : Mem} (h : ∀ t' : VTS, t' = t → ∀ R' : VTS, R' = R → sSeq (sIf c t' u) R' K e M) : sSeq (sIf c t u) R K e M := h t rfl R rfl
/-- a tuple of ints is readable -/
theorem rv_ints {M : Mem} {xs : List Int} (hl : xs.length ≤ 10) (hb : ∀ x ∈ xs, x.natAbs < 10 ^ 60) : Rv M (.tup (xs.map D.int)) := .inl (by
  simp only [Pw]
  refine ⟨by rw [List.length_map]; exact hl, fun x hx => ?_⟩
  obtain ⟨i, hi, rfl⟩ := List.mem_map.mp hx
  simp only [Pw]
  exact hb i hi)
end VL
namespace VL
open PySem PySem.Spec L2
open PySem.Calls PyProof.Rows
def ifC : Stmt → Expr
  | .If c _ _ _ => c
  | _ => noE
def por (φ : VSp) (ψ : VSpX) : VSpX := fun ds M Q E' => φ ds M Q ∨ ψ ds M Q E'
theorem por_l {φ : VSp} {ψ : VSpX} {ds : List D} {M : Mem} {Q : VL.VK} {E' : VXK} (h : φ ds M Q) : por φ ψ ds M Q E' := .inl h
theorem por_r {φ : VSp} {ψ : VSpX} {ds : List D} {M : Mem} {Q : VL.VK} {E' : VXK} (h : ψ ds M Q E') : por φ ψ ds M Q E' := .inr h
theorem cr_up {P : Program} {w : World} {outer : List Env} {H : Hp} {s s' : Shared} {Q : L2.VK} {E : XK} {r : Result} (h : CR CX0 outer P w H s Q E r s') : CR (L2.CX P w) outer P w H s Q E r s' := by
  unfold CR at h ⊢
  split at h
  · exact h
  · exact h
  · exact h.elim
theorem kn_ofOr {P : Program} {w : World} {K : PySem.W.Frag} {mg : Str → Option Value} {base : Heap} {x : Str} {st : Stmt} {N ps : List Str} {j k : Nat} {φ : VSp} {ψ : VSpX} (h1 : Kn P w K mg base j x ps φ) (hj : j ≤ k + 1) (hD : Df K mg x st) (S : FnScope N ps (defScope st))
    (hb : ∀ (kV doc pm : Value) (an : Option Addr) (cdv ct : Value) (us : List Value), us.length = ps.length → bindArgs (PySem.W.fnOf x x (defArgs st) (defBody st) (defScope st) .none kV doc pm an cdv ct) ⟨us, []⟩ = pure (ps.zip us))
    (len : ∀ ds M Q E', ψ ds M Q E' → ds.length = ps.length)
    (hbody : ∀ (f : Addr) (cdv : Value) (A : Around) (outer : List Env) (s : Shared) (H : Hp) (E : XK), RmG k (A.deeper (envOfC x (defScope st) s.heap.objs.size f cdv)) →
      ∃ t, VSsX (cxOf (L2.CX P w) P w K mg base N x (defScope st) f cdv A outer s H E) E (defBody st) t ∧ ∀ ds M Q E', ψ ds M Q E' → t { nx := fun _ M' => Q .non M', rt := Q } E' (vstart N.length ds) M) : KnX P w K mg base (k + 1) x ps (por φ ψ) := by
  obtain ⟨f, fd, hm, Fd⟩ := hD.ex
  obtain ⟨f1, fd1, hm1, kp1, b11, b21, ⟨oc1, od1, osl1, lk1⟩, F1⟩ := h1.ex
  obtain ⟨oc, od, dV, kV, doc, pm, an, cdv, ct, osl, hfd, lk, hcd, _, _⟩ := id Fd.ex
  have ef : f1 = f := by rw [hm] at hm1; cases hm1; rfl
  subst ef
  have efd : fd1 = fd := by rw [lk] at lk1; cases lk1; rfl
  subst efd
  refine ⟨f1, fd1, hm, Fd.kp, Fd.bindsN hb, ?_⟩
  rw [hfd] at lk
  have F2 : FnG P w K mg base (L2.CX P w) (k + 1) f1 fd1 ps (lSpX K ψ) := by
    rw [hfd]
    refine fnG_of lk hcd S (fun vs H Q E ⟨F, M, G, ds, Q', E', dv, r, q, o, ox⟩ => by rw [dv.len]; exact len ds M Q' E' q) fun A outer s H vs Q E hr ⟨F', M, G, ds, Q', E', dv, r, q, o, ox⟩ => ?_
    obtain ⟨t, h1, h2⟩ := hbody f1 cdv A outer s H E hr
    exact ⟨_, h1, F', M, G, vstart N.length ds, _, E', SR.start dv, r, h2 ds M Q' E' q, ⟨fun σ H1 F1 M1 e s1 r1 hs1 q1 => o _ H1 F1 M1 _ s1 r1 .non q1, o, fun _ _ _ _ _ _ _ _ z => z.elim, fun _ _ _ _ _ _ _ _ z => z.elim⟩, ox⟩
  refine ⟨fun vs H Q E ⟨F, M, G, ds, Q', E', dv, r, q, o, ox⟩ => ?_, fun A outer s H args us vs Q E hr env bd rel pr => ?_⟩
  · rcases q with q | q
    · exact F1.len vs H Q E ⟨F, M, G, ds, Q', dv, r, q, o⟩
    · rw [dv.len]; exact len ds M Q' E' q
  · obtain ⟨F', M, G, ds, Q', E', dv, r, q, o, ox⟩ := pr
    rcases q with q | q
    · exact codeAny_mono (F1.run A outer s H args us vs Q E (hr.mono hj) env bd rel ⟨F', M, G, ds, Q', dv, r, q, o⟩) fun r s' h => cr_up h
    · exact F2.run A outer s H args us vs Q E hr env bd rel ⟨F', M, G, ds, Q', E', dv, r, q, o, ox⟩
end VL
namespace VL
open PySem PySem.Spec L2
section
open PyProof.Rows
/-- a list at a, a tuple at b, turn by turn -/
def ItzM (K : PySem.W.Frag) (a b : Addr) : It where
  go := fun i H => ∃ (us vs : List V) (x y : V), SqL K H a us ∧ SqT K H b vs ∧ us[i]? = some x ∧ vs[i]? = some y
  yld := fun i H v H' => ∃ T x y, v = .ref T ∧ H T = none ∧ H' = upd H T (.tup [x, y]) ∧ (∀ us, SqL K H a us → us[i]? = some x) ∧ ∀ vs, SqT K H b vs → vs[i]? = some y
  stop := fun i H => ∃ us vs : List V, SqL K H a us ∧ SqT K H b vs ∧ i ≤ us.length ∧ i ≤ vs.length ∧ (i = us.length ∨ i = vs.length)
theorem nen {x y : Nat} (h : x ≠ y) : (x : Addr) ≠ (y : Addr) := h
theorem nin2 {x y z : Nat} (h1 : x ≠ y) (h2 : x ≠ z) : (x : Addr) ∉ ([y, z] : List Addr) := fun h => by
  rcases List.mem_cons.mp h with e | e
  · exact h1 e
  · exact h2 (List.mem_singleton.mp e)
theorem sepM {n a b : Nat} (ha : a < n) (hb : b < n) : ZipSep2 (n + 4) (n + 2) (n + 3) n (n + 1) [n, a] [n + 1, b] :=
  ⟨fun e => absurd (show (n + 2 : Nat) = n + 4 from e) (by omega), fun e => absurd (show (n + 3 : Nat) = n + 4 from e) (by omega), fun e => absurd (show (n + 2 : Nat) = n + 3 from e) (by omega), fun e => absurd (show (n + 2 : Nat) = n from e) (by omega),
   List.mem_cons_self, nin2 (by omega) (by omega), nin2 (by omega) (by omega), fun e => absurd (show (n + 2 : Nat) = n + 1 from e) (by omega), List.mem_cons_self, nin2 (by omega) (by omega), nin2 (by omega) (by omega), nin2 (by omega) (by omega), nin2 (by omega) (by omega)⟩
theorem turn_zipM {P : Program} {w : World} {K : PySem.W.Frag} {elts : List Expr} {kk : Nat} {tpos : Pos} {a b : Addr} {n : Nat} (ha : a < n) (hb : b < n) :
    Turn P w K (.Tuple elts kk tpos) (ItzM K a b) [n + 4, n + 2, n + 3, n, n + 1] (n + 4) (fun i h => IsZip h (n + 4) (n + 2) (n + 3) .none ∧ IsTupOf2 h (n + 2) (.ref n) (.ref (n + 1)) ∧ (∃ x y, IsTupOf2 h (n + 3) x y) ∧ h.IsListIter n a i ∧ h.IsTupleIter (n + 1) b i) where
  mem := List.mem_cons_self
  obj := fun i h st c hc => by
    obtain ⟨cz, cTI, ⟨x, y, cTO⟩, ⟨o1, e1, _, d1⟩, ⟨o2, e2, _, d2⟩⟩ := st
    simp only [List.mem_cons, List.not_mem_nil, or_false] at hc
    rcases hc with rfl | rfl | rfl | rfl | rfl
    · exact ⟨_, cz, fun v q => nomatch q⟩
    · exact ⟨_, cTI, fun v q => nomatch q⟩
    · exact ⟨_, cTO, fun v q => nomatch q⟩
    · exact ⟨o1, e1, fun v q => by rw [d1] at q; cases q⟩
    · exact ⟨o2, e2, fun v q => by rw [d2] at q; cases q⟩
  keep := fun i h h' st k => by
    obtain ⟨cz, cTI, ⟨x, y, cTO⟩, j1, j2⟩ := st
    exact ⟨k _ (by simp) _ cz, k _ (by simp) _ cTI, ⟨x, y, k _ (by simp) _ cTO⟩, j1.at fun o q => k _ (by simp) o q, j2.at fun o q => k _ (by simp) o q⟩
  item := by
    intro X hP hw hK hc i pins s σ H E I hf st hg
    subst hP hw hK
    obtain ⟨cz, cTI, ⟨x0, y0, cTO⟩, j1, j2⟩ := st
    obtain ⟨us, vs, x, y, qa, qb, hx, hy⟩ := hg
    obtain ⟨l1, r1, p1, _⟩ := I.list qa
    obtain ⟨l2, r2, p2, _⟩ := I.tuple qb
    obtain ⟨u1, g1, m1⟩ := r1.get hx
    obtain ⟨u2, g2, m2⟩ := r2.get hy
    have hh : X.A.in1.handled = none := I.ok.hd hc
    have hl1 : s.heap.IsList a l1.toArray := p1.isList
    have hl2 : s.heap.IsTuple b l2.toArray := p2
    have zlt : (n + 4 : Nat) < s.heap.objs.size := Heap.lt_size cz
    have i1 : i < l1.toArray.size := by
      rw [List.size_toArray]
      exact (List.getElem?_eq_some_iff.mp g1).1
    have i2 : i < l2.toArray.size := by
      rw [List.size_toArray]
      exact (List.getElem?_eq_some_iff.mp g2).1
    refine wpAny_pyNext_zipD2_item (sepM ha hb) (Draws.list hh n a (Nat.ne_of_lt ha) l1.toArray) (Draws.tuple hh (n + 1) b (Nat.ne_of_lt (Nat.lt_succ_of_lt hb)) l2.toArray) cz cTI cTO ⟨j1, hl1⟩ ⟨j2, hl2⟩ i1 i2 fun w1 w2 h' tk c1 c2 dz dTO k1 k2 dT dsz keepH => ?_
    have e1 : w1 = u1 := by
      have : l1[i]? = some w1 := by simpa using c1
      rw [g1] at this
      exact (Option.some.inj this).symm
    have e2 : w2 = u2 := by
      have : l2[i]? = some w2 := by simpa using c2
      rw [g2] at this
      exact (Option.some.inj this).symm
    subst e1 e2
    refine ⟨_, rfl, wpAny_letOwnedTupleGo_zip (s := { s with heap := h', toks := tk }) dz fun h'' dz2 sb => ?_⟩
    have fT : h''.get? s.heap.objs.size = some { cls := .type "tuple", data := .seq #[w1, w2] } := (sb.2 _ (Nat.ne_of_gt zlt)).trans dT
    have ok2 : ObjOk X.prog X.w (upd H s.heap.objs.size (.tup [x, y])) h'' s.heap.objs.size (.tup [x, y]) :=
      ⟨by show 2 ≤ sizeLine; decide, [w1, w2], .cons m1 (.cons m2 .nil), ⟨_, fT, rfl, _, rfl⟩⟩
    have far : ∀ (c : Addr) (o : Obj), c ∉ [n + 4, n + 2, n + 3, n, n + 1] → s.heap.get? c = some o → h''.get? c = some o := fun c o hc q => by
      simp only [List.mem_cons, List.not_mem_nil, or_false, not_or] at hc
      exact (sb.2 c hc.1).trans (keepH c o hc.1 hc.2.2.1 hc.2.2.2.1 hc.2.2.2.2 q)
    have J : Inv X pins σ (upd H s.heap.objs.size (.tup [x, y])) { s with heap := h'', toks := tk } := I.turnedNew (t' := tk) (ch := [n + 4, n + 2, n + 3, n, n + 1]) far hf (Nat.le_refl _) ok2
    refine ⟨.ref s.heap.objs.size, _, J, rfl, ⟨_, x, y, rfl, I.hok.fresh (Nat.le_refl _), rfl, fun l hl => by rw [I.list_inj hl qa]; exact hx, fun l hl => by rw [I.tuple_inj hl qb]; exact hy⟩, ⟨dz2, ?_, ⟨w1, w2, ?_⟩, ?_, ?_⟩, fun c hcm => ?_⟩
    · exact (sb.2 _ (nen (by omega))).trans (keepH _ _ (nen (by omega)) (nen (by omega)) (nen (by omega)) (nen (by omega)) cTI)
    · exact (sb.2 _ (nen (by omega))).trans dTO
    · exact k1.1.at fun o q => (sb.2 _ (nen (by omega))).trans q
    · exact k2.1.at fun o q => (sb.2 _ (nen (by omega))).trans q
    · have lt : c < s.heap.objs.size := by
        simp only [List.mem_cons, List.not_mem_nil, or_false] at hcm
        rcases hcm with e | e | e | e | e
        · rw [e]; exact zlt
        · rw [e]; exact (show (n + 2 : Nat) < s.heap.objs.size by omega)
        · rw [e]; exact (show (n + 3 : Nat) < s.heap.objs.size by omega)
        · rw [e]; exact (show (n : Nat) < s.heap.objs.size by omega)
        · rw [e]; exact (show (n + 1 : Nat) < s.heap.objs.size by omega)
      rw [upd_ne (Nat.ne_of_lt lt)]
      exact (hf c hcm).1
  done := by
    intro X hP hw hK hc i pins s σ H E I hf st hg
    subst hP hw hK
    obtain ⟨cz, cTI, ⟨x0, y0, cTO⟩, j1, j2⟩ := st
    obtain ⟨us, vs, qa, qb, b1, b2, fin⟩ := hg
    obtain ⟨l1, r1, p1, _⟩ := I.list qa
    obtain ⟨l2, r2, p2, _⟩ := I.tuple qb
    have hh : X.A.in1.handled = none := I.ok.hd hc
    have hl1 : s.heap.IsList a l1.toArray := p1.isList
    have hl2 : s.heap.IsTuple b l2.toArray := p2
    have z1 : l1.toArray.size = us.length := by rw [List.size_toArray, r1.length]
    have z2 : l2.toArray.size = vs.length := by rw [List.size_toArray, r2.length]
    refine wpAny_pyNext_zipD2_end (sepM ha hb) (Draws.list hh n a (Nat.ne_of_lt ha) l1.toArray) (Draws.tuple hh (n + 1) b (Nat.ne_of_lt (Nat.lt_succ_of_lt hb)) l2.toArray) cz cTI cTO ⟨j1, hl1⟩ ⟨j2, hl2⟩ (by rw [z1]; exact b1) (by rw [z2]; exact b2) (by rw [z1, z2]; exact fin) fun h' tk keepH => ?_
    refine ⟨rfl, I.turnedL (t' := tk) (ch := [n + 4, n + 2, n + 3, n, n + 1]) (fun c o hcn q => ?_) hf⟩
    simp only [List.mem_cons, List.not_mem_nil, or_false, not_or] at hcn
    exact keepH c o hcn.1 hcn.2.2.1 hcn.2.2.2.1 hcn.2.2.2.2 q
  self := fun A i s Q E st h => wpAny_pyIter_zip st.1 h
def iZipM (K : PySem.W.Frag) (ta : TA) : TI := fun σ H R => ta σ H fun vs H1 => ∃ a b us ws, vs = [.ref a, .ref b] ∧ SqL K H1 a us ∧ SqT K H1 b ws ∧ R (ItzM K a b) H1
theorem pi_zipM {X : Cx} {e e2 : Expr} {ta : TA} {p pos tpos : Pos} {elts : List Expr} {kk : Nat} (hg : Gl X "zip") (hm : X.mg "zip" = none) (ha : PA X [e, e2] ta)
    (hs : starEach [e, e2] X.env = (false, eval e X.env) :: starEach [e2] X.env := by rfl) (hpl : (backTo pos (starEach [e2] X.env)).any (·.1) = false := by rfl) :
    PI X (.Tuple elts kk tpos) (.Call (.Name "zip" p) [e, e2] [] pos) (iZipM X.K ta) := by
  refine ⟨fun pins s σ H R I h => Call_ (ld_blt I hg hm PyProof.Rows.boot_zip (PyProof.Rows.callWith_type1 (thn (ha.run pos pins s σ H _ I h) fun us s1 ⟨vs, H1, I1, r1, q1⟩ => ?_) hs hpl))⟩
  obtain ⟨a, b, xs, ys, rfl, qa, qb, q⟩ := q1
  obtain ⟨us1, us2, rfl⟩ : ∃ u v, us = [u, v] := by
    cases r1 with
    | cons _ rr => cases rr with
      | cons _ rr => cases rr; exact ⟨_, _, rfl⟩
  obtain ⟨rfl, rfl⟩ : us1 = .ref a ∧ us2 = .ref b := by
    cases r1 with
    | cons k1 rr => cases rr with
      | cons k2 rr => cases k1; cases k2; exact ⟨rfl, rfl⟩
  obtain ⟨l1, _, p1, _⟩ := I1.list qa
  obtain ⟨l2, _, p2, _⟩ := I1.tuple qb
  have hl1 : s1.heap.IsList a l1.toArray := p1.isList
  have hl2 : s1.heap.IsTuple b l2.toArray := p2
  have la : (a : Nat) < s1.heap.objs.size := by obtain ⟨_, e, _⟩ := hl1; exact Heap.lt_size e
  have lb : (b : Nat) < s1.heap.objs.size := by obtain ⟨_, e, _⟩ := hl2; exact Heap.lt_size e
  refine zip_begins2 (begins_list a l1.toArray) (begins_tuple b l2.toArray) hl1 hl2 fun h' dz dTI dTO d1 d2 dsz keepH => wpAny_pyIter_zip dz ?_
  have J : Inv X pins σ H1 { s1 with heap := h' } := I1.kept (t' := s1.toks) keepH
  have nw : ∀ c : Nat, s1.heap.objs.size ≤ c → FpOk X pins H1 c := fun c hle => I1.fpOk hle (I1.hok.fresh hle)
  refine ⟨s1.heap.objs.size + 4, [s1.heap.objs.size + 4, s1.heap.objs.size + 2, s1.heap.objs.size + 3, s1.heap.objs.size, s1.heap.objs.size + 1], _, ItzM X.K a b, H1, rfl, J, turn_zipM la lb, ⟨dz, dTI, ⟨_, _, dTO⟩, ⟨_, d1, rfl, rfl⟩, ⟨_, d2, rfl, rfl⟩⟩, fun c hc => ?_, q⟩
  simp only [List.mem_cons, List.not_mem_nil, or_false] at hc
  rcases hc with e | e | e | e | e
  · rw [e]; exact nw _ (Nat.le_add_right _ _)
  · rw [e]; exact nw _ (Nat.le_add_right _ _)
  · rw [e]; exact nw _ (Nat.le_add_right _ _)
  · rw [e]; exact nw _ (Nat.le_refl _)
  · rw [e]; exact nw _ (Nat.le_add_right _ _)
end
@[simp] def iZpM (t : VTA) : VTI := fun e M R => t e M fun ds M1 => ∃ x xs ys, ds = [x, .tup ys] ∧ asL M1 x = some xs ∧ R ⟨zipD xs ys, fun M' => asL M' x = some xs⟩ M1
theorem walk_zipM {K : PySem.W.Frag} {F : Hp} {x : D} {a b : Addr} {xs ys : List D} {ws : List V} (hx : DR K F (.ref a) x) (hy : SqT K F b ws) (zy : DRs K F ws ys) : VWalk K F (ItzM K a b) ⟨zipD xs ys, fun M' => asL M' x = some xs⟩ := by
  have both : ∀ F1 G H M, Same F F1 → Rel K F1 M G H → asL M x = some xs → ∃ us, SqL K H a us ∧ SqT K H b ws ∧ DRs K F1 us xs ∧ DRs K F1 ws ys := fun F1 G H M s r ok => by
    obtain ⟨a', us, e, h1, z1⟩ := asL_at r (hx.up s) ok
    cases e
    exact ⟨us, h1, same_tup r.sub (same_tup s hy), z1, zy.up s⟩
  refine ⟨fun i H F1 G M s r ok hi => ?_, fun H F1 G M s r ok => ?_, fun i H v H' F1 G M s r ok hi yd => ?_⟩
  · obtain ⟨us, h1, h2, z1, z2⟩ := both F1 G H M s r ok
    have hi' : i < min us.length ws.length := by rw [z1.len, z2.len, ← zipD_len]; exact hi
    have l1 : i < us.length := by omega
    have l2 : i < ws.length := by omega
    exact ⟨us, ws, us[i], ws[i], h1, h2, by simp [l1], by simp [l2]⟩
  · obtain ⟨us, h1, h2, z1, z2⟩ := both F1 G H M s r ok
    have e : (zipD xs ys).length = min us.length ws.length := by rw [z1.len, z2.len, zipD_len]
    refine ⟨us, ws, h1, h2, ?_⟩
    rw [show (VIt.mk (zipD xs ys) fun M' => asL M' x = some xs).ds = zipD xs ys from rfl, e]
    omega
  · obtain ⟨us, h1, h2, z1, z2⟩ := both F1 G H M s r ok
    obtain ⟨T, p, q, rfl, hT, rfl, k1, k2⟩ := yd
    obtain ⟨dx, e1, d1⟩ := z1.get (k1 us h1)
    obtain ⟨dy, e2, d2⟩ := z2.get (k2 ws h2)
    obtain ⟨F2, s2, r2, d3⟩ := pair_new r hT d1 d2
    exact ⟨F2, _, s2, r2, zipD_get e1 e2, d3⟩
theorem vi_zipM {X : Cx} {a b : Expr} {t : VTA} {p pos tpos : Pos} {elts : List Expr} {kk : Nat} (hm : X.mg "zip" = none) (ha : VA X [a, b] t) (hg : Gl X "zip" := by rfl)
    (hs : starEach [a, b] X.env = (false, eval a X.env) :: starEach [b] X.env := by rfl) (hpl : (backTo pos (starEach [b] X.env)).any (·.1) = false := by rfl) : VI X (.Tuple elts kk tpos) (.Call (.Name "zip" p) [a, b] [] pos) (iZpM t) :=
  PI_imp (pi_zipM hg hm ha hs hpl) fun σ H R ⟨F, M, G, e, R', hs, hr, q, o⟩ => ⟨F, M, G, e, _, hs, hr, q, fun vs H1 F1 M1 ds s1 r1 d1 ⟨x, xs, ys, ed, e1, q1⟩ => by
    subst ed
    obtain ⟨v, u, rfl, z1, z2⟩ := two_of d1
    obtain ⟨p1, w1, rfl, h1, y1⟩ := asL_at r1 z1 e1
    cases z2 with
    | tup h2 y2 => exact ⟨p1, _, w1, _, rfl, h1, same_tup r1.sub h2, o _ _ H1 F1 M1 s1 r1 (walk_zipM z1 h2 y2) q1⟩⟩
end VL
namespace VL
open PySem PySem.Spec L2
def pr6 (f : D → D → D → D → D → D → Mem → VK → Prop) : VSp := fun ds M Q => ∃ a b c d e g, ds = [a, b, c, d, e, g] ∧ f a b c d e g M Q
theorem pr6_len {f : D → D → D → D → D → D → Mem → VK → Prop} {x y z u v w : Str} : ∀ ds M Q, pr6 f ds M Q → ds.length = [x, y, z, u, v, w].length := fun ds M Q ⟨_, _, _, _, _, _, e, _⟩ => by rw [e]; rfl
theorem pr6_at {f : D → D → D → D → D → D → Mem → VK → Prop} {a b c d e g : D} {M : Mem} {Q : VK} : pr6 f [a, b, c, d, e, g] M Q ↔ f a b c d e g M Q := ⟨fun ⟨_, _, _, _, _, _, e, h⟩ => by cases e; exact h, fun h => ⟨_, _, _, _, _, _, rfl, h⟩⟩
def pr7 (f : D → D → D → D → D → D → D → Mem → VK → Prop) : VSp := fun ds M Q => ∃ a b c d e g k, ds = [a, b, c, d, e, g, k] ∧ f a b c d e g k M Q
theorem pr7_len {f : D → D → D → D → D → D → D → Mem → VK → Prop} {x y z u v w t : Str} : ∀ ds M Q, pr7 f ds M Q → ds.length = [x, y, z, u, v, w, t].length := fun ds M Q ⟨_, _, _, _, _, _, _, e, _⟩ => by rw [e]; rfl
theorem pr7_at {f : D → D → D → D → D → D → D → Mem → VK → Prop} {a b c d e g k : D} {M : Mem} {Q : VK} : pr7 f [a, b, c, d, e, g, k] M Q ↔ f a b c d e g k M Q := ⟨fun ⟨_, _, _, _, _, _, _, e, h⟩ => by cases e; exact h, fun h => ⟨_, _, _, _, _, _, _, rfl, h⟩⟩
theorem asL_sub {M N : Mem} (s : VL.Sub M N) {d : D} {xs : List D} (h : asL M d = some xs) : asL N d = some xs := by
  cases d with
  | obj a =>
    unfold asL at h ⊢
    dsimp only at h ⊢
    cases e : M a with
    | none => rw [e] at h; cases h
    | some o => rw [e] at h; rw [s a o e]; exact h
  | _ => exact h
theorem asI_sub {M N : Mem} (s : VL.Sub M N) {d : D} {xs : List D} (h : asI M d = some xs) : asI N d = some xs := by
  cases d with
  | tup _ => exact h
  | obj a => exact asL_sub (d := .obj a) s (show asL M (.obj a) = some xs from h)
  | _ => exact h
end VL
namespace VL
open PySem PySem.Spec L2
section
open PyProof.Rows
variable {prog : Program} {w : World} {A : Around} {E : Value → Shared → Prop} {s : Shared} {l : Addr} {its : List Value} {ns : List Int} {Q : Value → Shared → Prop}
/-- a tuple of ints, its walk begun: what the walk keeps is told -/
theorem tup_begun (hl : IsTup s.heap l its.toArray) (hi : IntsAre its ns) : ∃ xs : Array (Int × Tok), its.toArray = intItems xs ∧ s.heap.IsTuple l (intItems xs) ∧ l < s.heap.objs.size ∧ xs.toList.map (·.1) = ns := by
  obtain ⟨xs, e⟩ := hi.allInts.items
  have hn : numsOf (intItems xs).toList = ns := by rw [← e]; exact hi.numsOf
  rw [nums_intItems] at hn
  have hl' : s.heap.IsTuple l its.toArray := hl
  have hlt : l < s.heap.objs.size := by obtain ⟨_, e, _⟩ := hl'; exact Heap.lt_size e
  rw [e] at hl'
  exact ⟨xs, e, hl', hlt, hn⟩
theorem fp_below {h : Heap} {o : Obj} (hlt : l < h.objs.size) : ∀ b ∈ [h.objs.size, l], b < (h.push o).objs.size := fun b hb => by
  rw [Heap.size_push]
  simp only [List.mem_cons, List.not_mem_nil, or_false] at hb
  rcases hb with rfl | rfl
  · exact Nat.lt_succ_self _
  · exact Nat.lt_succ_of_lt hlt
theorem max_tupRaw (hh : A.handled = none) (hl : IsTup s.heap l its.toArray) (hi : IntsAre its ns) (hne : 0 < ns.length)
    (h : ∀ h' tk M t', (∀ b o, s.heap.get? b = some o → h'.get? b = some o) → M ∈ ns → (∀ a, a ∈ ns → a ≤ M) → Q (.int M t') { s with heap := h', toks := tk }) : wpAny (model prog w) A (call (.builtin "max") [.ref l]) Q E s := by
  obtain ⟨xs, _, hl', hlt, hn⟩ := tup_begun hl hi
  subst hn
  have hsz : 0 < xs.size := by simpa using hne
  refine PySem.call_max_walk (wpAny_pyIter_tuple hl' ?_)
  refine ⟨_, _, _, _, _, _, _, rfl, Walks.tuple (A := A.in1) hh _ l (Nat.ne_of_lt hlt) (intItems xs), ⟨⟨_, Heap.get?_push_size _ rfl, rfl, rfl⟩, hl'.push _⟩, fp_below hlt, by simpa [intItems] using hsz, CmpOf.ints_gt (numAt xs) (fun _ _ => intItems_at), fun v h' tk hP hk => ?_⟩
  have hv : (intItems xs)[argBest (fun i j => decide (numAt xs i > numAt xs j)) (xs.size - 1)]? = some v := by simpa [intItems] using hP
  obtain ⟨t, rfl⟩ := intItems_at hv
  obtain ⟨h1, h2⟩ := argBest_gt (numAt xs) (xs.size - 1)
  refine h h' tk _ t (fun b o e => hk b o (fun hm => Nat.ne_of_lt (Heap.lt_size e) (List.mem_singleton.mp hm)) (Heap.get?_push_of_some _ e)) ?_ fun a ha => ?_
  · rw [numAt_eq]
    exact PySem.getD_mem (by rw [List.length_map, Array.length_toList]; omega)
  · obtain ⟨j, hj, rfl⟩ := mem_getD ha
    rw [List.length_map, Array.length_toList] at hj
    rw [← numAt_eq]
    exact h2 j (by omega)
theorem min_tupRaw (hh : A.handled = none) (hl : IsTup s.heap l its.toArray) (hi : IntsAre its ns) (hne : 0 < ns.length)
    (h : ∀ h' tk M t', (∀ b o, s.heap.get? b = some o → h'.get? b = some o) → M ∈ ns → (∀ a, a ∈ ns → M ≤ a) → Q (.int M t') { s with heap := h', toks := tk }) : wpAny (model prog w) A (call (.builtin "min") [.ref l]) Q E s := by
  obtain ⟨xs, _, hl', hlt, hn⟩ := tup_begun hl hi
  subst hn
  have hsz : 0 < xs.size := by simpa using hne
  refine PySem.call_min_walk (wpAny_pyIter_tuple hl' ?_)
  refine ⟨_, _, _, _, _, _, _, rfl, Walks.tuple (A := A.in1) hh _ l (Nat.ne_of_lt hlt) (intItems xs), ⟨⟨_, Heap.get?_push_size _ rfl, rfl, rfl⟩, hl'.push _⟩, fp_below hlt, by simpa [intItems] using hsz, CmpOf.ints_lt (numAt xs) (fun _ _ => intItems_at), fun v h' tk hP hk => ?_⟩
  have hv : (intItems xs)[argBest (fun i j => decide (numAt xs i < numAt xs j)) (xs.size - 1)]? = some v := by simpa [intItems] using hP
  obtain ⟨t, rfl⟩ := intItems_at hv
  obtain ⟨h1, h2⟩ := argBest_lt (numAt xs) (xs.size - 1)
  refine h h' tk _ t (fun b o e => hk b o (fun hm => Nat.ne_of_lt (Heap.lt_size e) (List.mem_singleton.mp hm)) (Heap.get?_push_of_some _ e)) ?_ fun a ha => ?_
  · rw [numAt_eq]
    exact PySem.getD_mem (by rw [List.length_map, Array.length_toList]; omega)
  · obtain ⟨j, hj, rfl⟩ := mem_getD ha
    rw [List.length_map, Array.length_toList] at hj
    rw [← numAt_eq]
    exact h2 j (by omega)
end
section
variable {X : Cx}
def rBestTup (K : PySem.W.Frag) (r : Int → Int → Prop) : List V → Hp → L2.VK → Prop := fun vs H Q => ∃ (a : Addr) (ns : List Int), vs = [V.ref a] ∧ SqT K H a (ns.map V.int) ∧ 0 < ns.length ∧ ∀ m, m ∈ ns → (∀ y, y ∈ ns → r m y) → Q (.int m) H
theorem cr_maxT (hc : X.calm = true) : CallR X (.builtin "max") (rBestTup X.K fun m y => y ≤ m) := by
  intro pins s σ H vs us Q I r h
  obtain ⟨a, ns, rfl, hs, hne, q⟩ := h
  obtain ⟨its, rv, hl, _⟩ := I.tuple hs
  rw [Vals.ref1 r]
  exact max_tupRaw (I.ok.hd hc) hl rv.ints hne fun h' tk m t' hk h1 h2 => ⟨.int _, H, I.kept hk, ⟨_, rfl⟩, q m h1 h2⟩
theorem cr_minT (hc : X.calm = true) : CallR X (.builtin "min") (rBestTup X.K fun m y => m ≤ y) := by
  intro pins s σ H vs us Q I r h
  obtain ⟨a, ns, rfl, hs, hne, q⟩ := h
  obtain ⟨its, rv, hl, _⟩ := I.tuple hs
  rw [Vals.ref1 r]
  exact min_tupRaw (I.ok.hd hc) hl rv.ints hne fun h' tk m t' hk h1 h2 => ⟨.int _, H, I.kept hk, ⟨_, rfl⟩, q m h1 h2⟩
def rBestT (r : Int → Int → Prop) : VRs
  | [.tup ds], M, Q => ∃ ns : List Int, ds = ns.map D.int ∧ 0 < ns.length ∧ ∀ m, m ∈ ns → (∀ y, y ∈ ns → r m y) → Q (.int m) M
  | _, _, _ => False
/-- the greatest, the least of a tuple of ints -/
abbrev rMaxT : VRs := rBestT fun m y => y ≤ m
abbrev rMinT : VRs := rBestT fun m y => m ≤ y
theorem best_of {b : String} {r : Int → Int → Prop} (hc : CallR X (.builtin b) (rBestTup X.K r)) : CallR X (.builtin b) (ls X.K (rBestT r)) := cr_of hc fun F M G H xs ds Q' Q rr dv q o => by
  unfold rBestT at q
  split at q
  · obtain ⟨v, rfl, z⟩ := one_of dv
    obtain ⟨ns, rfl, hn, q⟩ := q
    cases z with
    | tup h z2 =>
      rw [drs_ints z2] at h
      exact ⟨_, ns, rfl, same_tup rr.sub h, hn, fun m h1 h2 => o.stay rr (.int _) (q m h1 h2)⟩
  · exact q.elim
theorem c_maxT (hc : X.calm = true) : CallR X (.builtin "max") (ls X.K rMaxT) := best_of (cr_maxT hc)
theorem c_minT (hc : X.calm = true) : CallR X (.builtin "min") (ls X.K rMinT) := best_of (cr_minT hc)
end
end VL
namespace VL
open PySem PySem.Spec L2
theorem tups_of {K : PySem.W.Frag} {F : Hp} : ∀ {kss : List (List Int)} {vs : List V}, DRs K F vs (kss.map fun k => D.tup (k.map D.int)) → ∃ ks : List (Addr × List Int), vs = ks.map (fun p => V.ref p.1) ∧ ks.map (·.2) = kss ∧ ∀ p ∈ ks, SqT K F p.1 (p.2.map V.int)
  | [], _, h => by cases h; exact ⟨[], rfl, rfl, fun p hp => nomatch hp⟩
  | k :: kss, _, h => by
    cases h with
    | cons a b =>
      obtain ⟨ks, e1, e2, e3⟩ := tups_of b
      cases a with
      | tup h z =>
        rw [drs_ints z] at h
        exact ⟨(_, k) :: ks, by rw [e1]; rfl, by rw [← e2]; rfl, fun p hp => by
          rcases List.mem_cons.mp hp with rfl | hp
          · exact h
          · exact e3 p hp⟩
section
variable {X : Cx} {a : Expr} {p q pos : Pos} {ta : VTE}
@[simp] def vLenSetT (te : VTE) : VTE := fun e M Q => te e M fun x M1 => ∃ kss : List (List Int), asL M1 x = some (kss.map fun k => D.tup (k.map D.int)) ∧ kss.length < 64 ∧ ∀ L : List (List Int), L.Nodup → (∀ k ∈ L, k ∈ kss) → (∀ k ∈ kss, k ∈ L) → Q (.int L.length) M1
def tLenSetT (K : PySem.W.Frag) (ta : TE) : TE := fun σ H Q => ta σ H fun x H1 => ∃ (l : Addr) (ks : List (Addr × List Int)), x = .ref l ∧ SqL K H1 l (ks.map fun p => V.ref p.1) ∧ (∀ p ∈ ks, SqT K H1 p.1 (p.2.map V.int)) ∧ ks.length < 64 ∧ ∀ L : List (List Int), L.Nodup → (∀ k ∈ L, k ∈ ks.map (·.2)) → (∀ k ∈ ks.map (·.2), k ∈ L) → Q (.int L.length) H1
theorem pe_lenSetT {ta : TE} {p2 : Pos} (hg : Gl X "len") (hm : X.mg "len" = none) (hg2 : Gl X "set") (hm2 : X.mg "set" = none) (ha : PE X a ta) (hc : X.calm = true) (hu : X.A.units + 64 < cLine)
    (na : starEach [a] X.env = (false, eval a X.env) :: starEach [] X.env) : PE X (.Call (.Name "len" p) [.Call (.Name "set" p2) [a] [] q] [] pos) (tLenSetT X.K ta) := by
  refine ⟨fun pins s σ H Q I h => PyProof.Rows.Call_ (ld_blt I hg hm PySem.boot_len (PyProof.Rows.callWith_builtin1 (PyProof.Rows.args_cons (PyProof.Rows.Call_ (ld_blt I hg2 hm2 PyProof.Rows.boot_set ?_)) rfl) rfl rfl))⟩
  refine PyProof.Rows.callWith_type1 (PyProof.Rows.args_cons (thn (ha.run pins s σ H _ I h) fun v s1 ⟨x, H1, I1, r1, l, ks, ex, hq, hk, hl, q1⟩ => PyProof.Rows.args_nil ?_) na) na rfl
  subst ex
  cases r1
  obtain ⟨its, rv, pl, _⟩ := I1.list hq
  refine call_set_tups (P := X.prog) (w := X.w) ks (I1.ok.hd hc) pl.isList (by simpa using refs_of_vals rv) (fun p hp => I1.isT (hk p hp)) hl (by omega) fun h' tk L es ep t R g k => PyProof.Rows.args_nil ?_
  obtain ⟨o, ho, hex, hd⟩ := R.ob
  have few := R.few
  have sz : es.size = L.length := SetTR.size (s := { s1 with heap := h', toks := tk }) R
  have fit := SetTR.fits (s := { s1 with heap := h', toks := tk }) R
  have I2 : Inv X pins σ H1 { s1 with heap := h', toks := tk } := I1.kept fun b o e => k b o e
  refine PySem.call_len_set ho hex hd fit (by rw [sz]; omega) ⟨.int L.length, H1, I2.tok _, ⟨_, by rw [sz] <;> rfl⟩, ?_⟩
  have := q1 (L.map (·.2)) R.nd (fun k hk' => ?_) fun k hk' => ?_
  · rw [List.length_map] at this
    exact this
  · obtain ⟨p, hp, rfl⟩ := List.mem_map.mp hk'
    exact List.mem_map.mpr ⟨p, List.mem_of_mem_take (g.sub p hp), rfl⟩
  · obtain ⟨p, hp, rfl⟩ := List.mem_map.mp hk'
    exact g.all p (by rw [List.take_length]; exact hp)
theorem v_lenSetT {k : Nat} {p2 : Pos} (hr : RmG k X.A) (hc : X.calm = true) (hm : X.mg "len" = none) (hm2 : X.mg "set" = none) (ha : VE X a ta) (hg : Gl X "len" := by rfl) (hg2 : Gl X "set" := by rfl)
    (na : starEach [a] X.env = (false, eval a X.env) :: starEach [] X.env := by rfl) : VE X (.Call (.Name "len" p) [.Call (.Name "set" p2) [a] [] q] [] pos) (vLenSetT ta) :=
  v_pe (pe_lenSetT hg hm hg2 hm2 ha hc (by have := hu64 hr.r; omega) na) fun F M G σ H e Q' Q hs hr q o => ⟨F, M, G, e, _, hs, hr, q, fun v H1 F1 M1 d s1 r1 d1 ⟨kss, ed, hl, q1⟩ => by
    obtain ⟨l, vs, rfl, hq, z⟩ := asL_at r1 d1 ed
    obtain ⟨ks, rfl, e2, e3⟩ := tups_of z
    refine ⟨l, ks, rfl, hq, fun p hp => same_tup r1.sub (e3 p hp), by rw [← List.length_map (f := fun p : Addr × List Int => p.2), e2]; exact hl, fun L n1 n2 n3 => ?_⟩
    rw [e2] at n2 n3
    exact o _ H1 F1 M1 _ s1 r1 (.int _) (q1 L n1 n2 n3)⟩
end
end VL
namespace VL
open PySem PySem.Spec L2
section
variable {α : Type}
theorem storedH_new {xs : List (List Int × Addr × Value)} {k : List Int} {a : Addr} {v : Value} (h : k ∉ xs.map (·.1)) : storedH xs k a v = xs ++ [(k, a, v)] := by
  unfold storedH
  rw [if_neg]
  unfold atKey
  rw [Option.isSome_map, List.find?_isSome]
  rintro ⟨x, hx, e⟩
  exact h (List.mem_map.mpr ⟨x, hx, of_decide_eq_true e⟩)
theorem storedAllH_new : ∀ (ps xs : List (List Int × Addr × Value)), ((xs ++ ps).map (·.1)).Nodup → storedAllH xs ps = xs ++ ps
  | [], xs, _ => by simp [storedAllH]
  | p :: ps, xs, h => by
    have hn : p.1 ∉ xs.map (·.1) := by
      rw [List.map_append, List.map_cons, List.nodup_append] at h
      intro hm
      exact h.2.2 _ hm p.1 List.mem_cons_self rfl
    have e : storedAllH xs (p :: ps) = storedAllH (storedH xs p.1 p.2.1 p.2.2) ps := rfl
    rw [e, storedH_new hn, storedAllH_new ps _ (by simpa using h)]
    simp
end
section
variable {X : Cx} {pins : List (Addr × Obj)} {σ : St} {H : Hp} {s : Shared}
/-- the dict at a, with its keys -/
theorem dtab_at {a : Addr} {xs : List (List Int × Addr × Value)} (I : Inv X pins σ H s) (h : H a = some (.ext (DTab X.prog X.w a xs))) (hk : ∀ x ∈ xs, SqT X.K H x.2.1 (x.1.map V.int)) : s.heap.DictOfH (tupleKind (intKind X.prog X.w)) a xs := by
  obtain ⟨_, o, es, ep, h1, h2, h3, h4, h5⟩ := (show DTab X.prog X.w a xs s.heap from (I.hok a _ h).1)
  exact ⟨o, es, ep, h1, h2, h3, h4, fun x hx => I.isT (hk x hx), h5⟩
/-- d[k] -/
def tGetQ (P : Program) (w : World) (K : PySem.W.Frag) (td ty : TE) : TE := fun σ H Q => td σ H fun x H1 => ty σ H1 fun y H2 => ∃ (a b : Addr) (k : List Int) (xs : List (List Int × Addr × Value)) (p : Addr × Value) (v : V), x = .ref a ∧ y = .ref b ∧ H2 a = some (.ext (DTab P w a xs)) ∧ (∀ x ∈ xs, SqT K H2 x.2.1 (x.1.map V.int)) ∧ SqT K H2 b (k.map V.int) ∧ atKey xs k = some p ∧ RelV v p.2 ∧ Q v H2
theorem pe_getQ {o i : Expr} {pos : Pos} {td ty : TE} (hu : X.A.units + 1 < cLine) (ho : PE X o td) (hi : PE X i ty) (hs : NoSl i) : PE X (.Subscript o i pos) (tGetQ X.prog X.w X.K td ty) := by
  refine ⟨fun pins s σ H Q I h => ?_⟩
  refine subD_of PySem.F.slot_dict_getitem.lookup hs (thn (ho.run pins s σ H _ I h) fun u s1 ⟨x, H1, I1, rx, q1⟩ => thn (hi.run pins s1 σ H1 _ I1 q1) fun iv s2 ⟨y, H2, I2, ry, a, b, k, xs, p, v, ex, ey, ha, hk, hb, hp, rv, q2⟩ => ?_)
  subst ex ey
  cases rx
  cases ry
  have dd := dtab_at I2 ha hk
  exact ⟨dd.typeIs, wpAny_getItem_heap (tupleKind_room_in1 hu) (I2.isT hb) dd hp ⟨v, H2, I2.tok _, rv, q2⟩⟩
/-- dict(xs) -/
def rDictP (P : Program) (w : World) (K : PySem.W.Frag) : List V → Hp → L2.VK → Prop := fun vs H Q => ∃ (l : Addr) (qs : List (Addr × Addr × List Int × V)), vs = [V.ref l] ∧ SqL K H l (qs.map fun q => V.ref q.1) ∧ (∀ q ∈ qs, SqT K H q.1 [V.ref q.2.1, q.2.2.2] ∧ SqT K H q.2.1 (q.2.2.1.map V.int)) ∧ (qs.map fun q => q.2.2.1).Nodup ∧
  ∀ p (us : List Value), H p = none → Vals (qs.map fun q => q.2.2.2) us → Q (.ref p) (upd H p (.ext (DTab P w p ((qs.zip us).map fun z => (z.1.2.2.1, z.1.2.1, z.2)))))
theorem dict_pairs (I : Inv X pins σ H s) : ∀ {qs : List (Addr × Addr × List Int × V)}, (∀ q ∈ qs, SqT X.K H q.1 [V.ref q.2.1, q.2.2.2]) → ∃ us : List Value, Vals (qs.map fun q => q.2.2.2) us ∧ us.length = qs.length ∧ ∀ z ∈ qs.zip us, s.heap.IsTuple z.1.1 #[Value.ref z.1.2.1, z.2]
  | [], _ => ⟨[], .nil, rfl, fun z hz => nomatch hz⟩
  | q :: qs, h => by
    obtain ⟨us, h1, h2, h3⟩ := dict_pairs I (qs := qs) fun x hx => h x (List.mem_cons_of_mem _ hx)
    obtain ⟨its, rv, ht, _⟩ := I.tuple (h q List.mem_cons_self)
    cases rv with
    | cons r1 t1 =>
      cases t1 with
      | cons r2 t2 =>
        cases t2
        cases r1
        refine ⟨_ :: us, .cons r2 h1, by rw [List.length_cons, List.length_cons, h2], fun z hz => ?_⟩
        rw [List.zip_cons_cons] at hz
        rcases List.mem_cons.mp hz with rfl | hz
        · exact ht
        · exact h3 z hz
theorem cr_dictP (hc : X.calm = true) (hu : X.A.units + 70 < cLine) : CallR X (.type "dict") (rDictP X.prog X.w X.K) := by
  intro pins s σ H xs us Q I r h
  obtain ⟨l, qs, rfl, hl, hq, nd, q⟩ := h
  rw [Vals.ref1 r]
  obtain ⟨its, rv, pl, hz⟩ := I.list hl
  obtain ⟨us, v1, v2, v3⟩ := dict_pairs I fun q hq' => (hq q hq').1
  have ei : its = qs.map fun q => Value.ref q.1 := by
    have : ∀ {qs : List (Addr × Addr × List Int × V)} {its : List Value}, Vals (qs.map fun q => V.ref q.1) its → its = qs.map fun q => Value.ref q.1 := by
      intro qs
      induction qs with
      | nil => intro its h; cases h; rfl
      | cons q qs ih =>
        intro its h
        cases h with
        | cons a b => cases a; rw [ih b]; rfl
    exact this rv
  subst ei
  have zl : (qs.zip us).length = qs.length := by rw [List.length_zip, v2, Nat.min_self]
  have zat : ∀ (j : Nat) (z : (Addr × Addr × List Int × V) × Value), (qs.zip us)[j]? = some z → qs[j]? = some z.1 := fun j z e => (List.getElem?_zip_eq_some.mp e).1
  obtain ⟨o, n, ho, hcl, hd, hdat⟩ := pl
  refine PySem.call_dict_pairsH (knd := tupleKind (intKind X.prog X.w)) (ps := (qs.zip us).map fun z => (z.1.2.2.1, z.1.2.1, z.2)) (PySem.PairArg.list l (qs.map fun q => Value.ref q.1).toArray (fun j => ((qs[j]?).map (·.1)).getD 0) ((qs.zip us).map fun z => (Value.ref z.1.2.1, z.2))) (I.ok.hd hc) (show X.A.units + 1 + 1 < cLine by omega) ⟨⟨o, n, ho, hcl, hd, hdat⟩, by simp [zl], fun j k v e => ?_⟩ ⟨by simp, fun i key v e => ?_⟩ (fun h' hk x hx => ?_) ?_ fun h' tk dd k => ?_
  · rw [List.getElem?_map] at e
    obtain ⟨z, hz1, e2⟩ := Option.map_eq_some_iff.mp e
    have e3 := zat j z hz1
    cases e2
    refine ⟨?_, .inl ?_⟩
    · simp [e3]
    · have et : ((qs[j]?).map (·.1)).getD 0 = z.1.1 := by rw [e3]; rfl
      show s.heap.IsTuple (((qs[j]?).map (·.1)).getD 0) _
      rw [et]
      exact v3 z (List.mem_of_getElem? hz1)
  · have e : ((qs.zip us).map fun z => (Value.ref z.1.2.1, z.2))[i]? = some (key, v) := e
    rw [List.getElem?_map] at e
    obtain ⟨z, hz1, e2⟩ := Option.map_eq_some_iff.mp e
    cases e2
    exact ⟨z.1.2.2.1, z.1.2.1, by rw [List.getElem?_map, hz1]; rfl, rfl⟩
  · obtain ⟨z, hz1, rfl⟩ := List.mem_map.mp hx
    have hm : z.1 ∈ qs := (List.of_mem_zip (show (z.1, z.2) ∈ qs.zip us from hz1)).1
    obtain ⟨o', items, n', h1, r'⟩ := I.isT (hq z.1 hm).2
    exact ⟨o', items, n', hk _ _ (Nat.ne_of_lt (Heap.lt_size h1)) (by simp) h1, r'⟩
  · rw [List.length_map, zl]
    rw [List.length_map] at hz
    exact hz
  · have nd2 : (([] : List (List Int × Addr × Value)) ++ (qs.zip us).map fun z => (z.1.2.2.1, z.1.2.1, z.2)).map (·.1) = qs.map fun q => q.2.2.1 := by
      rw [List.nil_append, List.map_map]
      have : (qs.zip us).map (fun z => z.1) = qs := List.map_fst_zip (Nat.le_of_eq v2.symm)
      rw [show ((qs.zip us).map ((fun x : List Int × Addr × Value => x.1) ∘ fun z => (z.1.2.2.1, z.1.2.1, z.2))) = ((qs.zip us).map (fun z => z.1)).map (fun q => q.2.2.1) by rw [List.map_map]; rfl, this]
    rw [storedAllH_new _ [] (by rw [nd2]; exact nd), List.nil_append] at dd
    obtain ⟨o2, es, ep, d1, d2, d3, d4, d5, d6⟩ := dd
    have hm : (s.heap.objs.size == sysModules) = false := beq_eq_false_iff_ne.mpr (Nat.ne_of_gt I.big)
    refine ⟨.ref s.heap.objs.size, _, I.laid (t' := tk) (o := .ext (DTab X.prog X.w s.heap.objs.size ((qs.zip us).map fun z => (z.1.2.2.1, z.1.2.1, z.2)))) (fun b o e => k b o (by simp) e) (Nat.le_refl _) ?_, rfl, q _ us (I.hok.fresh (Nat.le_refl _)) v1⟩
    exact ⟨⟨hm, o2, es, ep, d1, d2, d3, d4, d6⟩, ⟨o2, d1⟩, fun h1 h2 p kp => by
      obtain ⟨p1, o3, es3, ep3, e1, e2⟩ := p
      exact ⟨p1, o3, es3, ep3, kp o3 e1, e2⟩⟩
/-- dict(xs), as a reading -/
def rDictQ (P : Program) (w : World) : VRs
  | [x], M, Q => ∃ kvs : List (List Int × D), asL M x = some (kvs.map fun kv => .tup [.tup (kv.1.map D.int), kv.2]) ∧ (kvs.map (·.1)).Nodup ∧ ∀ p, M p = none → Q (.obj p) (mupd M p (.dq P w p kvs))
  | _, _, _ => False
theorem dict_items {K : PySem.W.Frag} {F : Hp} : ∀ {kvs : List (List Int × D)} {vs : List V}, DRs K F vs (kvs.map fun kv => D.tup [D.tup (kv.1.map D.int), kv.2]) → ∃ qs : List (Addr × Addr × List Int × V), vs = qs.map (fun q => V.ref q.1) ∧ (qs.map fun q => q.2.2.1) = kvs.map (·.1) ∧ DRs K F (qs.map fun q => q.2.2.2) (kvs.map (·.2)) ∧ ∀ q ∈ qs, SqT K F q.1 [V.ref q.2.1, q.2.2.2] ∧ SqT K F q.2.1 (q.2.2.1.map V.int)
  | [], _, h => by cases h; exact ⟨[], rfl, rfl, .nil, fun q hq => nomatch hq⟩
  | kv :: kvs, _, h => by
    cases h with
    | cons a b =>
      obtain ⟨qs, e1, e2, e3, e4⟩ := dict_items b
      cases a with
      | tup h1 z =>
        cases z with
        | cons z1 z2 =>
          cases z2 with
          | cons z3 z4 =>
            cases z4
            cases z1 with
            | tup h2 z5 =>
              rw [drs_ints z5] at h2
              exact ⟨(_, _, kv.1, _) :: qs, by rw [e1]; rfl, by rw [List.map_cons, List.map_cons, e2], .cons z3 e3, fun q hq => by
                rcases List.mem_cons.mp hq with rfl | hq
                · exact ⟨h1, h2⟩
                · exact e4 q hq⟩
theorem dict_rel {K : PySem.W.Frag} {F : Hp} : ∀ {qs : List (Addr × Addr × List Int × V)} {kvs : List (List Int × D)} {us : List Value}, (qs.map fun q => q.2.2.1) = kvs.map (·.1) → DRs K F (qs.map fun q => q.2.2.2) (kvs.map (·.2)) → Vals (qs.map fun q => q.2.2.2) us → (∀ q ∈ qs, SqT K F q.2.1 (q.2.2.1.map V.int)) →
    Paired (QP K F) kvs ((qs.zip us).map fun z => (z.1.2.2.1, z.1.2.1, z.2))
  | [], kvs, _, e, _, _, _ => by
    cases kvs with
    | nil => exact .nil
    | cons kv kvs => cases e
  | q :: qs, kvs, us, e, d, v, hs => by
    cases kvs with
    | nil => cases e
    | cons kv kvs =>
      rw [List.map_cons, List.map_cons, List.cons.injEq] at e
      cases v with
      | cons v1 v2 =>
        cases d with
        | cons d1 d2 =>
          exact .cons ⟨e.1.symm, hs q List.mem_cons_self, q.2.2.2, d1, v1⟩ (dict_rel e.2 d2 v2 fun x hx => hs x (List.mem_cons_of_mem _ hx))
theorem c_dictQ {k : Nat} (hr : RmG k X.A) (hc : X.calm = true) : CallR X (.type "dict") (ls X.K (rDictQ X.prog X.w)) := cr_of (cr_dictP hc (hu64 hr.r)) fun F M G H xs ds Q' Q r dv q o => by
  unfold rDictQ at q
  split at q
  · rename_i x
    obtain ⟨v, rfl, z⟩ := one_of dv
    obtain ⟨kvs, ed, nd, q⟩ := q
    obtain ⟨l, vs, rfl, hq, zs⟩ := asL_at r z ed
    obtain ⟨qs, rfl, e2, e3, e4⟩ := dict_items zs
    refine ⟨l, qs, rfl, hq, fun q hq => ⟨same_tup r.sub (e4 q hq).1, same_tup r.sub (e4 q hq).2⟩, by rw [e2]; exact nd, fun p us hp hv => ?_⟩
    exact o _ _ _ _ _ (fun _ _ h => h) (r.newM hp (m := .dq X.prog X.w p kvs) ⟨_, rfl, dict_rel e2 e3 hv fun q hq => (e4 q hq).2⟩) (.obj p) (q p (r.m0 hp))
  · exact q.elim
def findQ (kvs : List (List Int × D)) (k : List Int) : Option D := (kvs.find? fun kv => decide (kv.1 = k)).map (·.2)
theorem find_rel {K : PySem.W.Frag} {F : Hp} {k : List Int} {d : D} {kvs : List (List Int × D)} {xs : List (List Int × Addr × Value)} (p : Paired (QP K F) kvs xs) : findQ kvs k = some d → ∃ p v, atKey xs k = some p ∧ RelV v p.2 ∧ DR K F v d := by
  induction p with
  | nil => intro e; cases e
  | @cons kv x kvs xs h _ ih =>
    intro e
    obtain ⟨h1, h2, v, h3, h4⟩ := h
    unfold findQ at e
    unfold atKey
    by_cases z : kv.1 = k
    · rw [List.find?_cons_of_pos (by simpa using z)] at e
      rw [List.find?_cons_of_pos (by rw [← h1]; simpa using z)]
      cases e
      exact ⟨_, v, rfl, h4, h3⟩
    · rw [List.find?_cons_of_neg (by simpa using z)] at e
      rw [List.find?_cons_of_neg (by rw [← h1]; simpa using z)]
      exact ih e
theorem keys_rel {K : PySem.W.Frag} {F : Hp} {kvs : List (List Int × D)} {xs : List (List Int × Addr × Value)} (p : Paired (QP K F) kvs xs) : ∀ x ∈ xs, SqT K F x.2.1 (x.1.map V.int) := by
  induction p with
  | nil => intro x hx; cases hx
  | cons h _ ih =>
    intro x hx
    rcases List.mem_cons.mp hx with rfl | hx
    · exact h.2.1
    · exact ih x hx
/-- d[k], there -/
def vGetQ (P : Program) (w : World) (to ti : VTE) : VTE := fun e M Q => to e M fun o M1 => ti e M1 fun i M2 => ∃ (a b : Addr) (kvs : List (List Int × D)) (k : List Int) (d : D), o = .obj a ∧ i = .tup (k.map D.int) ∧ M2 a = some (.dq P w b kvs) ∧ b = a ∧ findQ kvs k = some d ∧ Q d M2
theorem v_getQ {o i : Expr} {pos : Pos} {to ti : VTE} {k : Nat} (hr : RmG k X.A) (ho : VE X o to) (hi : VE X i ti) (hs : NoSl i := by exact fun _ _ => rfl) : VE X (.Subscript o i pos) (vGetQ X.prog X.w to ti) :=
  v_pe (pe_getQ (by have := hu64 hr.r; omega) ho hi hs) fun F M G σ H e Q' Q hs hr q o => ⟨F, M, G, e, _, hs, hr, q, fun x H1 F1 M1 d s1 r1 d1 q1 => ⟨F1, M1, G, e, _, hs.up s1, r1, q1, fun y H2 F2 M2 d' s2 r2 d2 q2 => by
    obtain ⟨a, b, kvs, k, dd, rfl, rfl, ha, rfl, hf, q2⟩ := q2
    cases d1
    cases d2 with
    | tup h z =>
      rw [drs_ints z] at h
      obtain ⟨_, _, ho, e1, xs, rfl, pr⟩ := r2.ob _ _ ha
      obtain ⟨p, v, e2, e3, e4⟩ := find_rel pr hf
      exact ⟨_, _, k, xs, p, v, rfl, rfl, e1, fun x hx => same_tup r2.sub (keys_rel pr x hx), same_tup r2.sub h, e2, e3, o _ H2 F2 M2 _ (s1.trans s2) r2 e4 q2⟩⟩⟩
end
end VL
namespace VL
open PySem PySem.Spec L2
section
variable {X : Cx}
def oGeD : VR2 := fun x y M Q => Sh 30 x ∧ Sh 30 y ∧ PySem.W.alike (py x) (py y) = true ∧ py x ≠ .none ∧ Q (.bl (!PySem.W.dataLt (py x) (py y))) M
theorem o_geD {k : Nat} (hr : Room k X.A) : OpR X (compareOp .GtE) (l2 X.K oGeD) := fun pins s σ H x y v u Q I rx ry ⟨F, M, G, a, b, Q', r, da, db, ⟨s1, s2, hal, hn, q⟩, o⟩ => by
  obtain ⟨as, r1⟩ := Dp.reads I _ _ _ (DR.dp r.sub a x (sh_noObj 30 a s1) da) rx
  obtain ⟨bs, r2⟩ := Dp.reads I _ _ _ (DR.dp r.sub b y (sh_noObj 30 b s2) db) ry
  have h1 := (sh_py 30 a s1).2
  have h2 := hu64 hr
  have h3 : min (py a).depth (py b).depth ≤ (py a).depth := Nat.min_le_left _ _
  exact PySem.W.ge_data r1 r2 hal hn (by omega) ⟨.bl _, H, I, rfl, o _ H F M _ (Same.refl F) r (.bl _) q⟩
end
/-- either promise -/
def vpOr (φ ψ : VSp) : VSp := fun ds M Q => φ ds M Q ∨ ψ ds M Q
theorem kn_or {P : Program} {w : World} {K : PySem.W.Frag} {mg : Str → Option Value} {base : Heap} {x : Str} {ps : List Str} {k : Nat} {φ ψ : VSp} (h1 : Kn P w K mg base k x ps φ) (h2 : Kn P w K mg base k x ps ψ) : Kn P w K mg base k x ps (vpOr φ ψ) := by
  obtain ⟨f, fd, m1, k1, b1, c1, l1, F1⟩ := h1.ex
  obtain ⟨f2, fd2, m2, _, _, _, l2, F2⟩ := h2.ex
  have ef : f2 = f := by rw [m1] at m2; cases m2; rfl
  subst ef
  have efd : fd2 = fd := by
    obtain ⟨oc, od, osl, e1⟩ := l1
    obtain ⟨oc2, od2, osl2, e2⟩ := l2
    rw [e1] at e2
    cases e2
    rfl
  subst efd
  refine ⟨f2, fd2, m1, k1, b1, c1, l1, ⟨fun vs H Q E ⟨F, M, G, ds, Q', dv, r, q, o⟩ => ?_, fun A outer s H args us vs Q E hr env bd rel ⟨F, M, G, ds, Q', dv, r, q, o⟩ => ?_⟩⟩
  · rcases q with q | q
    · exact F1.len vs H Q E ⟨F, M, G, ds, Q', dv, r, q, o⟩
    · exact F2.len vs H Q E ⟨F, M, G, ds, Q', dv, r, q, o⟩
  · rcases q with q | q
    · exact F1.run A outer s H args us vs Q E hr env bd rel ⟨F, M, G, ds, Q', dv, r, q, o⟩
    · exact F2.run A outer s H args us vs Q E hr env bd rel ⟨F, M, G, ds, Q', dv, r, q, o⟩
end VL
namespace VL
open PySem PySem.Spec L2
/-- what is asked of a for once its items are known -/
def ForEx (g : VTG) (tb : VTS) (D' : VEnds) (e : VEnv) (w : VIt) (M1 : Mem) : Prop := ∃ P : Nat → VEnv → Mem → Prop, P 0 e M1 ∧ (∀ i e M, i ≤ w.ds.length → P i e M → w.ok M) ∧
  (∀ i d e M, w.ds[i]? = some d → P i e M → g d e M fun e2 M2 => tb { D' with nx := P (i + 1), ct := P (i + 1), bk := D'.nx } e2 M2) ∧ ∀ e M, P w.ds.length e M → D'.nx e M
theorem sFor_of {ti : VTI} {g : VTG} {tb : VTS} {D' : VEnds} {e : VEnv} {M : Mem} (h : ti e M fun w M1 => ForEx g tb D' e w M1) : sFor ti g tb D' e M := h
theorem forEx_al {α : Type} {g : VTG} {tb : VTS} {D' : VEnds} {e : VEnv} {M : Mem} {w : VIt} (xs : List α) (f : α → D) (P : Nat → VEnv → Mem → Prop)
    (hw : w.ds = xs.map f) (h0 : P 0 e M) (hok : ∀ i e M, i ≤ xs.length → P i e M → w.ok M)
    (ht : ∀ i x e M, xs[i]? = some x → i < xs.length → P i e M → g (f x) e M fun e2 M2 => tb { D' with nx := P (i + 1), ct := P (i + 1), bk := D'.nx } e2 M2) (hd : ∀ e M, P xs.length e M → D'.nx e M) : ForEx g tb D' e w M := by
  have hl : w.ds.length = xs.length := by rw [hw, List.length_map]
  refine ⟨P, h0, fun i e M hi => hok i e M (by rw [← hl]; exact hi), fun i d e M hd' hp => ?_, fun e M hp => hd e M (by rw [← hl]; exact hp)⟩
  rw [hw, List.getElem?_map] at hd'
  obtain ⟨x, hx, rfl⟩ := Option.map_eq_some_iff.mp hd'
  exact ht i x e M hx (List.getElem?_eq_some_iff.mp hx).1 hp
/-- d[k] within a comprehension -/
theorem v_getQB {X : Cx} {o i : Expr} {pos : Pos} {to ti : VTE} {k : Nat} {s : Shared} {H : Hp} {scope : Scope} {C : Addr} {cl : List (Str × Addr)} {fp : List Addr} (hr : RmG k (X.blk s H scope (compEnvC scope cl C X.env) fp).A) (ho : VE (X.blk s H scope (compEnvC scope cl C X.env) fp) o to) (hi : VE (X.blk s H scope (compEnvC scope cl C X.env) fp) i ti) (hs : NoSl i := by exact fun _ _ => rfl) :
    VE (X.blk s H scope (compEnvC scope cl C X.env) fp) (.Subscript o i pos) (vGetQ X.prog X.w to ti) := v_getQ (X := X.blk s H scope (compEnvC scope cl C X.env) fp) hr ho hi hs
end VL
namespace VL
open PySem PySem.Spec PyProof.Rows L2
/-- the empty set as it is made -/
abbrev set0 (w : World) : Obj := { cls := .type "set", dict := none, data := .set #[] 0 (.fresh 0 0 (!w.params.followText "set-order")) }
section
variable {P : Program} {w : World} {A : Around} {E : Value → Shared → Prop} {s : Shared}
theorem set_call1 {x : Value} {Q : Value → Shared → Prop} (q : codeAny (model P w) A.in1 (.call (.builtin "set.__init__") ⟨[.ref s.heap.objs.size, x], []⟩) (wants (fun r s2 => r = .none ∧ Q (.ref s.heap.objs.size) s2) E) { s with heap := s.heap.push (set0 w) }) : wpAny (model P w) A (call (.type "set") [x]) Q E s := by
  have ⟨c, tl, mro⟩ := F.called_set.mro
  have made := F.called_set.made
  have sub := F.called_set.sub
  have c1 := F.called_set.notType
  have c2 := F.called_set.canCreate
  have c3 := F.typeCall_set_1 x
  refine wpAny_call (codeAny_of_tree (show wpAny _ _ (callAny (.type "set") _) _ _ _ from wpAny_pure ⟨Code.quiet_builtin _ (by decide +kernel), codeAny_builtin F.entry_type_call ?_⟩))
  rw [Around.under_plain (weight_type_call_type "set" [x] []) rfl]
  repeat (any_goals (first | assumption | wp_step))
  have T : Shared.TypeIs { s with heap := s.heap.push (set0 w) } (.ref s.heap.objs.size) "set" := ⟨_, Heap.get?_push_size _ rfl, rfl⟩
  refine codeAny_mono (code_set_led1 x (E := E) (Q₁ := fun v s1 => v = .ref s.heap.objs.size ∧ s1 = { s with heap := s.heap.push (set0 w) }) ⟨rfl, rfl⟩) fun r s1 hr => ?_
  cases r with
  | error e => exact hr
  | ok f =>
    cases f with
    | ret v =>
      obtain ⟨rfl, rfl⟩ := hr
      have i1 := F.called_set.init.lookup
      have i2 := F.called_set.init.bind (.ref s.heap.objs.size)
      repeat (any_goals (first | assumption | wp_step))
      refine codeAny_mono q fun r2 s2 h2 => ?_
      cases r2 with
      | error e => exact h2
      | ok g =>
        cases g with
        | ret v =>
          obtain ⟨rfl, h2⟩ := h2
          repeat (any_goals (first | assumption | wp_step))
        | _ => exact h2.elim
    | _ => exact hr.elim
/-- set.__init__ with a tuple of tuples -/
theorem set_init_tups {l : Addr} {its : Array Value} {R : Result → Shared → Prop} (ks : List (Addr × List Int)) (hh : A.handled = none) (hl : s.heap.IsTuple l its) (hit : its.toList = ks.map fun p => Value.ref p.1)
    (hk : ∀ p ∈ ks, IsT P w s.heap p.2 p.1) (hf : ks.length < 64) (hu : A.units + 3 < cLine)
    (q : ∀ (h' : Heap) (tk : Nat) L es ep t, SetTR P w h' s.heap.objs.size L es ep t → Got ks ks.length L → (∀ b o, s.heap.get? b = some o → h'.get? b = some o) → R (.ok (.ret .none)) { s with heap := h', toks := tk }) :
    codeAny (model P w) A (.call (.builtin "set.__init__") ⟨[.ref s.heap.objs.size, .ref l], []⟩) R { s with heap := s.heap.push (set0 w) } := by
  have T : Shared.TypeIs { s with heap := s.heap.push (set0 w) } (.ref s.heap.objs.size) "set" := ⟨_, Heap.get?_push_size _ rfl, rfl⟩
  refine codeAny_mono (codeAny_call_builtin (R := R) F.called_set.init.plain F.entry_set_init (check_set_init_1 T ?_)) fun _ _ z => z
  obtain ⟨⟨oc, od, oda, osl⟩, ho, hc, n, hd⟩ := hl
  simp only at hc hd
  subst hc hd
  have z := Heap.lt_size ho
  have hp : (s.heap.push (set0 w)).get? l = some { cls := .type "tuple", dict := od, data := .seq its n, slots := osl } := Heap.get?_push_of_some _ ho
  have hp1 : (s.heap.push (set0 w)).IsTuple l its := ⟨_, hp, rfl, n, rfl⟩
  have hg : (s.heap.push (set0 w)).get? s.heap.objs.size = some (set0 w) := Heap.get?_push_size _ rfl
  have n1 := F.sub_tuple_set
  have n2 := F.sub_tuple_frozenset
  have n3 : (Value.type "tuple" == Value.type "dict") = false := by decide
  unfold Builtin.«set.__init__» noKeywords Builtin.Frozenset.updateFrom
  generalize hI : pyIter = it
  wp_walk
  subst hI
  refine wpAny_pyIter_tuple hp1 (wpAny_bind (wpAny_runValue ?_))
  have h3 : A.in1.in1.handled = none := hh
  have m1 : (s.heap.push (set0 w)).objs.size = s.heap.objs.size + 1 := Heap.size_push ..
  have m2 : s.heap.objs.size ∉ [(s.heap.push (set0 w)).objs.size, l] := by
    rw [m1]
    intro c
    simp only [List.mem_cons, List.not_mem_nil, or_false] at c
    rcases c with c | c
    · exact Nat.ne_of_lt (Nat.lt_succ_self _) c
    · exact Nat.ne_of_gt z c
  have m3 : ∀ b, s.heap.objs.size ≤ b → s.heap.get? b = none := fun b hb => by
    by_cases e : s.heap.get? b = none
    · exact e
    · obtain ⟨o, e⟩ := Option.ne_none_iff_exists'.mp e
      exact absurd (Nat.lt_of_lt_of_le (Heap.lt_size e) hb) (Nat.lt_irrefl _)
  have el : its.size = ks.length := by rw [← Array.length_toList, hit, List.length_map]
  have gets : ∀ i v, its[i]? = some v → ∃ p : Addr × List Int, ks[i]? = some p ∧ v = Value.ref p.1 := fun i v e => by
    rw [← Array.getElem?_toList, hit, List.getElem?_map, Option.map_eq_some_iff] at e
    obtain ⟨p, e1, e2⟩ := e
    exact ⟨p, e1, e2.symm⟩
  refine set_update_tups ((Walks.tuple h3 _ l (by rw [m1]; exact Nat.ne_of_lt (Nat.lt_succ_of_lt z)) its).toS) s.heap.objs.size m2 ks el hf gets s.heap hk (m3 _ (Nat.le_refl _)) (fun b hb => m3 b ?_) ?_ its.size 0 _ rfl (Nat.zero_le _) ⟨⟨_, Heap.get?_push_size _ rfl, rfl, rfl⟩, hp1.push _⟩
    (fun b o e => ?_) ⟨[], #[], 0, _, setTR_fresh ?_, Got.zero ks⟩ fun s' L es ep t mv S g k => ?_
  · rw [List.mem_singleton.mp hb, m1]
    exact Nat.le_succ _
  · show A.units + 1 + 1 < cLine
    omega
  · exact Heap.get?_push_of_some _ (Heap.get?_push_of_some _ e)
  · exact Heap.get?_push_of_some _ hg
  · have e1 : s' = { s with heap := s'.heap, toks := s'.toks } := by
      have a1 := mv.gens
      have a2 := mv.drawn
      have a3 := mv.os
      cases s'
      subst a1 a2 a3
      rfl
    rw [el] at g
    have z := q s'.heap s'.toks L es ep t S g k
    rw [← e1] at z
    exact wpAny_pure (wpAny_pure z)
end
def tSortSetT (K : PySem.W.Frag) (ta : TE) : TE := fun σ H Q => ta σ H fun x H1 => ∃ (l : Addr) (ks : List (Addr × List Int)) (d : Nat) (B : Int), x = .ref l ∧ SqT K H1 l (ks.map fun p => V.ref p.1) ∧ (∀ p ∈ ks, SqT K H1 p.1 (p.2.map V.int)) ∧ ks.length < 64 ∧ 1 ≤ d ∧ (∀ p ∈ ks, p.2.length = d ∧ TS.Bd B p.2) ∧
  ∀ (L : List (Addr × List Int)) (p : Addr), (∀ q ∈ L, q ∈ ks) → (∀ q ∈ ks, q.2 ∈ L.map (·.2)) → (L.map (·.2)).Nodup → L.Pairwise (fun q r => TS.code B q.2 ≤ TS.code B r.2) → H1 p = none → Q (.ref p) (upd H1 p (.lst (L.map fun q => V.ref q.1)))
@[simp] def vSortSetT (te : VTE) : VTE := fun e M Q => te e M fun x M1 => ∃ (kss : List (List Int)) (d : Nat) (B : Int), x = .tup (kss.map fun k => D.tup (k.map D.int)) ∧ kss.length < 64 ∧ 1 ≤ d ∧ (∀ k ∈ kss, k.length = d ∧ TS.Bd B k) ∧
  ∀ L : List (List Int), L.Nodup → (∀ k ∈ L, k ∈ kss) → (∀ k ∈ kss, k ∈ L) → L.Pairwise (fun j k => TS.code B j ≤ TS.code B k) → Q (.lst (L.map fun k => D.tup (k.map D.int))) M1
section
variable {X : Cx} {a : Expr} {q pos : Pos} {ta : VTE}
theorem pe_sortSetT {ta : TE} {p p2 : Pos} (hg : Gl X "sorted") (hm : X.mg "sorted" = none) (hg2 : Gl X "set") (hm2 : X.mg "set" = none) (ha : PE X a ta) (hc : X.calm = true) (hu : X.A.units + 64 < cLine)
    (na : starEach [a] X.env = (false, eval a X.env) :: starEach [] X.env) : PE X (.Call (.Name "sorted" p) [.Call (.Name "set" p2) [a] [] q] [] pos) (tSortSetT X.K ta) := by
  refine ⟨fun pins s σ H Q I h => PyProof.Rows.Call_ (ld_blt I hg hm PyProof.Rows.boot_sorted (PyProof.Rows.callWith_builtin1 (PyProof.Rows.args_cons (PyProof.Rows.Call_ (ld_blt I hg2 hm2 PyProof.Rows.boot_set ?_)) rfl) rfl rfl))⟩
  refine PyProof.Rows.callWith_type1 (PyProof.Rows.args_cons (thn (ha.run pins s σ H _ I h) fun v s1 ⟨x, H1, I1, r1, l, ks, d, B, ex, hq, hk, hl, h1, hB, q1⟩ => PyProof.Rows.args_nil ?_) na) na rfl
  subst ex
  cases r1
  obtain ⟨its, rv, it, _⟩ := I1.tuple hq
  refine set_call1 (set_init_tups ks (I1.ok.hd hc) it (by simpa using refs_of_vals rv) (fun p hp => I1.isT (hk p hp)) hl (by show X.A.units + 1 + 3 < cLine; omega) fun h' tk L es ep t R g k => ⟨rfl, PyProof.Rows.args_nil ?_⟩)
  have sub : ∀ p ∈ L, p ∈ ks := fun p hp => List.mem_of_mem_take (g.sub p hp)
  refine sorted_setT (s := { s1 with heap := h', toks := tk }) R (I1.ok.hd hc) h1 (fun p hp => hB p (sub p hp)) fun s2 b out c L' k2 eg eo hb hout e2 pm pw => ?_
  have I2 : Inv X pins σ H1 { s1 with heap := h', toks := tk } := I1.kept k
  have hn0 : H1 b = none := I2.hok.fresh hb
  have few := R.few
  have J := I2.call (ch := []) (g' := s2.gens) (d' := s2.drawn) (t' := s2.toks) (Un.laid k2 hb hn0) (I2.hok.laid k2 hb (o := .lst (L'.map fun q => V.ref q.1)) ⟨by rw [List.length_map, pm.length_eq, sizeLine_eq]; omega, out.toList, c, by rw [e2]; exact vals_of_refs L', hout⟩) (by rw [eg]; exact I2.bare) (fun _ z => nomatch z)
  have e1 : s2 = { s1 with heap := s2.heap, gens := s2.gens, drawn := s2.drawn, toks := s2.toks } := by
    cases s2
    cases eo
    rfl
  rw [e1]
  refine ⟨.ref b, _, J, rfl, q1 L' b (fun q hq => sub q (pm.mem_iff.mp hq)) (fun q hq => ?_) ((pm.map (·.2)).nodup_iff.mpr R.nd) pw hn0⟩
  rw [(pm.map (·.2)).mem_iff]
  exact g.all q (by rw [List.take_length]; exact hq)
theorem v_sortSetT {k : Nat} {te : VTE} {p p2 : Pos} (hr : RmG k X.A) (hc : X.calm = true) (hm : X.mg "sorted" = none) (hm2 : X.mg "set" = none) (ha : VE X a te) (hg : Gl X "sorted" := by rfl) (hg2 : Gl X "set" := by rfl)
    (na : starEach [a] X.env = (false, eval a X.env) :: starEach [] X.env := by rfl) : VE X (.Call (.Name "sorted" p) [.Call (.Name "set" p2) [a] [] q] [] pos) (vSortSetT te) :=
  v_pe (pe_sortSetT hg hm hg2 hm2 ha hc (by have := hu64 hr.r; omega) na) fun F M G σ H e Q' Q hs hr q o => ⟨F, M, G, e, _, hs, hr, q, fun v H1 F1 M1 d0 s1 r1 d1 ⟨kss, d, B, ed, hl, hd, hB, q1⟩ => by
    subst ed
    cases d1 with
    | tup h z =>
      obtain ⟨ks, rfl, e2, e3⟩ := tups_of z
      refine ⟨_, ks, d, B, rfl, same_tup r1.sub h, fun p hp => same_tup r1.sub (e3 p hp), by rw [← List.length_map (f := fun p : Addr × List Int => p.2), e2]; exact hl, hd, fun p hp => hB p.2 (by rw [← e2]; exact List.mem_map_of_mem hp), fun L p n1 n2 n3 n4 hp => ?_⟩
      have dv : ∀ L : List (Addr × List Int), (∀ q ∈ L, q ∈ ks) → DRs X.K F1 (L.map fun q => V.ref q.1) ((L.map (·.2)).map fun k => D.tup (k.map D.int)) := fun L hL => by
        induction L with
        | nil => exact .nil
        | cons q L ih => exact .cons (.tup (e3 q (hL q List.mem_cons_self)) (DRs.ints q.2)) (ih fun r hr => hL r (List.mem_cons_of_mem _ hr))
      refine (o.up s1).newL r1 (dv L n1) (q1 (L.map (·.2)) n3 (fun k hk => ?_) (fun k hk => ?_) ?_) p hp
      · obtain ⟨q, hq, rfl⟩ := List.mem_map.mp hk
        rw [← e2]
        exact List.mem_map_of_mem (n1 q hq)
      · rw [← e2] at hk
        obtain ⟨q, hq, rfl⟩ := List.mem_map.mp hk
        exact n2 q hq
      · rw [List.pairwise_map]
        exact n4⟩
end
end VL
namespace VL
open PySem PySem.Spec L2
section
variable {X : Cx} {E : XK} {tg iter : Expr} {pos : Pos} {g : VTG}
def xFor (ti : VTI) (g : VTG) (tb : VTSX) : VTSX := fun D E' e M => ti e M fun w M1 => ∃ P : Nat → VEnv → Mem → Prop, P 0 e M1 ∧ (∀ i e M, i ≤ w.ds.length → P i e M → w.ok M) ∧
  (∀ i d e M, w.ds[i]? = some d → P i e M → g d e M fun e2 M2 => tb { D with nx := P (i + 1), ct := P (i + 1), bk := D.nx } E' e2 M2) ∧ ∀ e M, P w.ds.length e M → D.nx e M
theorem vsx_for {body : List Stmt} {ti : VTI} {tb : VTSX} (hp : PassesOwn (model X.prog X.w) X.A X.env X.xe) (hc : X.calm = true) (hi : VI X tg iter ti) (hg : VG X tg g) (hb : VSsX X E body tb)
    (hs : ∀ x, foldedSetIterable iter X.env x = pure x := by intro _; rfl) : VSX X E (.For tg iter body [] pos) (xFor ti g tb) :=
  PS_imp (ps_for hp hc hi hg hb hs) fun D0 σ H ⟨F, M, G, e, D', E', hs, hr, q, o, ox⟩ => ⟨F, M, G, e, _, hs, hr, q, fun J w H1 F1 M1 s1 r1 hw ⟨P, p0, pok, pt, pe⟩ => by
    refine ⟨fun i m σ H => ∃ F2 M2 e2, Same F1 F2 ∧ SR X.K F2 σ e2 ∧ Rel X.K F2 M2 G H ∧ i ≤ w.ds.length ∧ m = w.ds.length - i ∧ P i e2 M2, ⟨_, F1, M1, e, Same.refl F1, hs.up s1, r1, Nat.zero_le _, rfl, p0⟩, ?_⟩
    rintro i m σ2 H2 ⟨F2, M2, e2, s2, hs2, r2, hi, rfl, p⟩
    by_cases hlt : i < w.ds.length
    · refine .inr ⟨hw.goes i H2 F2 G M2 s2 r2 (pok i e2 M2 hi p) hlt, fun σ' H' => ∃ F2 M2 e2, Same F1 F2 ∧ SR X.K F2 σ' e2 ∧ Rel X.K F2 M2 G H' ∧ P (i + 1) e2 M2, fun σ' H' ⟨F3, M3, e3, s3, hs3, r3, p3⟩ => ⟨_, by omega, F3, M3, e3, s3, hs3, r3, hlt, rfl, p3⟩, fun x H' y => ?_⟩
      obtain ⟨F3, d, s3, r3, hd, dx⟩ := hw.yields i H2 x H' F2 G M2 s2 r2 (pok i e2 M2 hi p) hlt y
      refine ⟨F3, M2, G, e2, d, _, hs2.up s3, r3, dx, pt i d e2 M2 hd p, fun σ4 H4 F4 M4 e4 s4 r4 hs4 q4 => ?_⟩
      have s14 := ((s2.trans s3).trans s4)
      have nx : OutS X.K F4 G (P (i + 1)) (fun σ' H' => ∃ F2 M2 e2, Same F1 F2 ∧ SR X.K F2 σ' e2 ∧ Rel X.K F2 M2 G H' ∧ P (i + 1) e2 M2) := fun σ5 H5 F5 M5 e5 s5 r5 hs5 q5 => ⟨F5, M5, e5, s14.trans s5, hs5, r5, q5⟩
      exact ⟨F4, M4, G, e4, _, E', hs4, r4, q4, ⟨nx, o.rt.up (s1.trans s14), o.nx.up (s1.trans s14), nx⟩, ox.up (s1.trans s14)⟩
    · have ei : i = w.ds.length := by omega
      subst ei
      exact .inl ⟨hw.stops H2 F2 G M2 s2 r2 (pok _ e2 M2 hi p), o.nx σ2 H2 F2 M2 e2 (s1.trans s2) r2 hs2 (pe e2 M2 p)⟩⟩
end
end VL
namespace VL
open PySem PySem.Spec L2
section
variable {X : Cx} {a b c : Expr} {t : VTA} {pos : Pos}
@[simp] def sPar3 (i j l : Nat) (t : VTA) : VTS := fun D e M => t e M fun ds M1 => ∃ u v w, ds = [u, v, w] ∧ D.nx (((e.set i (some u)).set j (some v)).set l (some w)) M1
theorem vs_par3 {i j l : Nat} {x y z : Str} {px py pz pt : Pos} {kt k2 pt2} (hc : X.calm = true) (hN : X.N.Nodup) (hi : X.N[i]? = some x) (hj : X.N[j]? = some y) (hl : X.N[l]? = some z) (hij : i ≠ j) (hil : i ≠ l) (hjl : j ≠ l)
    (hx : X.env.scope.names.lookup x = some .local) (hy : X.env.scope.names.lookup y = some .local) (hz : X.env.scope.names.lookup z = some .local) (ha : VA X [a, b, c] t)
    (hw : swappedStores [.Tuple [.Name x px, .Name y py, .Name z pz] kt pt] (.Tuple [a, b, c] k2 pt2) X.env = pure (some [x, y, z]))
    (hs : swapsWithSole [.Tuple [.Name x px, .Name y py, .Name z pz] kt pt] (.Tuple [a, b, c] k2 pt2) pos.line X.env = pure false := by rfl) :
    VS X (.Assign [.Tuple [.Name x px, .Name y py, .Name z pz] kt pt] (.Tuple [a, b, c] k2 pt2) pos) (sPar3 i j l t) :=
  vs_ps (ps_par3 hc hN hi hj hl hij hil hjl hx hy hz ha hw hs) fun F M G σ H e D' D hs hr q o => ⟨F, M, G, e, _, hs, hr, q, fun vs H1 F1 M1 ds s1 r1 d1 q1 => by
    obtain ⟨u, v, w, rfl, q1⟩ := q1
    cases d1 with
    | cons z1 z2 =>
      cases z2 with
      | cons z2 z3 =>
        cases z3 with
        | cons z3 z4 =>
          cases z4
          exact ⟨_, _, _, rfl, o.nx _ H1 F1 M1 _ s1 r1 ((((hs.up s1).put z1 i).put z2 j).put z3 l) q1⟩⟩
end
end VL
namespace VL
open PySem PySem.Spec PyProof.Rows L2
def tSortSetI (K : PySem.W.Frag) (ta : TE) : TE := fun σ H Q => ta σ H fun x H1 => ∃ (l : Addr) (ns : List Int), x = .ref l ∧ SqT K H1 l (ns.map V.int) ∧ ns.length < 64 ∧
  ∀ (L : List Int) (p : Addr), L.Pairwise (· < ·) → (∀ k, k ∈ L ↔ k ∈ ns) → H1 p = none → Q (.ref p) (upd H1 p (.lst (L.map V.int)))
@[simp] def vSortSetI (te : VTE) : VTE := fun e M Q => te e M fun x M1 => ∃ (ns : List Int), x = .tup (ns.map D.int) ∧ ns.length < 64 ∧
  ∀ L : List Int, L.Pairwise (· < ·) → (∀ k, k ∈ L ↔ k ∈ ns) → Q (.lst (L.map D.int)) M1
section
variable {X : Cx} {a : Expr} {q pos : Pos} {ta : VTE}
theorem pe_sortSetI {ta : TE} {p p2 : Pos} (hg : Gl X "sorted") (hm : X.mg "sorted" = none) (hg2 : Gl X "set") (hm2 : X.mg "set" = none) (ha : PE X a ta) (hc : X.calm = true)
    (na : starEach [a] X.env = (false, eval a X.env) :: starEach [] X.env) : PE X (.Call (.Name "sorted" p) [.Call (.Name "set" p2) [a] [] q] [] pos) (tSortSetI X.K ta) := by
  refine ⟨fun pins s σ H Q I h => PyProof.Rows.Call_ (ld_blt I hg hm PyProof.Rows.boot_sorted (PyProof.Rows.callWith_builtin1 (PyProof.Rows.args_cons (PyProof.Rows.Call_ (ld_blt I hg2 hm2 PyProof.Rows.boot_set ?_)) rfl) rfl rfl))⟩
  refine PyProof.Rows.callWith_type1 (PyProof.Rows.args_cons (thn (ha.run pins s σ H _ I h) fun v s1 ⟨x, H1, I1, r1, l, ns, ex, hq, hl, q1⟩ => PyProof.Rows.args_nil ?_) na) na rfl
  subst ex
  cases r1
  obtain ⟨its, rv, pt, hz⟩ := I1.tuple hq
  have hi : IntsAre its.toArray.toList ns := ints_of_vals rv
  have hd := I1.ok.hd hc
  refine call_set_tupI ns hd (show s1.heap.IsTuple l its.toArray from pt) hi (by unfold scanBound; omega) fun h' tk c R hcn k => PyProof.Rows.args_nil ?_
  refine sorted_set (s := { s1 with heap := h', toks := tk }) R (I1.ok.hd hc) (by omega) fun s2 b out c L k2 eg eo hb hout hints pw mem hlen => ?_
  have I2 : Inv X pins σ H1 { s1 with heap := h', toks := tk } := I1.kept k
  have hn0 : H1 b = none := I2.hok.fresh hb
  have J := I2.call (ch := []) (g' := s2.gens) (d' := s2.drawn) (t' := s2.toks) (Un.laid k2 hb hn0) (I2.hok.laid k2 hb (o := .lst (L.map V.int)) ⟨by rw [List.length_map, sizeLine_eq]; omega, out.toList, c, vals_of_ints hints, hout⟩) (by rw [eg]; exact I2.bare) (fun _ z => nomatch z)
  have e1 : s2 = { s1 with heap := s2.heap, gens := s2.gens, drawn := s2.drawn, toks := s2.toks } := by
    cases s2
    cases eo
    rfl
  rw [e1]
  exact ⟨.ref b, _, J, rfl, q1 L b pw (fun k => (mem k).trans (by simp)) hn0⟩
theorem v_sortSetI {te : VTE} {p p2 : Pos} (hc : X.calm = true) (hm : X.mg "sorted" = none) (hm2 : X.mg "set" = none) (ha : VE X a te) (hg : Gl X "sorted" := by rfl) (hg2 : Gl X "set" := by rfl)
    (na : starEach [a] X.env = (false, eval a X.env) :: starEach [] X.env := by rfl) : VE X (.Call (.Name "sorted" p) [.Call (.Name "set" p2) [a] [] q] [] pos) (vSortSetI te) :=
  v_pe (pe_sortSetI hg hm hg2 hm2 ha hc na) fun F M G σ H e Q' Q hs hr q o => ⟨F, M, G, e, _, hs, hr, q, fun v H1 F1 M1 d0 s1 r1 d1 ⟨ns, ed, hl, q1⟩ => by
    subst ed
    cases d1 with
    | tup h z =>
      rw [drs_ints z] at h
      exact ⟨_, ns, rfl, same_tup r1.sub h, hl, fun L p pw mem hp => (o.up s1).newL r1 (DRs.ints L) (q1 L pw mem) p hp⟩⟩
end
end VL
namespace K53
open PySem PySem.Spec L2 VL
def bl : List Str := ["ValueError", "abs", "all", "any", "bool", "enumerate", "int", "isinstance", "len", "list", "max", "min", "range", "repr", "set", "sorted", "str", "sum", "super", "tuple", "zip"]
def isI : D → Bool
  | .int _ => true
  | _ => false
def btw (lo hi : Int) : D → Bool
  | .int i => decide (lo ≤ i) && decide (i ≤ hi)
  | _ => false
def areB (lo hi : Int) : D → Bool
  | .tup xs => xs.all (btw lo hi)
  | _ => false
def lenT : D → Nat
  | .tup xs => xs.length
  | _ => 0
def isSqB (lo hi : Int) : D → Bool
  | .tup xs => decide (1 ≤ xs.length) && decide (xs.length ≤ 9) && xs.all fun r => areB lo hi r && decide (lenT r = xs.length)
  | _ => false
abbrev N_is_integer : List Str := ["value"]
abbrev P_is_integer : List Str := ["value"]
theorem sc_is_integer : FnScope N_is_integer P_is_integer (defScope s_is_integer) := ⟨rfl, rfl, rfl, by decide +kernel, rfl, by decide +kernel, by decide +kernel⟩
def p_is_integer : VSp := pr1 fun a M Q => Okv M a ∧ Q (.bl (isI a)) M
theorem ok_is_integer {P : Program} {w : World} {K : PySem.W.Frag} {mg : Str → Option Value} {base : Heap} (hD : Df K mg "is_integer" s_is_integer) (hB : Fr mg bl) : Kn P w K mg base 1 "is_integer" P_is_integer p_is_integer := by
  have S := sc_is_integer
  refine kn_of hD sc_is_integer (fun _ _ _ _ _ _ us hl => match us, hl with | [_], _ => rfl) pr1_len ?_
  intro f cdv A outer s H E hr
  refine ⟨_, (vss_one (vs_ret (v_and (v_isi (T := "int") (hB _ (by decide +kernel)) (hB _ (by decide +kernel)) (v_var (pv 0))) (v_one (v_not (v_isi (T := "bool") (hB _ (by decide +kernel)) (hB _ (by decide +kernel)) (v_var (pv 0)))))))), ?_⟩
  clear hr S
  rintro _ M Q ⟨x0, rfl, h⟩
  rw [show vstart N_is_integer.length [x0] = [some x0] from rfl]
  obtain ⟨ok, h⟩ := h
  simp only [sRet, vAnd, vNot]
  refine isi_int x0 (fun R r => ⟨x0, rfl, r⟩) ok ⟨_, rfl, ?_⟩
  cases x0 with
  | int i => simp [isInt, vVar, isI] at h ⊢; exact h
  | bl b => simp [isInt, vVar, isI] at h ⊢; exact h
  | _ => simp [isInt, isI] at h ⊢; exact h
abbrev N_is_between : List Str := ["value", "low", "high"]
abbrev P_is_between : List Str := ["value", "low", "high"]
theorem sc_is_between : FnScope N_is_between P_is_between (defScope s_is_between) := ⟨rfl, rfl, rfl, by decide +kernel, rfl, by decide +kernel, by decide +kernel⟩
def p_is_between : VSp := pr3 fun a b c M Q => ∃ lo hi, Okv M a ∧ b = .int lo ∧ c = .int hi ∧ Q (.bl (btw lo hi a)) M
theorem ok_is_between {P : Program} {w : World} {K : PySem.W.Frag} {mg : Str → Option Value} {base : Heap} (hD : Df K mg "is_between" s_is_between) (hB : Fr mg bl) (k_is_integer : Kn P w K mg base 1 "is_integer" P_is_integer p_is_integer) : Kn P w K mg base 2 "is_between" P_is_between p_is_between := by
  have S := sc_is_between
  refine kn_of hD sc_is_between (fun _ _ _ _ _ _ us hl => match us, hl with | [_, _, _], _ => rfl) pr3_len ?_
  intro f cdv A outer s H E hr
  refine ⟨_, (vss_one (vs_ret (v_and (v_callK k_is_integer hr (va_cons (v_var (pv 0)) va_nil)) (v_one (v_chain o_le o_le (v_var (pv 1)) (v_var (pv 0)) (v_var (pv 2))))))), ?_⟩
  clear hr S
  rintro _ M Q ⟨x0, x1, x2, rfl, h⟩
  rw [show vstart N_is_between.length [x0, x1, x2] = [some x0, some x1, some x2] from rfl]
  obtain ⟨lo, hi, ok, rfl, rfl, h⟩ := h
  simp [p_is_integer]
  refine ⟨ok, ?_⟩
  cases x0 with
  | int i =>
    simp [isI, btw] at h ⊢
    split
    · rename_i z; simpa [z] using h
    · rename_i z; simpa [z] using h
  | _ => simp [isI, btw] at h ⊢; exact h
abbrev N_are_between : List Str := ["value", "low", "high", "one"]
abbrev P_are_between : List Str := ["value", "low", "high"]
theorem sc_are_between : FnScope N_are_between P_are_between (defScope s_are_between) := ⟨rfl, rfl, rfl, by decide +kernel, rfl, by decide +kernel, by decide +kernel⟩
def p_are_between : VSp := pr3 fun a b c M Q => ∃ lo hi, Okv M a ∧ b = .int lo ∧ c = .int hi ∧ Q (.bl (areB lo hi a)) M
theorem ok_are_between {P : Program} {w : World} {K : PySem.W.Frag} {mg : Str → Option Value} {base : Heap} (hD : Df K mg "are_between" s_are_between) (hB : Fr mg bl) (k_is_between : Kn P w K mg base 2 "is_between" P_is_between p_is_between) : Kn P w K mg base 3 "are_between" P_are_between p_are_between := by
  have S := sc_are_between
  refine kn_of hD sc_are_between (fun _ _ _ _ _ _ us hl => match us, hl with | [_, _, _], _ => rfl) pr3_len ?_
  intro f cdv A outer s H E hr
  refine ⟨_, (vss_one (vs_ret (v_and (v_isi (T := "tuple") (hB _ (by decide +kernel)) (hB _ (by decide +kernel)) (v_var (pv 0))) (v_one (v_callB (c_all rfl) (hB _ (by decide +kernel)) (va_cons (v_lc (own := [("one", 3)]) rfl S.nd (vi_seq (v_var (pv 0))) (blkOk_by (by first | rfl | kernel_rfl)) (lcg_name (fun _ _ _ _ _ => pg_name (i := 3) S.nd rfl (by first | exact Or.inl rfl | exact Or.inr rfl))) (fun _ _ _ _ _ => vts_nil) (fun _ _ _ _ _ => (v_callK k_is_between hr (va_cons (v_var (pv 3)) (va_cons (v_var (pv 1)) (va_cons (v_var (pv 2)) va_nil)))))) va_nil)))))), ?_⟩
  clear hr S
  rintro _ M Q ⟨x0, x1, x2, rfl, h⟩
  rw [show vstart N_are_between.length [x0, x1, x2] = [some x0, some x1, some x2, none] from rfl]
  obtain ⟨lo, hi, ok, rfl, rfl, h⟩ := h
  simp only [sRet, vAnd]
  refine isi_tuple x0 (fun R r => ⟨x0, rfl, r⟩) ok ⟨_, rfl, ?_⟩
  cases x0 with
  | tup xs =>
    unfold Okv at ok
    have sz := size1000
    simp [isTuple]
    refine vLc_al xs (fun d => d) (fun d => .bl (btw lo hi d)) (w := ⟨xs, fun _ => True⟩) (fun R r => ?_) (by simp) trivial (by omega) (fun d hd A hA => ?_) ?_
    · simpa using r
    · simp [vwipe, p_is_between]
      exact ⟨okvs_mem ok.2 d hd, hA⟩
    · simp [VL.rAll]
      exact ⟨xs.map (btw lo hi), by simp [Function.comp_def], by simpa [List.all_map, Function.comp_def, areB] using h⟩
  | _ => simp [isTuple, areB] at h ⊢; exact h
end K53
namespace K53
open PySem PySem.Spec L2 VL
/-- the pot: its own digits, a seed, how often it was asked -/
def Pot (B : Nat) (l : List D) : Prop := ∃ own x n : Int, l = [.int own, .int x, .int n] ∧ 0 ≤ own ∧ 0 ≤ x ∧ x < 4611686018427387904 ∧ 0 ≤ n ∧ n ≤ B
theorem pow1 : PowOk 10 60 := by unfold PowOk; decide +kernel
theorem pow18 : PowOk 10 18 := by unfold PowOk; decide +kernel
theorem pow2 : PowOk (10 ^ 60) 5 := by unfold PowOk; decide +kernel
abbrev N__law_pot : List Str := ["script", "place", "cell", "own", "small"]
abbrev P__law_pot : List Str := ["script", "place"]
theorem sc__law_pot : FnScope N__law_pot P__law_pot (defScope s__law_pot) := ⟨rfl, rfl, rfl, by decide +kernel, rfl, by decide +kernel, by decide +kernel⟩
def p__law_pot : VSp := pr2 fun a b M Q => ∃ (ns : List Int) (i : Nat), a = .rd (ns.map D.int) ∧ b = .int i ∧ i < 1000 ∧ ns.length ≤ 100000 ∧ ∀ p l, M p = none → Pot 0 l → Q (.obj p) (mupd M p (.lst l))
theorem ok__law_pot {P : Program} {w : World} {K : PySem.W.Frag} {mg : Str → Option Value} {base : Heap} (hD : Df K mg "_law_pot" s__law_pot) (hB : Fr mg bl) : Kn P w K mg base 1 "_law_pot" P__law_pot p__law_pot := by
  have S := sc__law_pot
  refine kn_of hD sc__law_pot (fun _ _ _ _ _ _ us hl => match us, hl with | [_, _], _ => rfl) pr2_len ?_
  intro f cdv A outer s H E hr
  refine ⟨_, (vss_cons (vs_set (i := 2) S.nd rfl (Or.inl rfl) (v_if (t_cmp o_lt (v_var (pv 1)) (v_callB c_len (hB _ (by decide +kernel)) (va_cons (v_var (pv 0)) va_nil)) (nomark _)) (v_ix (v_var (pv 0)) (v_var (pv 1))) (v_op o_add (v_op o_add (v_op o_mod (v_callB (c_sum rfl) (hB _ (by decide +kernel)) (va_cons (v_sl (v_var (pv 0)) vo_none (vo_some v_int)) va_nil)) v_int) (v_op o_mulI v_int (v_var (pv 1)))) v_int))) (vss_cons (vs_set (i := 3) S.nd rfl (Or.inl rfl) (v_op o_mulI (v_op o_mod (v_callTy c_int (hB _ (by decide +kernel)) (va_cons (v_callB c_abs (hB _ (by decide +kernel)) (va_cons (v_var (pv 2)) va_nil)) va_nil)) (v_op o_pow (v_op o_pow v_int v_int) v_int)) (v_callTy c_int (hB _ (by decide +kernel)) (va_cons (v_cmp o_ge (v_callB c_abs (hB _ (by decide +kernel)) (va_cons (v_var (pv 2)) va_nil)) (v_op o_pow v_int v_int) (nomark _)) va_nil)))) (vss_cons (vs_set (i := 4) S.nd rfl (Or.inl rfl) (v_op o_mod (v_callTy c_int (hB _ (by decide +kernel)) (va_cons (v_var (pv 2)) va_nil)) v_int)) (vss_one (vs_ret (v_lstO (va_cons (v_var (pv 3)) (va_cons (v_op o_mod (v_callTy c_int (hB _ (by decide +kernel)) (va_cons (v_op o_add (v_op o_add (v_op o_mulI (v_var (pv 4)) v_int) (v_op o_mulI (v_op o_mulI v_int (v_var (pv 1))) (v_var (pv 1)))) v_int) va_nil)) v_int) (va_cons v_int va_nil))))))))), ?_⟩
  clear hr S
  rintro _ M Q ⟨x0, x1, rfl, h⟩
  rw [show vstart N__law_pot.length [x0, x1] = [some x0, some x1, none, none, none] from rfl]
  obtain ⟨ns, i, rfl, rfl, hi, hl, h⟩ := h
  rcases Nat.lt_or_ge i ns.length with hc | hc
  · obtain ⟨cell, e⟩ : ∃ cell, (ns.map D.int)[i]? = some (.int cell) := ⟨ns[i], by simp [hc]⟩
    simp [hc, atI_k, e, -List.getElem?_map]
    refine ⟨pow1, by simpa using pow2, pow18, .inr (.inl ite01a), .inr (.inl (by decide)), .inl (by decide), .inr (.inl (by omega)), fun p hp => h p _ hp ⟨_, _, 0, rfl, Int.mul_nonneg (Int.emod_nonneg _ (by decide)) ite01, Int.emod_nonneg _ (by decide), ?_, by omega, by omega⟩⟩
    have := Int.emod_lt_of_pos (cell % 2305843009213693951 * 67651 + 6997 * ↑i * ↑i + 1013) (show (0 : Int) < 2305843009213693921 by decide)
    omega
  · have hc' : ¬ (i < ns.length) := by omega
    have hs : cutD (ns.map D.int) none (some 1) = (ns.take 1).map D.int := by
      have := cut_take (ns.map D.int) 1
      rw [List.map_take] at *
      exact this
    simp [hc', VL.rSum, hs, -List.map_take]
    refine ⟨ns.take 1, rfl, ?_⟩
    generalize (ns.take 1).sum % 1000303 + 5419 * ↑i + 829 = cell
    refine ⟨.inl (by decide), pow1, by simpa using pow2, pow18, .inr (.inl ite01a), .inr (.inl (by decide)), .inl (by decide), .inr (.inl (by omega)), fun p hp => h p _ hp ⟨_, _, 0, rfl, Int.mul_nonneg (Int.emod_nonneg _ (by decide)) ite01, Int.emod_nonneg _ (by decide), ?_, by omega, by omega⟩⟩
    have := Int.emod_lt_of_pos (cell % 2305843009213693951 * 67651 + 6997 * ↑i * ↑i + 1013) (show (0 : Int) < 2305843009213693921 by decide)
    omega
abbrev N__law_take : List Str := ["pot", "upto", "digit", "prime", "blend"]
abbrev P__law_take : List Str := ["pot", "upto"]
theorem sc__law_take : FnScope N__law_take P__law_take (defScope s__law_take) := ⟨rfl, rfl, rfl, by decide +kernel, rfl, by decide +kernel, by decide +kernel⟩
def p__law_take : VSp := pr2 fun a b M Q => ∃ (p : Addr) (l : List D) (B : Nat) (up : Nat), a = .obj p ∧ b = .int up ∧ M p = some (.lst l) ∧ Pot B l ∧ B < 1000000 ∧ 0 < up ∧ up ≤ 10000000 ∧ ∀ (d : Nat) l', d < up → Pot (B + 1) l' → Q (.int d) (mupd M p (.lst l'))
theorem ok__law_take {P : Program} {w : World} {K : PySem.W.Frag} {mg : Str → Option Value} {base : Heap} (hD : Df K mg "_law_take" s__law_take) (hB : Fr mg bl) : Kn P w K mg base 1 "_law_take" P__law_take p__law_take := by
  have S := sc__law_take
  refine kn_ofD hD sc__law_take (fun _ _ _ _ _ _ us hl => match us, hl with | [_, _], _ => rfl) pr2_len ?_
  intro f cdv A outer s H E hr
  refine ⟨_, (vss_cons (vs_if (t_cmp o_gt (v_ix (v_var (pv 0)) v_int) v_int (nomark _)) (vss_cons (vs_set (i := 2) S.nd rfl (Or.inl rfl) (v_op o_mod (v_callTy c_int (hB _ (by decide +kernel)) (va_cons (v_ix (v_var (pv 0)) v_int) va_nil)) (v_var (pv 1)))) (vss_cons (vs_asg (v_op o_fdiv (v_ix (v_var (pv 0)) v_int) (v_var (pv 1))) (vg_subL (v_var (pv 0)) v_int)) (vss_one (vs_ret (v_var (pv 2)))))) vss_nil) (vss_cons (vs_asg (v_op o_add (v_ix (v_var (pv 0)) v_int) v_int) (vg_subL (v_var (pv 0)) v_int)) (vss_cons (vs_set (i := 3) S.nd rfl (Or.inl rfl) (v_ix (v_lst (va_cons v_int (va_cons v_int (va_cons v_int (va_cons v_int (va_cons v_int va_nil)))))) (v_op o_mod (v_callTy c_int (hB _ (by decide +kernel)) (va_cons (v_ix (v_var (pv 0)) v_int) va_nil)) v_int))) (vss_cons (vs_set (i := 4) S.nd rfl (Or.inl rfl) (v_op o_mod (v_callTy c_int (hB _ (by decide +kernel)) (va_cons (v_op o_pow (v_callTy c_int (hB _ (by decide +kernel)) (va_cons (v_op o_add (v_op o_add (v_ix (v_var (pv 0)) v_int) (v_op o_mulI (v_op o_mulI v_int (v_ix (v_var (pv 0)) v_int)) (v_ix (v_var (pv 0)) v_int))) v_int) va_nil)) v_int) va_nil)) (v_var (pv 3)))) (vss_cons (vs_set (i := 4) S.nd rfl (Or.inl rfl) (v_op o_mod (v_callTy c_int (hB _ (by decide +kernel)) (va_cons (v_op o_mulI (v_var (pv 4)) (v_op o_add (v_op o_mod (v_callTy c_int (hB _ (by decide +kernel)) (va_cons (v_var (pv 4)) va_nil)) v_int) (v_op o_mulI v_int (v_ix (v_var (pv 0)) v_int)))) va_nil)) v_int)) (vss_one (vs_ret (v_op o_mod (v_callTy c_int (hB _ (by decide +kernel)) (va_cons (v_op o_fdiv (v_var (pv 4)) v_int) va_nil)) (v_var (pv 1)))))))))), ?_⟩
  clear hr S
  rintro _ M Q ⟨x0, x1, rfl, h⟩
  rw [show vstart N__law_take.length [x0, x1] = [some x0, some x1, none, none, none] from rfl]
  obtain ⟨p, l, B, up, rfl, rfl, hM, ⟨own, x, n, rfl, o1, x1, x2, n1, n2⟩, hB', u1, u2, h⟩ := h
  simp [asL_obj hM, hM, L2.ixN]
  split
  · refine ⟨u1, ⟨u1, log2_small u2⟩, _, Sub.refl, ?_⟩
    have hd := Int.emod_nonneg own (show (up : Int) ≠ 0 by omega)
    have hd2 := Int.emod_lt_of_pos own (show (0 : Int) < up by omega)
    have hd3 := Int.ediv_nonneg o1 (show (0 : Int) ≤ up by omega)
    have := h (own % up).toNat _ (by omega) ⟨own / up, x, n, rfl, hd3, x1, x2, n1, by omega⟩
    rw [Int.toNat_of_nonneg hd] at this
    exact this
  · have h5 : (n + 1) % 5 = 0 ∨ (n + 1) % 5 = 1 ∨ (n + 1) % 5 = 2 ∨ (n + 1) % 5 = 3 ∨ (n + 1) % 5 = 4 := by omega
    obtain ⟨c, hc, c1, c2⟩ : ∃ c : Int, L2.atI [D.int 2147482181, D.int 2147482169, D.int 2147482157, D.int 2147482139, D.int 2147482133] ((n + 1) % 5) = some (.int c) ∧ 0 < c ∧ c < 2147483648 := by
      rcases h5 with z | z | z | z | z <;> rw [z] <;> exact ⟨_, rfl, by decide, by decide⟩
    have n3 : n + 1 ≤ 1000000 := by omega
    obtain ⟨b1, b2⟩ := take_bd (n := n + 1) (k := 72577) (c := 2011) x1 x2 (by omega) n3 (by decide) (by decide) (by decide) (by decide)
    have e1 := Int.emod_nonneg ((x + 72577 * (n + 1) * (n + 1) + 2011) ^ 3) (show c ≠ 0 by omega)
    have e2 := Int.emod_lt_of_pos ((x + 72577 * (n + 1) * (n + 1) + 2011) ^ 3) c1
    refine ⟨_, hc, .inl (by decide), .inr (.inl (by omega)), pow3_ok b1 b2, c, rfl, c1, .inl (by decide), .inl (by omega), by decide +kernel, u1, _, Sub.refl, ?_⟩
    have hd := Int.emod_nonneg ((x + 72577 * (n + 1) * (n + 1) + 2011) ^ 3 % c * ((x + 72577 * (n + 1) * (n + 1) + 2011) ^ 3 % c % 7951 + 257 * (n + 1)) % 2305843009213693907 / 157) (show (up : Int) ≠ 0 by omega)
    have hd2 := Int.emod_lt_of_pos ((x + 72577 * (n + 1) * (n + 1) + 2011) ^ 3 % c * ((x + 72577 * (n + 1) * (n + 1) + 2011) ^ 3 % c % 7951 + 257 * (n + 1)) % 2305843009213693907 / 157) (show (0 : Int) < up by omega)
    have := h _ _ ((Int.toNat_lt hd).mpr hd2) ⟨own, x, n + 1, rfl, o1, x1, x2, by omega, by omega⟩
    rw [Int.toNat_of_nonneg hd] at this
    exact this
abbrev N__law_cells : List Str := ["script", "most"]
abbrev P__law_cells : List Str := ["script", "most"]
theorem sc__law_cells : FnScope N__law_cells P__law_cells (defScope s__law_cells) := ⟨rfl, rfl, rfl, by decide +kernel, rfl, by decide +kernel, by decide +kernel⟩
def p__law_cells : VSp := pr2 fun a b M Q => ∃ (ns : List Int) (k : Nat), a = .rd (ns.map D.int) ∧ b = .int k ∧ k ≤ 1000 ∧ ∀ n : Nat, n ≤ 1000 → n ≤ k ∨ n ≤ 1 → Q (.lst (rgD 0 n)) M
theorem ok__law_cells {P : Program} {w : World} {K : PySem.W.Frag} {mg : Str → Option Value} {base : Heap} (hD : Df K mg "_law_cells" s__law_cells) (hB : Fr mg bl) : Kn P w K mg base 1 "_law_cells" P__law_cells p__law_cells := by
  have S := sc__law_cells
  refine kn_of hD sc__law_cells (fun _ _ _ _ _ _ us hl => match us, hl with | [_, _], _ => rfl) pr2_len ?_
  intro f cdv A outer s H E hr
  refine ⟨_, (vss_one (vs_ret (v_listRg1 rfl (hB _ (by decide +kernel)) (hB _ (by decide +kernel)) (v_callB (c_max2 rfl) (hB _ (by decide +kernel)) (va_cons v_int (va_cons (v_callB (c_min2 rfl) (hB _ (by decide +kernel)) (va_cons (v_var (pv 1)) (va_cons (v_callB c_len (hB _ (by decide +kernel)) (va_cons (v_var (pv 0)) va_nil)) va_nil))) va_nil)))))), ?_⟩
  clear hr S
  rintro _ M Q ⟨x0, x1, rfl, h⟩
  rw [show vstart N__law_cells.length [x0, x1] = [some x0, some x1] from rfl]
  obtain ⟨ns, k, rfl, rfl, hk, h⟩ := h
  simp
  generalize hm : (if 1 < if ns.length < k then (ns.length : Int) else k then if ns.length < k then (ns.length : Int) else k else 1) = m
  have hm2 : 1 ≤ m ∧ (m ≤ k ∨ m ≤ 1) := by
    rw [← hm]
    by_cases c1 : ns.length < k
    · simp only [c1, if_true]
      split <;> omega
    · simp only [c1, if_false]
      split <;> omega
  exact ⟨by omega, by omega, h _ (by omega) (by omega)⟩
theorem potUp {b b' : Nat} {l : List D} (h : Pot b l) (hb : b ≤ b') : Pot b' l := by
  obtain ⟨own, x, k, e, a1, a2, a3, a4, a5⟩ := h
  exact ⟨own, x, k, e, a1, a2, a3, a4, by omega⟩
abbrev N__law_of : List Str := ["pot", "some"]
abbrev P__law_of : List Str := ["pot", "some"]
theorem sc__law_of : FnScope N__law_of P__law_of (defScope s__law_of) := ⟨rfl, rfl, rfl, by decide +kernel, rfl, by decide +kernel, by decide +kernel⟩
def p__law_of : VSp := pr2 fun a b M Q => ∃ (p : Addr) (l xs : List D) (B : Nat), a = .obj p ∧ M p = some (.lst l) ∧ (∀ M' : Mem, asL M b = some xs ∧ ∀ l', asL (mupd M p (.lst l')) b = some xs) ∧ Pot B l ∧ B < 1000000 ∧ 0 < xs.length ∧ xs.length ≤ 1000000 ∧ ∀ d l', d ∈ xs → Pot (B + 1) l' → Q d (mupd M p (.lst l'))
theorem ok__law_of {P : Program} {w : World} {K : PySem.W.Frag} {mg : Str → Option Value} {base : Heap} (hD : Df K mg "_law_of" s__law_of) (hB : Fr mg bl) (k__law_take : Kn P w K mg base 1 "_law_take" P__law_take p__law_take) : Kn P w K mg base 2 "_law_of" P__law_of p__law_of := by
  have S := sc__law_of
  refine kn_of hD sc__law_of (fun _ _ _ _ _ _ us hl => match us, hl with | [_, _], _ => rfl) pr2_len ?_
  intro f cdv A outer s H E hr
  refine ⟨_, (vss_one (vs_ret (v_ix (v_var (pv 1)) (v_callK k__law_take hr (va_cons (v_var (pv 0)) (va_cons (v_callB c_len (hB _ (by decide +kernel)) (va_cons (v_var (pv 1)) va_nil)) va_nil)))))), ?_⟩
  clear hr S
  rintro _ M Q ⟨x0, x1, rfl, h⟩
  rw [show vstart N__law_of.length [x0, x1] = [some x0, some x1] from rfl]
  obtain ⟨p, l, xs, B, rfl, hM, hq, hl, hB', u1, u2, h⟩ := h
  have hq1 := (hq M).1
  have hq2 := (hq M).2
  have eL : ∀ Q : VL.VK, Q (.int (xs.length : Nat)) M → VL.rLen [x1] M Q := fun Q q => by
    cases x1 with
    | lst ys => cases hq1; exact ⟨_, rfl, q⟩
    | rd ys => cases hq1; exact ⟨_, rfl, q⟩
    | obj a =>
      unfold asL at hq1
      dsimp only at hq1
      split at hq1
      · rename_i ys hy
        cases hq1
        exact ⟨_, by simp [lenOf, hy], q⟩
      · cases hq1
    | _ => cases hq1
  have eI : ∀ (l' : List D) (i : Nat) (d : D) (Q : VL.VK), xs[i]? = some d → Q d (mupd M p (.lst l')) → oIx x1 (.int (i : Nat)) (mupd M p (.lst l')) Q := fun l' i d Q hd q => by
    have e := hq2 l'
    have g : ∃ ys d, asL (mupd M p (.lst l')) x1 = some ys ∧ L2.atI ys ((i : Nat) : Int) = some d ∧ Q d (mupd M p (.lst l')) := ⟨xs, d, e, by rw [atI_k]; exact hd, q⟩
    cases x1 with
    | lst ys => exact g
    | rd ys => exact g
    | obj a => exact g
    | _ => cases e
  simp only [sRet, vOp, vVar, vFn, vaCons, vaNil, vCall]
  refine ⟨x1, rfl, .obj p, rfl, x1, rfl, eL _ ?_⟩
  refine pr2_at.mpr ⟨p, l, B, xs.length, rfl, rfl, hM, hl, hB', u1, by omega, fun d l' hd hl' => ?_⟩
  exact eI l' d xs[d] _ (List.getElem?_eq_getElem hd) (h _ _ (List.getElem_mem hd) hl')
abbrev N__law_is_int : List Str := ["value", "low", "high"]
abbrev P__law_is_int : List Str := ["value", "low", "high"]
theorem sc__law_is_int : FnScope N__law_is_int P__law_is_int (defScope s__law_is_int) := ⟨rfl, rfl, rfl, by decide +kernel, rfl, by decide +kernel, by decide +kernel⟩
def p__law_is_int : VSp := pr3 fun a b c M Q => ∃ lo hi, Okv M a ∧ b = .int lo ∧ c = .int hi ∧ Q (.bl (btw lo hi a)) M
theorem ok__law_is_int {P : Program} {w : World} {K : PySem.W.Frag} {mg : Str → Option Value} {base : Heap} (hD : Df K mg "_law_is_int" s__law_is_int) (hB : Fr mg bl) : Kn P w K mg base 1 "_law_is_int" P__law_is_int p__law_is_int := by
  have S := sc__law_is_int
  refine kn_of hD sc__law_is_int (fun _ _ _ _ _ _ us hl => match us, hl with | [_, _, _], _ => rfl) pr3_len ?_
  intro f cdv A outer s H E hr
  refine ⟨_, (vss_one (vs_ret (v_and (v_isi (T := "int") (hB _ (by decide +kernel)) (hB _ (by decide +kernel)) (v_var (pv 0))) (v_and (v_not (v_isi (T := "bool") (hB _ (by decide +kernel)) (hB _ (by decide +kernel)) (v_var (pv 0)))) (v_one (v_chain o_le o_le (v_var (pv 1)) (v_var (pv 0)) (v_var (pv 2)))))))), ?_⟩
  clear hr S
  rintro _ M Q ⟨x0, x1, x2, rfl, h⟩
  rw [show vstart N__law_is_int.length [x0, x1, x2] = [some x0, some x1, some x2] from rfl]
  obtain ⟨lo, hi, ok, rfl, rfl, h⟩ := h
  simp only [sRet, vAnd, vNot]
  refine isi_int x0 (fun R r => ⟨x0, rfl, r⟩) ok ⟨_, rfl, ?_⟩
  cases x0 with
  | int i =>
    simp [isInt, vVar, btw] at h ⊢
    split
    · rename_i z; simpa [z] using h
    · rename_i z; simpa [z] using h
  | bl b => simp [isInt, vVar, btw] at h ⊢; exact h
  | _ => simp [isInt, btw] at h ⊢; exact h
end K53
namespace K53
open PySem PySem.Spec L2 VL
def dD (d : Int × Int) : D := .tup [.int d.1, .int d.2]
def ltP (a b : Int × Int) : Bool := decide (a.1 < b.1 ∨ (a.1 = b.1 ∧ a.2 < b.2))
def asc (ds : List (Int × Int)) : Bool := (ds.zip ds.tail).all fun p => ltP p.1 p.2
def webD (n : Int) (ds : List (Int × Int)) : D := .tup [.int n, .tup (ds.map dD)]
def WebOk (n : Int) (ds : List (Int × Int)) : Prop := 2 ≤ n ∧ n ≤ 8 ∧ 1 ≤ ds.length ∧ ds.length ≤ 16 ∧ (∀ d ∈ ds, 0 ≤ d.1 ∧ d.1 < d.2 ∧ d.2 ≤ n - 1) ∧ asc ds = true
theorem zipD_dD (xs ys : List (Int × Int)) : zipD (xs.map dD) (ys.map dD) = (xs.zip ys).map fun p => .tup [dD p.1, dD p.2] := by
  unfold zipD
  rw [List.zip_map, List.map_map]
  rfl
theorem lt_dD (a b : Int × Int) (M : Mem) (Q : VL.VK) (q : Q (.bl (ltP a b)) M) : oLtD (dD a) (dD b) M Q := by
  have s : ∀ c : Int × Int, Sh 30 (dD c) := fun c x hx => by
    simp at hx
    rcases hx with rfl | rfl <;> exact sh_int
  refine ⟨s a, s b, by simp [dD, py, pys, W.alike, W.alikeAll], by simp [dD, py], ?_⟩
  have e : W.dataLt (py (dD a)) (py (dD b)) = ltP a b := by
    show W.dataLt (.tuple [.int a.1, .int a.2]) (.tuple [.int b.1, .int b.2]) = _
    rw [W.dataLt_ii]
    rfl
  rw [e]; exact q
abbrev N_is_ascending : List Str := ["items", "one", "other"]
abbrev P_is_ascending : List Str := ["items"]
theorem sc_is_ascending : FnScope N_is_ascending P_is_ascending (defScope s_is_ascending) := ⟨rfl, rfl, rfl, by decide +kernel, rfl, by decide +kernel, by decide +kernel⟩
def ascI (xs : List Int) : Bool := (xs.zip xs.tail).all fun p => decide (p.1 < p.2)
theorem zipD_int (xs ys : List Int) : zipD (xs.map D.int) (ys.map D.int) = (xs.zip ys).map fun p => .tup [.int p.1, .int p.2] := by
  unfold zipD
  rw [List.zip_map, List.map_map]
  rfl
theorem lt_int (a b : Int) (M : Mem) (Q : VL.VK) (q : Q (.bl (decide (a < b))) M) : oLtD (.int a) (.int b) M Q := by
  refine ⟨sh_int, sh_int, by rfl, by simp [py], ?_⟩
  have : W.dataLt (py (.int a)) (py (.int b)) = decide (a < b) := by
    exact W.dataLt_int a b
  rw [this]
  exact q
def p_is_ascending : VSp := pr1 fun a M Q => (∃ ds : List (Int × Int), a = .tup (ds.map dD) ∧ ds.length ≤ 1000 ∧ Q (.bl (asc ds)) M) ∨ ∃ xs : List Int, a = .tup (xs.map D.int) ∧ xs.length ≤ 1000 ∧ Q (.bl (ascI xs)) M
theorem ok_is_ascending {P : Program} {w : World} {K : PySem.W.Frag} {mg : Str → Option Value} {base : Heap} (hD : Df K mg "is_ascending" s_is_ascending) (hB : Fr mg bl) : Kn P w K mg base 1 "is_ascending" P_is_ascending p_is_ascending := by
  have S := sc_is_ascending
  refine kn_of hD sc_is_ascending (fun _ _ _ _ _ _ us hl => match us, hl with | [_], _ => rfl) pr1_len ?_
  intro f cdv A outer s H E hr
  refine ⟨_, (vss_one (vs_ret (v_callB (c_all rfl) (hB _ (by decide +kernel)) (va_cons (v_lc (own := [("one", 1), ("other", 2)]) rfl S.nd (vi_zip (hB _ (by decide +kernel)) (va_cons (v_var (pv 0)) (va_cons (v_sl (v_var (pv 0)) (vo_some v_int) vo_none) va_nil))) (blkOk_by (by first | rfl | kernel_rfl)) (lcg_tup (n := 2) rfl (lcgs_cons (lcg_name (fun _ _ _ _ _ => pg_name (i := 1) S.nd rfl (by first | exact Or.inl rfl | exact Or.inr rfl))) (lcgs_cons (lcg_name (fun _ _ _ _ _ => pg_name (i := 2) S.nd rfl (by first | exact Or.inl rfl | exact Or.inr rfl))) lcgs_nil))) (fun _ _ _ _ _ => vts_nil) (fun _ _ _ _ _ => (v_cmp (o_ltD hr.r) (v_var (pv 1)) (v_var (pv 2)) (nomark _)))) va_nil)))), ?_⟩
  clear hr S
  rintro _ M Q ⟨x0, rfl, h⟩
  rw [show vstart N_is_ascending.length [x0] = [some x0, none, none] from rfl]
  rcases h with ⟨ds, rfl, hl, h⟩ | ⟨xs, rfl, hl, h⟩
  · simp
    refine vLc_map (fun d => match d with | .tup [.tup [.int a, .int b], .tup [.int a', .int b']] => .bl (ltP (a, b) (a', b')) | _ => .non) (w := ⟨zipD (ds.map dD) (ds.tail.map dD), fun _ => True⟩) (fun R r => ?_) trivial (by rw [zipD_dD]; simp; have := size1000; omega) (fun d hd A hA => ?_) ?_
    · simpa [cut_tail, and_assoc] using r
    · rw [zipD_dD] at hd
      obtain ⟨p, hp, rfl⟩ := List.mem_map.mp hd
      simp [vwipe]
      exact lt_dD _ _ _ _ hA
    · simp only [zipD_dD]
      simp [VL.rAll]
      refine ⟨(ds.zip ds.tail).map fun p => ltP p.1 p.2, by simp [Function.comp_def, dD], ?_⟩
      simpa [List.all_map, Function.comp_def, asc] using h
  · simp
    refine vLc_map (fun d => match d with | .tup [.int a, .int b] => .bl (decide (a < b)) | _ => .non) (w := ⟨zipD (xs.map D.int) (xs.tail.map D.int), fun _ => True⟩) (fun R r => ?_) trivial (by rw [zipD_int]; simp; have := size1000; omega) (fun d hd A hA => ?_) ?_
    · simpa [cut_tail, and_assoc] using r
    · rw [zipD_int] at hd
      obtain ⟨p, hp, rfl⟩ := List.mem_map.mp hd
      simp [vwipe]
      exact lt_int _ _ _ _ hA
    · simp only [zipD_int]
      simp [VL.rAll]
      refine ⟨(xs.zip xs.tail).map fun p => decide (p.1 < p.2), by simp [Function.comp_def], ?_⟩
      simpa [List.all_map, Function.comp_def, ascI] using h

def uD : D → Int × Int
  | .tup [.int a, .int b] => (a, b)
  | _ => (0, 0)
theorem uD_dD (d : Int × Int) : uD (dD d) = d := rfl
/-- a door of a web of n rooms -/
def doorB (n : Int) : D → Bool
  | .tup [.int a, .int b] => decide (0 ≤ a ∧ a < b ∧ b ≤ n - 1)
  | _ => false
def webB : D → Bool
  | .tup [.int n, .tup ds] => decide (2 ≤ n ∧ n ≤ 8) && decide (1 ≤ ds.length ∧ ds.length ≤ 16) && ds.all (doorB n) && asc (ds.map uD)
  | _ => false
theorem door_ex {n : Int} {d : D} (h : doorB n d = true) : d = dD (uD d) ∧ 0 ≤ (uD d).1 ∧ (uD d).1 < (uD d).2 ∧ (uD d).2 ≤ n - 1 := by
  unfold doorB at h
  split at h
  · rename_i a b
    have h := of_decide_eq_true h
    exact ⟨rfl, h⟩
  · cases h
theorem doors_ex {n : Int} {ds : List D} (h : ds.all (doorB n) = true) : ds = (ds.map uD).map dD := by
  rw [List.map_map]
  refine (List.map_id ds).symm.trans (List.map_congr_left fun d hd => ?_)
  exact (door_ex (List.all_eq_true.mp h d hd)).1
theorem web_iff {n : Int} {ds : List (Int × Int)} : webB (webD n ds) = true ↔ WebOk n ds := by
  have e1 : (ds.map dD).map uD = ds := by rw [List.map_map]; exact List.map_id _
  unfold webB webD WebOk
  simp only [e1, List.length_map, Bool.and_eq_true, decide_eq_true_eq, List.all_map, List.all_eq_true, Function.comp_def, doorB, dD, and_assoc]
theorem web_ok {n : Int} {ds : List (Int × Int)} {M : Mem} (h : WebOk n ds) : Okv M (webD n ds) := by
  unfold webD Okv
  refine ⟨by simp, okvs_of fun x hx => ?_⟩
  simp only [List.mem_cons, List.not_mem_nil, or_false] at hx
  rcases hx with rfl | rfl
  · unfold Okv; trivial
  · unfold Okv
    refine ⟨by rw [List.length_map]; have := h.2.2.2.1; omega, okvs_of fun y hy => ?_⟩
    obtain ⟨d, _, rfl⟩ := List.mem_map.mp hy
    unfold dD Okv
    refine ⟨by simp, okvs_of fun z hz => ?_⟩
    simp only [List.mem_cons, List.not_mem_nil, or_false] at hz
    rcases hz with rfl | rfl <;> (unfold Okv; trivial)
abbrev N_is_web : List Str := ["value", "door"]
abbrev P_is_web : List Str := ["value"]
theorem sc_is_web : FnScope N_is_web P_is_web (defScope s_is_web) := ⟨rfl, rfl, rfl, by decide +kernel, rfl, by decide +kernel, by decide +kernel⟩
def p_is_web : VSp := pr1 fun a M Q => Okv M a ∧ Q (.bl (webB a)) M
theorem ok_is_web {P : Program} {w : World} {K : PySem.W.Frag} {mg : Str → Option Value} {base : Heap} (hD : Df K mg "is_web" s_is_web) (hB : Fr mg bl) {t_MOST_ROOMS : Tok} (i_MOST_ROOMS : mg "MOST_ROOMS" = some (.int 8 t_MOST_ROOMS)) {t_MOST_DOORS : Tok} (i_MOST_DOORS : mg "MOST_DOORS" = some (.int 16 t_MOST_DOORS)) (k_is_between : Kn P w K mg base 2 "is_between" P_is_between p_is_between) (k_are_between : Kn P w K mg base 3 "are_between" P_are_between p_are_between) (k_is_ascending : Kn P w K mg base 1 "is_ascending" P_is_ascending p_is_ascending) : Kn P w K mg base 4 "is_web" P_is_web p_is_web := by
  have S := sc_is_web
  refine kn_of hD sc_is_web (fun _ _ _ _ _ _ us hl => match us, hl with | [_], _ => rfl) pr1_len ?_
  intro f cdv A outer s H E hr
  refine ⟨_, (vss_cons (vs_if (t_pw (t_or (t_not (t_val (v_isi (T := "tuple") (hB _ (by decide +kernel)) (hB _ (by decide +kernel)) (v_var (pv 0))))) (t_or (t_cmp (o_ne hr.r) (v_callB c_len (hB _ (by decide +kernel)) (va_cons (v_var (pv 0)) va_nil)) v_int (nomark _)) (t_or1 (t_not (t_val (v_callK k_is_between hr (va_cons (v_ix (v_var (pv 0)) v_int) (va_cons v_int (va_cons (v_gint i_MOST_ROOMS ⟨_, rfl⟩) va_nil)))))))))) (vss_one (vs_ret v_bl)) vss_nil) (vss_cons (vs_if (t_pw (t_or (t_not (t_val (v_isi (T := "tuple") (hB _ (by decide +kernel)) (hB _ (by decide +kernel)) (v_ix (v_var (pv 0)) v_int)))) (t_or1 (t_not (t_chain o_le o_le v_int (v_callB c_len (hB _ (by decide +kernel)) (va_cons (v_ix (v_var (pv 0)) v_int) va_nil)) (v_gint i_MOST_DOORS ⟨_, rfl⟩)))))) (vss_one (vs_ret v_bl)) vss_nil) (vss_cons (vs_for PassesOwn.never rfl (vi_seq (v_ix (v_var (pv 0)) v_int)) (vg_name (pg_name (i := 1) S.nd rfl (by first | exact Or.inl rfl | exact Or.inr rfl))) (vss_one (vs_if (t_pw (t_or (t_not (t_val (v_callK k_are_between hr (va_cons (v_var (pv 1)) (va_cons v_int (va_cons (v_op o_sub (v_ix (v_var (pv 0)) v_int) v_int) va_nil)))))) (t_or (t_cmp (o_ne hr.r) (v_callB c_len (hB _ (by decide +kernel)) (va_cons (v_var (pv 1)) va_nil)) v_int (nomark _)) (t_or1 (t_cmp o_ge (v_ix (v_var (pv 1)) v_int) (v_ix (v_var (pv 1)) v_int) (nomark _)))))) (vss_one (vs_ret v_bl)) vss_nil))) (vss_one (vs_ret (v_callK k_is_ascending hr (va_cons (v_ix (v_var (pv 0)) v_int) va_nil))))))), ?_⟩
  clear hr S
  rintro _ M Q ⟨x0, rfl, h⟩
  rw [show vstart N_is_web.length [x0] = [some x0, none] from rfl]
  obtain ⟨ok, h⟩ := h
  have sz := size1000
  refine s_hide fun R1 hR1 => ?_
  simp only [sSeq, sIf, vOrT, vNotT, vTest]
  refine isi_tuple x0 (fun R r => ⟨x0, rfl, r⟩) ok ⟨_, rfl, ?_⟩
  cases x0 with
  | tup xs =>
    have okx := okvs_mem ok.2
    simp [isTuple]
    by_cases l2 : xs.length = 2
    · obtain ⟨x, y, rfl⟩ : ∃ x y, xs = [x, y] := by
        match xs, l2 with
        | [x, y], _ => exact ⟨x, y, rfl⟩
      simp [p_is_between]
      refine ⟨okx x (by simp), ?_⟩
      cases q : btw 2 8 x with
      | false =>
        have e : webB (.tup [x, y]) = false := by
          unfold webB
          split
          · rename_i n ds z
            cases z
            unfold btw at q
            have : ¬ (2 ≤ n ∧ n ≤ 8) := by simpa using q
            simp only [decide_eq_false this, Bool.false_and]
          · rfl
        rw [e] at h
        simpa using h
      | true =>
        obtain ⟨n, rfl, n2, n8⟩ : ∃ n, x = .int n ∧ 2 ≤ n ∧ n ≤ 8 := by
          unfold btw at q
          split at q
          · exact ⟨_, rfl, by simpa using q⟩
          · cases q
        refine .inr ⟨rfl, ?_⟩
        have oky := okx y (by simp)
        show R1 _ _ _
        subst hR1
        refine s_hide fun R1 hR1 => ?_
        simp only [sSeq, sIf, vOrT, vNotT, vTest]
        refine isi_tuple y (fun R r => by simpa using r) oky ⟨_, rfl, ?_⟩
        cases y with
        | tup ds =>
          unfold Okv at oky
          simp [isTuple]
          by_cases hl : 1 ≤ ds.length ∧ ds.length ≤ 16
          · have b1 : (1 : Int) ≤ (ds.length : Int) := by omega
            have b2 : (ds.length : Int) ≤ 16 := by omega
            simp [b1, b2]
            show R1 _ _ _
            subst hR1
            refine s_hide fun R1 hR1 => ?_
            have ew : webB (.tup [.int n, .tup ds]) = (ds.all (doorB n) && asc (ds.map uD)) := by
              unfold webB
              simp only [decide_eq_true (And.intro n2 n8), decide_eq_true hl, Bool.true_and]
            rw [ew] at h
            refine sFor_al ds (fun d => d) (fun i e N => N = M ∧ (∃ d1, e = [some (.tup [.int n, .tup ds]), d1]) ∧ (ds.take i).all (doorB n) = true) (w := ⟨ds, fun _ => True⟩) (fun R r => ?_) (by simp) ⟨rfl, ⟨_, rfl⟩, rfl⟩ (fun _ _ _ _ _ => trivial) (fun i d e N hd hi ⟨hN, ⟨d1, he⟩, ha⟩ => ?_) (fun e N ⟨hN, ⟨d1, he⟩, ha⟩ => ?_)
            · simpa using r
            · have hN := hN.symm
              subst hN he
              have hdm := List.mem_of_getElem? hd
              have bad : doorB n d = false → Q (.bl false) M := fun z => by
                have : ds.all (doorB n) = false := by
                  rw [Bool.eq_false_iff]
                  intro c
                  rw [List.all_eq_true.mp c d hdm] at z
                  cases z
                rw [this] at h
                exact h
              have good : doorB n d = true → (ds.take (i + 1)).all (doorB n) = true := fun z => by
                rw [List.take_succ, List.all_append, ha, hd]
                simpa using z
              simp [p_are_between]
              refine ⟨okvs_mem oky.2 d hdm, ?_⟩
              by_cases q1 : areB 0 (n - 1) d = true
              · obtain ⟨zs, rfl⟩ : ∃ zs, d = .tup zs := by
                  unfold areB at q1
                  split at q1
                  · exact ⟨_, rfl⟩
                  · cases q1
                rw [q1]
                refine .inr ⟨rfl, ?_⟩
                by_cases l3 : zs.length = 2
                · obtain ⟨u, v, rfl⟩ : ∃ u v, zs = [u, v] := by
                    match zs, l3 with
                    | [u, v], _ => exact ⟨u, v, rfl⟩
                  have q2 : btw 0 (n - 1) u = true ∧ btw 0 (n - 1) v = true := by
                    unfold areB at q1
                    simpa using q1
                  obtain ⟨k1, rfl⟩ : ∃ k, u = .int k := by
                    have := q2.1
                    unfold btw at this
                    split at this
                    · exact ⟨_, rfl⟩
                    · cases this
                  obtain ⟨k2, rfl⟩ : ∃ k, v = .int k := by
                    have := q2.2
                    unfold btw at this
                    split at this
                    · exact ⟨_, rfl⟩
                    · cases this
                  have q3 : (0 ≤ k1 ∧ k1 ≤ n - 1) ∧ 0 ≤ k2 ∧ k2 ≤ n - 1 := by simpa [btw] using q2
                  simp
                  by_cases c : k1 < k2
                  · have : ¬ k2 ≤ k1 := by omega
                    simp [this]
                    exact List.all_eq_true.mp (good (decide_eq_true (by omega)))
                  · have c' : k2 ≤ k1 := by omega
                    simp [c']
                    exact bad (decide_eq_false (by omega))
                · have l4 : ¬ ((zs.length : Int) = 2) := by omega
                  simp [l4]
                  refine bad ?_
                  unfold doorB
                  split
                  · rename_i z
                    cases z
                    exact absurd rfl l3
                  · rfl
              · have q1 := Bool.eq_false_iff.mpr q1
                rw [q1]
                refine .inl ⟨rfl, bad ?_⟩
                unfold doorB
                split
                · unfold areB at q1
                  simp [btw] at q1
                  exact decide_eq_false (by omega)
                · rfl
            · have hN := hN.symm
              subst hN he
              rw [List.take_length] at ha
              rw [ha, Bool.true_and] at h
              subst hR1
              simp
              exact pr1_at.mpr (.inl ⟨ds.map uD, by rw [← doors_ex ha], by rw [List.length_map]; omega, h⟩)
          · have ew : webB (.tup [.int n, .tup ds]) = false := by
              unfold webB
              simp only [decide_eq_false hl, Bool.and_false, Bool.false_and]
            rw [ew] at h
            by_cases q : 1 ≤ ds.length
            · have b1 : (1 : Int) ≤ (ds.length : Int) := by omega
              have b2 : ¬ (ds.length : Int) ≤ 16 := by omega
              have b3 : (16 : Int) < (ds.length : Int) := by omega
              simp [b1, b2, b3]
              exact h
            · have b1 : ¬ (1 : Int) ≤ (ds.length : Int) := by omega
              simp [b1]
              exact h
        | _ => simp [isTuple, webB] at h ⊢; exact h
    · have e : webB (.tup xs) = false := by
        unfold webB
        split
        · rename_i z
          cases z
          exact absurd rfl l2
        · rfl
      rw [e] at h
      have l3 : ¬ ((xs.length : Int) = 2) := by omega
      simp [l3]
      exact h
  | _ => simp [isTuple, webB] at h ⊢; exact h
end K53
namespace K53
open PySem PySem.Spec L2 VL
abbrev N_check_web : List Str := ["web"]
abbrev P_check_web : List Str := ["web"]
theorem sc_check_web : FnScope N_check_web P_check_web (defScope s_check_web) := ⟨rfl, rfl, rfl, by decide +kernel, rfl, by decide +kernel, by decide +kernel⟩
def p_check_web : VSp := pr1 fun a M Q => ∃ n ds, a = webD n ds ∧ WebOk n ds ∧ Q .non M
theorem ok_check_web {P : Program} {w : World} {K : PySem.W.Frag} {mg : Str → Option Value} {base : Heap} (hD : Df K mg "check_web" s_check_web) (hB : Fr mg bl) (k_is_web : Kn P w K mg base 4 "is_web" P_is_web p_is_web) : Kn P w K mg base 5 "check_web" P_check_web p_check_web := by
  have S := sc_check_web
  refine kn_of hD sc_check_web (fun _ _ _ _ _ _ us hl => match us, hl with | [_], _ => rfl) pr1_len ?_
  intro f cdv A outer s H E hr
  refine ⟨_, (vss_one (vs_if (t_not (t_val (v_callK k_is_web hr (va_cons (v_var (pv 0)) va_nil)))) vss_never vss_nil)), ?_⟩
  clear hr S
  rintro _ M Q ⟨x0, rfl, h⟩
  rw [show vstart N_check_web.length [x0] = [some x0] from rfl]
  obtain ⟨n, ds, rfl, ok, h⟩ := h
  simp [p_is_web]
  exact ⟨web_ok ok, by rw [web_iff.mpr ok]; simpa using h⟩
def fullDs (n : Nat) : List (Int × Int) := ((List.range n).map fun i => (List.range (n - 1 - i)).map fun j => (((i : Nat) : Int), ((i : Nat) : Int) + 1 + ((j : Nat) : Int))).flatten
def Nums (n : Nat) (ns : List Int) : Prop := ns.length = n ∧ ∀ k ∈ ns, -1000000000 ≤ k ∧ k ≤ 1000000000
theorem ints_ok {M : Mem} {ns : List Int} (h : ns.length < 1000) : Okv M (.tup (ns.map D.int)) := by
  unfold Okv
  refine ⟨by rw [List.length_map]; omega, okvs_of fun x hx => ?_⟩
  obtain ⟨i, _, rfl⟩ := List.mem_map.mp hx
  unfold Okv; trivial
theorem area_of {lo hi : Int} {ns : List Int} (h : ∀ k ∈ ns, lo ≤ k ∧ k ≤ hi) : areB lo hi (.tup (ns.map D.int)) = true := by
  simp only [areB, List.all_map, List.all_eq_true, Function.comp_def, btw, Bool.and_eq_true, decide_eq_true_eq]
  exact h
abbrev N_check_numbers : List Str := ["web", "numbers"]
abbrev P_check_numbers : List Str := ["web", "numbers"]
theorem sc_check_numbers : FnScope N_check_numbers P_check_numbers (defScope s_check_numbers) := ⟨rfl, rfl, rfl, by decide +kernel, rfl, by decide +kernel, by decide +kernel⟩
def p_check_numbers : VSp := pr2 fun a b M Q => ∃ n ds ns, a = webD n ds ∧ b = .tup (ns.map D.int) ∧ WebOk n ds ∧ Nums ds.length ns ∧ Q .non M
theorem ok_check_numbers {P : Program} {w : World} {K : PySem.W.Frag} {mg : Str → Option Value} {base : Heap} (hD : Df K mg "check_numbers" s_check_numbers) (hB : Fr mg bl) {t_MOST_ENTRY : Tok} (i_MOST_ENTRY : mg "MOST_ENTRY" = some (.int 1000000000 t_MOST_ENTRY)) (k_check_web : Kn P w K mg base 5 "check_web" P_check_web p_check_web) (k_are_between : Kn P w K mg base 3 "are_between" P_are_between p_are_between) : Kn P w K mg base 6 "check_numbers" P_check_numbers p_check_numbers := by
  have S := sc_check_numbers
  refine kn_of hD sc_check_numbers (fun _ _ _ _ _ _ us hl => match us, hl with | [_, _], _ => rfl) pr2_len ?_
  intro f cdv A outer s H E hr
  refine ⟨_, (vss_cons (vs_expr (v_callK k_check_web hr (va_cons (v_var (pv 0)) va_nil))) (vss_one (vs_if (t_pw (t_or (t_not (t_val (v_callK k_are_between hr (va_cons (v_var (pv 1)) (va_cons (v_op o_sub v_int (v_gint i_MOST_ENTRY ⟨_, rfl⟩)) (va_cons (v_gint i_MOST_ENTRY ⟨_, rfl⟩) va_nil)))))) (t_or1 (t_cmp (o_ne hr.r) (v_callB c_len (hB _ (by decide +kernel)) (va_cons (v_var (pv 1)) va_nil)) (v_callB c_len (hB _ (by decide +kernel)) (va_cons (v_ix (v_var (pv 0)) v_int) va_nil)) (nomark _))))) vss_never vss_nil))), ?_⟩
  clear hr S
  rintro _ M Q ⟨x0, x1, rfl, h⟩
  rw [show vstart N_check_numbers.length [x0, x1] = [some x0, some x1] from rfl]
  obtain ⟨n, ds, ns, rfl, rfl, ok, hn, h⟩ := h
  refine s_hide fun R1 hR1 => ?_
  simp
  refine pr1_at.mpr ⟨n, ds, rfl, ok, ?_⟩
  subst hR1
  have l1 : (ns.length : Int) = (ds.length : Int) := by rw [hn.1]
  simp [webD]
  refine pr3_at.mpr ⟨_, _, ints_ok (by rw [hn.1]; have := ok.2.2.2.1; omega), rfl, rfl, ?_⟩
  rw [area_of hn.2]
  simp [l1]
  exact h
def addAt (xs : List Int) (i k : Int) : List Int := xs.set i.toNat (xs.getD i.toNat 0 + k)
def stepW (xs : List Int) (p : (Int × Int) × Int) : List Int := addAt (addAt xs p.1.1 p.2) p.1.2 p.2
def sumsW (n : Int) (ds : List (Int × Int)) (ns : List Int) : List Int := (ds.zip ns).foldl stepW (List.replicate n.toNat 0)
theorem g_hide {g : VTG} {d : D} {e : VEnv} {M : Mem} {A B : VTS} {D' : VEnds} (h : ∀ R, R = B → g d e M fun e2 M2 => sSeq A R D' e2 M2) : g d e M fun e2 M2 => sSeq A B D' e2 M2 := h B rfl
theorem ixW {n : Nat} {i : Int} (h : 0 ≤ i) (hl : i < n) : ixN n i = some i.toNat := by
  have g := ixN_lt (n := n) (j := i.toNat) (by omega)
  rw [show ((i.toNat : Nat) : Int) = i by omega] at g
  exact g
theorem setW {X : List Int} {i : Nat} {k : Int} : (X.map D.int).set i (.int k) = (X.set i k).map D.int := List.map_set.symm
theorem addAt_len {xs : List Int} {i k : Int} : (addAt xs i k).length = xs.length := by simp [addAt]
theorem foldW_len : ∀ (zs : List ((Int × Int) × Int)) (xs : List Int), (zs.foldl stepW xs).length = xs.length
  | [], _ => rfl
  | z :: zs, xs => by rw [List.foldl_cons, foldW_len zs]; unfold stepW; rw [addAt_len, addAt_len]
theorem atW {X : List Int} {i : Int} (h : 0 ≤ i) (hl : i < X.length) : L2.atI (X.map D.int) i = some (.int (X.getD i.toNat 0)) := by
  have e : i = ((i.toNat : Nat) : Int) := by omega
  have hl : i.toNat < X.length := by omega
  have g : L2.atI (X.map D.int) ((i.toNat : Nat) : Int) = some (.int (X.getD i.toNat 0)) := by
    rw [atI_k, List.getElem?_map, List.getElem?_eq_getElem hl, List.getD_eq_getElem?_getD, List.getElem?_eq_getElem hl]
    rfl
  rw [← e] at g
  exact g
abbrev N_sums_at : List Str := ["web", "numbers", "found", "one", "other", "number"]
abbrev P_sums_at : List Str := ["web", "numbers"]
theorem sc_sums_at : FnScope N_sums_at P_sums_at (defScope s_sums_at) := ⟨rfl, rfl, rfl, by decide +kernel, rfl, by decide +kernel, by decide +kernel⟩
def p_sums_at : VSp := pr2 fun a b M Q => ∃ n ds ns, a = webD n ds ∧ b = .tup (ns.map D.int) ∧ WebOk n ds ∧ Nums ds.length ns ∧ ∀ p, M p = none → Q (.obj p) (mupd M p (.lst ((sumsW n ds ns).map D.int)))
theorem ok_sums_at {P : Program} {w : World} {K : PySem.W.Frag} {mg : Str → Option Value} {base : Heap} (hD : Df K mg "sums_at" s_sums_at) (hB : Fr mg bl) : Kn P w K mg base 1 "sums_at" P_sums_at p_sums_at := by
  have S := sc_sums_at
  refine kn_ofD hD sc_sums_at (fun _ _ _ _ _ _ us hl => match us, hl with | [_, _], _ => rfl) pr2_len ?_
  intro f cdv A outer s H E hr
  refine ⟨_, (vss_cons (vs_set (i := 2) S.nd rfl (Or.inl rfl) (v_op o_repO (v_lst (va_cons v_int va_nil)) (v_ix (v_var (pv 0)) v_int))) (vss_cons (vs_for PassesOwn.never rfl (vi_zip (hB _ (by decide +kernel)) (va_cons (v_ix (v_var (pv 0)) v_int) (va_cons (v_var (pv 1)) va_nil))) (vg_tup (n := 2) rfl (vgs_cons (vg_tup (n := 2) rfl (vgs_cons (vg_name (pg_name (i := 3) S.nd rfl (by first | exact Or.inl rfl | exact Or.inr rfl))) (vgs_cons (vg_name (pg_name (i := 4) S.nd rfl (by first | exact Or.inl rfl | exact Or.inr rfl))) vgs_nil))) (vgs_cons (vg_name (pg_name (i := 5) S.nd rfl (by first | exact Or.inl rfl | exact Or.inr rfl))) vgs_nil))) (vss_cons (vs_asg (v_op o_add (v_ix (v_var (pv 2)) (v_var (pv 3))) (v_var (pv 5))) (vg_subL (v_var (pv 2)) (v_var (pv 3)))) (vss_one (vs_asg (v_op o_add (v_ix (v_var (pv 2)) (v_var (pv 4))) (v_var (pv 5))) (vg_subL (v_var (pv 2)) (v_var (pv 4))))))) (vss_one (vs_ret (v_var (pv 2)))))), ?_⟩
  clear hr S
  rintro _ M Q ⟨x0, x1, rfl, h⟩
  rw [show vstart N_sums_at.length [x0, x1] = [some x0, some x1, none, none, none, none] from rfl]
  obtain ⟨n, ds, ns, rfl, rfl, ok, hn, h⟩ := h
  obtain ⟨n2, n8, d1, d16, hd, _⟩ := id ok
  have sz := size1000
  refine s_hide fun R1 hR1 => ?_
  simp [webD]
  have tn : n.toNat ≤ 8 := by omega
  refine (show oRepO _ _ _ _ from ⟨[.int 0], n, rfl, rfl, by omega, by omega, by simp; omega, fun p hp => ?_⟩)
  rw [show (List.replicate n.toNat [D.int 0]).flatten = (List.replicate n.toNat (0 : Int)).map D.int by rw [List.map_replicate]; induction n.toNat with
    | zero => rfl
    | succ k ih => rw [List.replicate_succ, List.flatten_cons, ih]; rfl]
  subst hR1
  refine s_hide fun R1 hR1 => ?_
  refine sFor_al (ds.zip ns) (fun z => .tup [dD z.1, .int z.2]) (fun i e N => N = mupd M p (.lst ((((ds.zip ns).take i).foldl stepW (List.replicate n.toNat 0)).map D.int)) ∧ ∃ d3 d4 d5, e = [some (webD n ds), some (.tup (ns.map D.int)), some (.obj p), d3, d4, d5]) (w := ⟨zipD (ds.map dD) (ns.map D.int), fun _ => True⟩) (fun R r => ?_) ?_ ⟨rfl, _, _, _, rfl⟩ (fun _ _ _ _ _ => trivial) (fun i z e N hz hi ⟨hN, d3, d4, d5, he⟩ => ?_) (fun e N ⟨hN, d3, d4, d5, he⟩ => ?_)
  · simp [webD, -List.map_replicate]
    exact ⟨_, _, ⟨rfl, rfl⟩, _, _, .inr ⟨rfl, rfl, r⟩⟩
  · simp [zipD, List.zip_map]
  · subst hN he
    obtain ⟨⟨a, b⟩, k⟩ := z
    have ha := hd _ (List.of_mem_zip (List.mem_of_getElem? hz)).1
    have nx : ((ds.zip ns).take (i + 1)).foldl stepW (List.replicate n.toNat 0) = addAt (addAt (((ds.zip ns).take i).foldl stepW (List.replicate n.toNat 0)) a k) b k := by
      rw [List.take_succ, hz, List.foldl_append]
      rfl
    have xl := foldW_len ((ds.zip ns).take i) (List.replicate n.toNat 0)
    rw [List.length_replicate] at xl
    generalize ((ds.zip ns).take i).foldl stepW (List.replicate n.toNat 0) = X at nx xl ⊢
    simp only [nx]
    simp only at ha
    have x1 := atW (X := X) (i := a) (by omega) (by omega)
    have x2 := atW (X := addAt X a k) (i := b) (by omega) (by rw [addAt_len]; omega)
    refine g_hide fun R2 hR2 => ?_
    simp [dD]
    refine ⟨_, x1, a.toNat, ixW (by omega) (by omega), ?_⟩
    rw [setW, ← addAt]
    subst hR2
    simp
    refine ⟨_, x2, b.toNat, ixW (by omega) (by rw [addAt_len]; omega), ?_⟩
    rw [setW, ← addAt]
  · subst hN he
    subst hR1
    rw [List.take_length]
    simp
    exact ⟨_, VL.Sub.refl, h p hp⟩
end K53
namespace K53
open PySem PySem.Spec L2 VL
/-- the first question of a judge: two or three things in a tuple, a text ahead -/
theorem s_shape23 {i : Nat} {e : VEnv} {M : Mem} {d : D} {D' : VEnds} (hv : e[i]? = some (some d)) (ok : Okv M d) (no : ((∀ w b, d ≠ .tup [.str w, b]) ∧ ∀ w b c, d ≠ .tup [.str w, b, c]) → D'.rt (.bl false) M) (one : ∀ w b, d = .tup [.str w, b] → Okv M b → D'.nx e M) (three : ∀ w b c, d = .tup [.str w, b, c] → Okv M b → Okv M c → D'.nx e M) :
    sIf (vOrT (vNotT (vTest (vIsi "tuple" (vVar i)))) (vOrT (vTest (vOp oNotIn (vCall VL.rLen (vaCons (vVar i) vaNil)) (vTup (vaCons (vC (D.int 2)) (vaCons (vC (D.int 3)) vaNil))))) (vNotT (vTest (vIsi "str" (vOp oIx (vVar i) (vC (D.int 0)))))))) (sRet (vC (D.bl false))) sNext D' e M := by
  simp only [sIf, vOrT, vNotT, vTest]
  refine isi_tuple d (fun R r => ⟨d, hv, r⟩) ok ⟨_, rfl, ?_⟩
  cases d with
  | tup xs =>
    unfold Okv at ok
    simp only [isTuple, Bool.not_true, if_neg (show ¬ (false = true) by decide)]
    have nin : ∀ (A : VL.VK), A (.bl (!(xs.length == 2 || xs.length == 3))) M → vOp oNotIn (vCall VL.rLen (vaCons (vVar i) vaNil)) (vTup (vaCons (vC (D.int 2)) (vaCons (vC (D.int 3)) vaNil))) e M A := fun A q => by
      have sz := size1000
      refine ⟨_, hv, _, rfl, (show 2 ≤ sizeLine by omega), [D.int 2, D.int 3], rfl, sh_int, fun z hz => ?_, ?_⟩
      · simp only [List.mem_cons, List.not_mem_nil, or_false] at hz
        rcases hz with rfl | rfl <;> exact sh_int
      · have e1 : inD (.int (xs.length : Nat)) [D.int 2, D.int 3] = (xs.length == 2 || xs.length == 3) := by
          unfold inD
          rw [List.any_cons, List.any_cons, List.any_nil, eqD_int, eqD_int, Bool.or_false]
          have h1 : decide ((2 : Int) = (xs.length : Int)) = (xs.length == 2) := by rw [Bool.eq_iff_iff, decide_eq_true_eq, beq_iff_eq]; omega
          have h2 : decide ((3 : Int) = (xs.length : Int)) = (xs.length == 3) := by rw [Bool.eq_iff_iff, decide_eq_true_eq, beq_iff_eq]; omega
          rw [h1, h2]
        rw [e1]
        exact q
    refine nin _ ⟨_, rfl, ?_⟩
    have str0 : ∀ (a : D) (rest : List D), xs = a :: rest → (isStr a = false → D'.rt (.bl false) M) → (∀ w, a = .str w → D'.nx e M) → vIsi "str" (vOp oIx (vVar i) (vC (D.int 0))) e M fun x M1 => ∃ k, x = .bl k ∧ if (!k) = true then sRet (vC (D.bl false)) D' e M1 else sNext D' e M1 := fun a rest hx n1 n2 => by
      subst hx
      refine isi_str a (fun R r => ⟨_, hv, a, by rw [atI_0] <;> rfl, r⟩) (okvs_mem ok.2 a List.mem_cons_self) ⟨_, rfl, ?_⟩
      cases a with
      | str w => exact n2 w rfl
      | _ => exact n1 rfl
    match xs, no, one, three, str0, ok with
    | [], no, _, _, _, _ => exact no ⟨fun w b h => (by cases h), fun w b c h => (by cases h)⟩
    | [a], no, _, _, _, _ =>
      have l1 : (([a] : List D).length == 2 || ([a] : List D).length == 3) = false := by simp
      rw [l1]
      exact no ⟨fun w b h => (by cases h), fun w b c h => (by cases h)⟩
    | [a, b], no, one, _, str0, ok =>
      refine str0 a [b] rfl (fun ha => no ⟨fun w b h => ?_, fun w b c h => (by cases h)⟩) fun w ha => one w b (by rw [ha]) (okvs_mem ok.2 b (List.mem_cons_of_mem _ List.mem_cons_self))
      cases h
      cases ha
    | [a, b, c], no, _, three, str0, ok =>
      refine str0 a [b, c] rfl (fun ha => no ⟨fun w b h => (by cases h), fun w b c h => ?_⟩) fun w ha => three w b c (by rw [ha]) (okvs_mem ok.2 b (List.mem_cons_of_mem _ List.mem_cons_self)) (okvs_mem ok.2 c (List.mem_cons_of_mem _ (List.mem_cons_of_mem _ List.mem_cons_self)))
      cases h
      cases ha
    | a :: b :: c :: x :: r, no, _, _, _, _ =>
      have l1 : ((a :: b :: c :: x :: r).length == 2 || (a :: b :: c :: x :: r).length == 3) = false := by simp
      rw [l1]
      exact no ⟨fun w b h => (by cases h), fun w b c h => (by cases h)⟩
  | _ => exact no ⟨fun w b h => (by cases h), fun w b c h => (by cases h)⟩
theorem sumsW_len {n : Int} {ds : List (Int × Int)} {ns : List Int} : (sumsW n ds ns).length = n.toNat := by
  unfold sumsW
  rw [foldW_len, List.length_replicate]
abbrev N_room_sums : List Str := ["web", "numbers"]
abbrev P_room_sums : List Str := ["web", "numbers"]
theorem sc_room_sums : FnScope N_room_sums P_room_sums (defScope s_room_sums) := ⟨rfl, rfl, rfl, by decide +kernel, rfl, by decide +kernel, by decide +kernel⟩
def p_room_sums : VSp := pr2 fun a b M Q => ∃ n ds ns, a = webD n ds ∧ b = .tup (ns.map D.int) ∧ WebOk n ds ∧ Nums ds.length ns ∧ Q (.tup ((sumsW n ds ns).map D.int)) M
theorem ok_room_sums {P : Program} {w : World} {K : PySem.W.Frag} {mg : Str → Option Value} {base : Heap} (hD : Df K mg "room_sums" s_room_sums) (hB : Fr mg bl) (k_check_numbers : Kn P w K mg base 6 "check_numbers" P_check_numbers p_check_numbers) (k_sums_at : Kn P w K mg base 1 "sums_at" P_sums_at p_sums_at) : Kn P w K mg base 7 "room_sums" P_room_sums p_room_sums := by
  have S := sc_room_sums
  refine kn_ofD hD sc_room_sums (fun _ _ _ _ _ _ us hl => match us, hl with | [_, _], _ => rfl) pr2_len ?_
  intro f cdv A outer s H E hr
  refine ⟨_, (vss_cons (vs_expr (v_callK k_check_numbers hr (va_cons (v_var (pv 0)) (va_cons (v_var (pv 1)) va_nil)))) (vss_one (vs_ret (v_callTy c_tuple (hB _ (by decide +kernel)) (va_cons (v_callK k_sums_at hr (va_cons (v_var (pv 0)) (va_cons (v_var (pv 1)) va_nil))) va_nil))))), ?_⟩
  clear hr S
  rintro _ M Q ⟨x0, x1, rfl, h⟩
  rw [show vstart N_room_sums.length [x0, x1] = [some x0, some x1] from rfl]
  obtain ⟨n, ds, ns, rfl, rfl, ok, hn, h⟩ := h
  refine s_hide fun R1 hR1 => ?_
  simp
  refine pr2_at.mpr ⟨n, ds, ns, rfl, rfl, ok, hn, ?_⟩
  subst hR1
  simp
  refine pr2_at.mpr ⟨n, ds, ns, rfl, rfl, ok, hn, fun p hp => ?_⟩
  exact ⟨(sumsW n ds ns).map D.int, VL.asL_obj mupd_same, _, VL.Sub.new hp, h⟩
/-- the rooms unlike the first -/
def farW (S : List Int) : List Nat := (List.range S.length).filter fun r => !decide (S.getD r 0 = S.getD 0 0)
def toldW (S : List Int) : D := if farW S = [] then .tup [.str "sum", .int (S.getD 0 0)] else .tup [.str "rooms", .int 0, .int (((farW S).headD 0 : Nat) : Int)]
abbrev N_alike_told : List Str := ["web", "numbers", "found", "other", "room"]
abbrev P_alike_told : List Str := ["web", "numbers"]
theorem sc_alike_told : FnScope N_alike_told P_alike_told (defScope s_alike_told) := ⟨rfl, rfl, rfl, by decide +kernel, rfl, by decide +kernel, by decide +kernel⟩
def p_alike_told : VSp := pr2 fun a b M Q => ∃ n ds ns, a = webD n ds ∧ b = .tup (ns.map D.int) ∧ WebOk n ds ∧ Nums ds.length ns ∧ Q (toldW (sumsW n ds ns)) M
theorem ok_alike_told {P : Program} {w : World} {K : PySem.W.Frag} {mg : Str → Option Value} {base : Heap} (hD : Df K mg "alike_told" s_alike_told) (hB : Fr mg bl) {t_ROOMS : Tok} (i_ROOMS : mg "ROOMS" = some (.str "rooms" t_ROOMS)) {t_SUM : Tok} (i_SUM : mg "SUM" = some (.str "sum" t_SUM)) (k_check_numbers : Kn P w K mg base 6 "check_numbers" P_check_numbers p_check_numbers) (k_sums_at : Kn P w K mg base 1 "sums_at" P_sums_at p_sums_at) : Kn P w K mg base 7 "alike_told" P_alike_told p_alike_told := by
  have S := sc_alike_told
  refine kn_ofD hD sc_alike_told (fun _ _ _ _ _ _ us hl => match us, hl with | [_, _], _ => rfl) pr2_len ?_
  intro f cdv A outer s H E hr
  refine ⟨_, (vss_cons (vs_expr (v_callK k_check_numbers hr (va_cons (v_var (pv 0)) (va_cons (v_var (pv 1)) va_nil)))) (vss_cons (vs_set (i := 2) S.nd rfl (Or.inr rfl) (v_callK k_sums_at hr (va_cons (v_var (pv 0)) (va_cons (v_var (pv 1)) va_nil)))) (vss_cons (vs_setLc (i := 3) (hc := rfl) (hN := S.nd) (hy := rfl) (hyl := rfl) (hsw := sw_true rfl rfl rfl (by decide +kernel))  (own := [("room", 4)]) (vi_range1 (hB _ (by decide +kernel)) (va_cons (v_ix (v_var (pv 0)) v_int) va_nil)) (blkOk_by (by first | rfl | kernel_rfl)) (lcg_name (fun _ _ _ _ _ => pg_name (i := 4) S.nd rfl (by first | exact Or.inl rfl | exact Or.inr rfl))) (fun _ _ _ _ _ => (vts_one (t_cmp (o_ne hr.r) (v_ix (v_var (pv 2)) (v_var (pv 4))) (v_ix (v_var (pv 2)) v_int) (nomark _)))) (fun _ _ _ _ _ => (v_var (pv 4)))) (vss_one (vs_ret (v_if (t_cmp (o_ne hr.r) (v_var (pv 3)) (v_lst va_nil) (nomark _)) (v_tup (va_cons (v_gstr i_ROOMS ⟨_, rfl⟩) (va_cons v_int (va_cons (v_ix (v_var (pv 3)) v_int) va_nil)))) (v_tup (va_cons (v_gstr i_SUM ⟨_, rfl⟩) (va_cons (v_ix (v_var (pv 2)) v_int) va_nil))))))))), ?_⟩
  clear hr S
  rintro _ M Q ⟨x0, x1, rfl, h⟩
  rw [show vstart N_alike_told.length [x0, x1] = [some x0, some x1, none, none, none] from rfl]
  obtain ⟨n, ds, ns, rfl, rfl, ok, hn, h⟩ := h
  refine s_hide fun R1 hR1 => ?_
  simp
  refine pr2_at.mpr ⟨n, ds, ns, rfl, rfl, ok, hn, ?_⟩
  show R1 _ _ _
  subst hR1
  refine s_hide fun R1 hR1 => ?_
  simp
  refine pr2_at.mpr ⟨n, ds, ns, rfl, rfl, ok, hn, fun p hp => ?_⟩
  have Sl := sumsW_len (n := n) (ds := ds) (ns := ns)
  generalize sumsW n ds ns = S at Sl h ⊢
  obtain ⟨n2, n8, _⟩ := id ok
  have sz := size1000
  have Np : mupd M p (.lst (S.map D.int)) p = some (.lst (S.map D.int)) := mupd_same
  have Ns : VL.Sub M (mupd M p (.lst (S.map D.int))) := VL.Sub.new hp
  show R1 _ _ _
  generalize mupd M p (.lst (S.map D.int)) = N at Np Ns ⊢
  subst hR1
  refine s_hide fun R1 hR1 => ?_
  simp [webD]
  have g0 : S[0]? = some (S.getD 0 0) := by rw [List.getD_eq_getElem?_getD, List.getElem?_eq_getElem (by omega)]; rfl
  refine vLc_alF (List.range S.length) (fun i : Nat => .int (0 + ((i : Nat) : Int))) (fun r => !decide (S.getD r 0 = S.getD 0 0)) (fun i : Nat => .int (i : Int)) (w := ⟨rgD 0 n.toNat, fun _ => True⟩) (fun R r => ?_) (by rw [Sl]; rfl) trivial (by rw [List.length_range]; omega) (fun r hr A B hA hB => ?_) ?_
  · simpa [show -4611686018427387904 ≤ n by omega, show n < 4611686018427387904 by omega] using r
  · have hr := List.mem_range.mp hr
    have a1 := atW (X := S) (i := (r : Int)) (by omega) (by omega)
    rw [Int.toNat_natCast] at a1
    simp [vwipe, VL.asL_obj Np]
    refine ⟨_, a1, _, ⟨_, g0, rfl⟩, oNe_int.mpr ?_⟩
    by_cases z : S.getD r 0 = S.getD 0 0
    · have e : (!decide (S.getD r 0 = S.getD 0 0)) = false := by rw [decide_eq_true z]; rfl
      exact .inl ⟨congrArg D.bl e, hB e⟩
    · have e : (!decide (S.getD r 0 = S.getD 0 0)) = true := by rw [decide_eq_false z]; rfl
      exact .inr ⟨congrArg D.bl e, hA e⟩
  · subst hR1
    unfold toldW at h
    rw [show (List.range S.length).filter (fun r => !decide (S.getD r 0 = S.getD 0 0)) = farW S from rfl]
    simp [VL.asL_obj Np]
    have fs : ∀ x ∈ (farW S).map (fun i : Nat => D.int (i : Int)), Sh 29 x := fun x hx => by
      obtain ⟨i, _, rfl⟩ := List.mem_map.mp hx
      exact sh_int
    refine oNe_nil rfl fs ?_
    by_cases z : farW S = []
    · rw [if_pos z] at h
      exact .inl ⟨by rw [z]; rfl, _, VL.asL_obj Np, _, by rw [List.getElem?_map, g0]; rfl, _, Ns, h⟩
    · rw [if_neg z] at h
      refine .inr ⟨?_, _, ⟨_, ?_, rfl⟩, _, Ns, h⟩
      · simp [z]
      · cases e : farW S with
        | nil => exact absurd e z
        | cons a b => rfl
abbrev N_shows_alike : List Str := ["web", "numbers", "value", "found", "one"]
abbrev P_shows_alike : List Str := ["web", "numbers", "value"]
theorem sc_shows_alike : FnScope N_shows_alike P_shows_alike (defScope s_shows_alike) := ⟨rfl, rfl, rfl, by decide +kernel, rfl, by decide +kernel, by decide +kernel⟩
def p_shows_alike : VSp := pr3 fun a b c M Q => ∃ n ds ns, a = webD n ds ∧ b = .tup (ns.map D.int) ∧ c = .non ∧ WebOk n ds ∧ Nums ds.length ns ∧ Q (.bl false) M
theorem ok_shows_alike {P : Program} {w : World} {K : PySem.W.Frag} {mg : Str → Option Value} {base : Heap} (hD : Df K mg "shows_alike" s_shows_alike) (hB : Fr mg bl) {t_THREE_webs : Tok} (i_THREE_webs : mg "THREE_webs" = some (.int 3 t_THREE_webs)) {t_SUM : Tok} (i_SUM : mg "SUM" = some (.str "sum" t_SUM)) {t_ROOMS : Tok} (i_ROOMS : mg "ROOMS" = some (.str "rooms" t_ROOMS)) (k_check_numbers : Kn P w K mg base 6 "check_numbers" P_check_numbers p_check_numbers) (k_sums_at : Kn P w K mg base 1 "sums_at" P_sums_at p_sums_at) (k_is_integer : Kn P w K mg base 1 "is_integer" P_is_integer p_is_integer) (k_are_between : Kn P w K mg base 3 "are_between" P_are_between p_are_between) : Kn P w K mg base 7 "shows_alike" P_shows_alike p_shows_alike := by
  have S := sc_shows_alike
  refine kn_ofD hD sc_shows_alike (fun _ _ _ _ _ _ us hl => match us, hl with | [_, _, _], _ => rfl) pr3_len ?_
  intro f cdv A outer s H E hr
  refine ⟨_, (vss_cons (vs_expr (v_callK k_check_numbers hr (va_cons (v_var (pv 0)) (va_cons (v_var (pv 1)) va_nil)))) (vss_cons (vs_set (i := 3) S.nd rfl (Or.inl rfl) (v_callK k_sums_at hr (va_cons (v_var (pv 0)) (va_cons (v_var (pv 1)) va_nil)))) (vss_cons (vs_if (t_pw (t_or (t_not (t_val (v_isi (T := "tuple") (hB _ (by decide +kernel)) (hB _ (by decide +kernel)) (v_var (pv 2))))) (t_or (t_cmp (o_notIn hr.r) (v_callB c_len (hB _ (by decide +kernel)) (va_cons (v_var (pv 2)) va_nil)) (v_tup (va_cons v_int (va_cons (v_gint i_THREE_webs ⟨_, rfl⟩) va_nil))) (by with_unfolding_all rfl)) (t_or1 (t_not (t_val (v_isi (T := "str") (hB _ (by decide +kernel)) (hB _ (by decide +kernel)) (v_ix (v_var (pv 2)) v_int)))))))) (vss_one (vs_ret v_bl)) vss_nil) (vss_cons (vs_if (t_cmp (o_eq hr.r) (v_callB c_len (hB _ (by decide +kernel)) (va_cons (v_var (pv 2)) va_nil)) v_int (nomark _)) (vss_one (vs_ret (v_and (v_cmp (o_eq hr.r) (v_ix (v_var (pv 2)) v_int) (v_gstr i_SUM ⟨_, rfl⟩) (nomark _)) (v_and (v_callK k_is_integer hr (va_cons (v_ix (v_var (pv 2)) v_int) va_nil)) (v_one (v_callB (c_all rfl) (hB _ (by decide +kernel)) (va_cons (v_lc (own := [("one", 4)]) rfl S.nd (vi_seq (v_var (pv 3))) (blkOk_by (by first | rfl | kernel_rfl)) (lcg_name (fun _ _ _ _ _ => pg_name (i := 4) S.nd rfl (by first | exact Or.inl rfl | exact Or.inr rfl))) (fun _ _ _ _ _ => vts_nil) (fun _ _ _ _ _ => (v_cmp (o_eq hr.r) (v_var (pv 4)) (v_ix (v_var (pv 2)) v_int) (nomark _)))) va_nil))))))) vss_nil) (vss_cons (vs_if (t_pw (t_or (t_cmp (o_ne hr.r) (v_ix (v_var (pv 2)) v_int) (v_gstr i_ROOMS ⟨_, rfl⟩) (nomark _)) (t_or1 (t_not (t_val (v_callK k_are_between hr (va_cons (v_sl (v_var (pv 2)) (vo_some v_int) vo_none) (va_cons v_int (va_cons (v_op o_sub (v_ix (v_var (pv 0)) v_int) v_int) va_nil))))))))) (vss_one (vs_ret v_bl)) vss_nil) (vss_one (vs_ret (v_cmp (o_ne hr.r) (v_ix (v_var (pv 3)) (v_ix (v_var (pv 2)) v_int)) (v_ix (v_var (pv 3)) (v_ix (v_var (pv 2)) v_int)) (nomark _))))))))), ?_⟩
  clear hr S
  rintro _ M Q ⟨x0, x1, x2, rfl, h⟩
  rw [show vstart N_shows_alike.length [x0, x1, x2] = [some x0, some x1, some x2, none, none] from rfl]
  obtain ⟨n, ds, ns, rfl, rfl, rfl, ok, hn, h⟩ := h
  refine s_hide fun R1 hR1 => ?_
  simp
  refine pr2_at.mpr ⟨n, ds, ns, rfl, rfl, ok, hn, ?_⟩
  show R1 _ _ _
  subst hR1
  refine s_hide fun R1 hR1 => ?_
  simp
  refine pr2_at.mpr ⟨n, ds, ns, rfl, rfl, ok, hn, fun q hq => ?_⟩
  show R1 _ _ _
  subst hR1
  refine s_hide fun R1 hR1 => ?_
  simp only [sSeq, sIf, vOrT, vNotT, vTest]
  refine isi_tuple .non (fun R r => ⟨_, rfl, r⟩) (by unfold Okv; trivial) ⟨_, rfl, ?_⟩
  simp [isTuple]
  exact ⟨_, VL.Sub.new hq, h⟩
end K53
namespace K53
open PySem PySem.Spec L2 VL
theorem va_pure {t : VTE} {ts : VTA} {e : VEnv} {M : Mem} {R : List D → Mem → Prop} {d : D} (h : ∀ Q : VL.VK, Q d M → t e M Q) (k : ts e M fun ds M' => R (d :: ds) M') : vaCons t ts e M R := h _ k
def uI : D → Int
  | .int i => i
  | _ => 0
def uL : D → List Int
  | .tup xs => xs.map uI
  | _ => []
theorem uL_int {xs : List Int} : uL (.tup (xs.map D.int)) = xs := by
  unfold uL
  simp only
  rw [List.map_map]
  exact List.map_id _
theorem areB_ex {lo hi : Int} {d : D} (h : areB lo hi d = true) : d = .tup ((uL d).map D.int) ∧ ∀ k ∈ uL d, lo ≤ k ∧ k ≤ hi := by
  unfold areB at h
  split at h
  · rename_i xs
    have hx : ∀ x ∈ xs, x = .int (uI x) ∧ lo ≤ uI x ∧ uI x ≤ hi := fun x hx => by
      have := List.all_eq_true.mp h x hx
      unfold btw at this
      split at this
      · exact ⟨rfl, by simpa [uI] using this⟩
      · cases this
    unfold uL
    simp only
    constructor
    · congr 1
      rw [List.map_map]
      exact (List.map_id xs).symm.trans (List.map_congr_left fun x q => (hx x q).1)
    · intro k hk
      obtain ⟨x, q, rfl⟩ := List.mem_map.mp hk
      exact (hx x q).2
  · cases h
/-- a lot of doors: a tuple of places, rising -/
def lotB (m : Nat) (d : D) : Bool := areB 0 ((m : Int) - 1) d && ascI (uL d)
def fD (z : List Int × List Int) : D := .tup [.tup (z.1.map D.int), .tup (z.2.map D.int)]
def bumpD (xs : List Int) (d : Int × Int) : List Int := addAt (addAt xs d.1 1) d.2 1
def bumpL (ds : List (Int × Int)) (xs : List Int) (lot : List Int) : List Int := lot.foldl (fun xs p => bumpD xs (ds.getD p.toNat (0, 0))) xs
def cntW (n : Int) (ds : List (Int × Int)) (lot : List Int) : List Int := bumpL ds (List.replicate n.toNat 0) lot
def okAt (z : Int × Int) : Bool := (decide (z.1 = 1) && decide (z.2 = 0)) || (decide (z.1 = 0) && decide (z.2 = 2))
def cntOk (n : Int) (ds : List (Int × Int)) (la lb : List Int) : Bool := ((cntW n ds la).zip (cntW n ds lb)).all okAt
def facB (n : Int) (ds : List (Int × Int)) : D → Bool
  | .tup [x, y] => lotB ds.length x && lotB ds.length y && cntOk n ds (uL x) (uL y)
  | _ => false
theorem bumpD_len {xs : List Int} {d : Int × Int} : (bumpD xs d).length = xs.length := by rw [bumpD, addAt_len, addAt_len]
theorem bumpL_len {ds : List (Int × Int)} : ∀ (lot : List Int) (xs : List Int), (bumpL ds xs lot).length = xs.length
  | [], _ => rfl
  | p :: lot, xs => (bumpL_len lot _).trans bumpD_len
theorem oIn_at {a b : Int} {M : Mem} {Q : VL.VK} (q : Q (.bl (okAt (a, b))) M) : oIn (.tup [.int a, .int b]) (.tup [.tup [.int 1, .int 0], .tup [.int 0, .int 2]]) M Q := by
  have s2 : ∀ x y : Int, Sh 30 (.tup [.int x, .int y]) := fun x y => sh_tup fun z hz => by
    simp only [List.mem_cons, List.not_mem_nil, or_false] at hz
    rcases hz with rfl | rfl <;> exact sh_int
  refine ⟨_, rfl, s2 _ _, fun z hz => ?_, ?_⟩
  · simp only [List.mem_cons, List.not_mem_nil, or_false] at hz
    rcases hz with rfl | rfl <;> exact s2 _ _
  · have e : inD (.tup [.int a, .int b]) [.tup [.int 1, .int 0], .tup [.int 0, .int 2]] = okAt (a, b) := by
      have e2 : ∀ x y x' y' : Int, eqD (.tup [.int x, .int y]) (.tup [.int x', .int y']) = (decide (x = x') && decide (y = y')) := fun x y x' y' => by
        rw [show D.tup [.int x, .int y] = .tup ([x, y].map D.int) from rfl, show D.tup [.int x', .int y'] = .tup ([x', y'].map D.int) from rfl, eqD_tup, eqDs_ints]
        simp [Bool.decide_and]
      unfold inD
      simp only [List.any_cons, List.any_nil, Bool.or_false, e2, okAt]
      simp [eq_comm]
    rw [e]
    exact q
theorem door_at {ds : List (Int × Int)} {k : Int} (h0 : 0 ≤ k) (h1 : k ≤ (ds.length : Int) - 1) : L2.atI (ds.map dD) k = some (dD (ds.getD k.toNat (0, 0))) ∧ ds.getD k.toNat (0, 0) ∈ ds := by
  have hl : k.toNat < ds.length := by omega
  have e : ds.getD k.toNat (0, 0) = ds[k.toNat] := by rw [List.getD_eq_getElem?_getD, List.getElem?_eq_getElem hl]; rfl
  refine ⟨?_, by rw [e]; exact List.getElem_mem _⟩
  rw [atI_ge h0, List.getElem?_map, List.getElem?_eq_getElem hl, e]
  rfl
theorem lot_loop {n : Int} {ds : List (Int × Int)} (ok : WebOk n ds) {D' : VEnds} {N : Mem} {v : D} {p q f : Addr} {lot X : List Int} {e6 e7 : Option D} (hk : ∀ k ∈ lot, 0 ≤ k ∧ k ≤ (ds.length : Int) - 1) (hX : X.length = n.toNat) (hN : N f = some (.lst (X.map D.int)))
    (h : ∀ e6 e7, D'.nx [some (webD n ds), some v, some (.obj p), some (.obj q), some (.tup (lot.map D.int)), some (.obj f), e6, e7, none, none] (mupd N f (.lst ((bumpL ds X lot).map D.int)))) :
    sFor (iSeq (vVar 4)) (gN 6) (sFor (iSeq (vOp oIx (vOp oIx (vVar 0) (vC (D.int 1))) (vVar 6))) (gN 7) (sAsg (vOp oAdd (vOp oIx (vVar 5) (vVar 7)) (vC (D.int 1))) (gSubL (vVar 5) (vVar 7)))) D' [some (webD n ds), some v, some (.obj p), some (.obj q), some (.tup (lot.map D.int)), some (.obj f), e6, e7, none, none] N := by
  obtain ⟨n2, n8, d1, d16, hd, _⟩ := id ok
  refine sFor_al lot D.int (fun i e N' => N' = mupd N f (.lst ((bumpL ds X (lot.take i)).map D.int)) ∧ ∃ e6 e7, e = [some (webD n ds), some v, some (.obj p), some (.obj q), some (.tup (lot.map D.int)), some (.obj f), e6, e7, none, none]) (w := ⟨lot.map D.int, fun _ => True⟩) (fun R r => by simpa using r) rfl ⟨by rw [List.take_zero]; exact (mupd_self hN).symm, _, _, rfl⟩ (fun _ _ _ _ _ => trivial) (fun i k e N' hz hi ⟨hN', e6, e7, he⟩ => ?_) (fun e N' ⟨hN', e6, e7, he⟩ => ?_)
  · subst hN' he
    have hkk := hk k (List.mem_of_getElem? hz)
    obtain ⟨da, dm⟩ := door_at hkk.1 hkk.2
    have nx : bumpL ds X (lot.take (i + 1)) = bumpD (bumpL ds X (lot.take i)) (ds.getD k.toNat (0, 0)) := by
      unfold bumpL
      rw [List.take_succ, hz, List.foldl_append]
      rfl
    have xl : (bumpL ds X (lot.take i)).length = n.toNat := (bumpL_len _ _).trans hX
    rw [nx]
    generalize bumpL ds X (lot.take i) = Y at xl ⊢
    generalize ds.getD k.toNat (0, 0) = dd at da dm ⊢
    obtain ⟨a, b⟩ := dd
    have hab := hd _ dm
    simp only at hab
    have x1 := atW (X := Y) (i := a) (by omega) (by omega)
    have x2 := atW (X := addAt Y a 1) (i := b) (by omega) (by rw [addAt_len]; omega)
    simp
    refine sFor_al [a, b] D.int (fun j e N' => N' = mupd N f (.lst ((if j = 0 then Y else if j = 1 then addAt Y a 1 else bumpD Y (a, b)).map D.int)) ∧ ∃ e7, e = [some (webD n ds), some v, some (.obj p), some (.obj q), some (.tup (lot.map D.int)), some (.obj f), some (.int k), e7, none, none]) (w := ⟨[.int a, .int b], fun M' => asI M' (dD (a, b)) = some [.int a, .int b]⟩) (fun R r => ?_) rfl ⟨rfl, _, rfl⟩ (fun _ _ _ _ _ => rfl) (fun j y e N' hz hj ⟨hN', e7, he⟩ => ?_) (fun e N' ⟨hN', e7, he⟩ => ?_)
    · simp [webD]
      exact ⟨_, da, [.int a, .int b], rfl, r⟩
    · subst hN' he
      have j2 : j = 0 ∨ j = 1 := by simp at hj; omega
      rcases j2 with rfl | rfl
      · cases hz
        simp
        exact ⟨_, x1, a.toNat, ixW (by omega) (by omega), by rw [setW, ← addAt]⟩
      · cases hz
        simp
        exact ⟨_, x2, b.toNat, ixW (by omega) (by rw [addAt_len]; omega), by rw [setW, ← addAt]; rfl⟩
    · subst hN' he
      exact ⟨rfl, _, _, rfl⟩
  · subst hN' he
    rw [List.take_length]
    exact h _ _
abbrev N_is_factor_of : List Str := ["web", "value", "pairs", "rings", "lot", "found", "place", "room", "one", "other"]
abbrev P_is_factor_of : List Str := ["web", "value"]
theorem sc_is_factor_of : FnScope N_is_factor_of P_is_factor_of (defScope s_is_factor_of) := ⟨rfl, rfl, rfl, by decide +kernel, rfl, by decide +kernel, by decide +kernel⟩
def p_is_factor_of : VSp := pr2 fun a b M Q => ∃ n ds, a = webD n ds ∧ WebOk n ds ∧ Okv M b ∧ Q (.bl (facB n ds b)) M
theorem ok_is_factor_of {P : Program} {w : World} {K : PySem.W.Frag} {mg : Str → Option Value} {base : Heap} (hD : Df K mg "is_factor_of" s_is_factor_of) (hB : Fr mg bl) (k_are_between : Kn P w K mg base 3 "are_between" P_are_between p_are_between) (k_is_ascending : Kn P w K mg base 1 "is_ascending" P_is_ascending p_is_ascending) : Kn P w K mg base 4 "is_factor_of" P_is_factor_of p_is_factor_of := by
  have S := sc_is_factor_of
  refine kn_ofD hD sc_is_factor_of (fun _ _ _ _ _ _ us hl => match us, hl with | [_, _], _ => rfl) pr2_len ?_
  intro f cdv A outer s H E hr
  refine ⟨_, (vss_cons (vs_if (t_pw (t_or (t_not (t_val (v_isi (T := "tuple") (hB _ (by decide +kernel)) (hB _ (by decide +kernel)) (v_var (pv 1))))) (t_or1 (t_cmp (o_ne hr.r) (v_callB c_len (hB _ (by decide +kernel)) (va_cons (v_var (pv 1)) va_nil)) v_int (nomark _))))) (vss_one (vs_ret v_bl)) vss_nil) (vss_cons (vs_if (t_not (t_val (v_callB (c_all rfl) (hB _ (by decide +kernel)) (va_cons (v_lc (own := [("lot", 4)]) rfl S.nd (vi_seq (v_var (pv 1))) (blkOk_by (by first | rfl | kernel_rfl)) (lcg_name (fun _ _ _ _ _ => pg_name (i := 4) S.nd rfl (by first | exact Or.inl rfl | exact Or.inr rfl))) (fun _ _ _ _ _ => vts_nil) (fun _ _ _ _ _ => (v_and (v_callK k_are_between hr (va_cons (v_var (pv 4)) (va_cons v_int (va_cons (v_op o_sub (v_callB c_len (hB _ (by decide +kernel)) (va_cons (v_ix (v_var (pv 0)) v_int) va_nil)) v_int) va_nil)))) (v_one (v_callK k_is_ascending hr (va_cons (v_var (pv 4)) va_nil)))))) va_nil)))) (vss_one (vs_ret v_bl)) vss_nil) (vss_cons (vs_par (i := 2) (j := 3) rfl S.nd rfl rfl (by decide) rfl rfl (va_cons (v_op o_repO (v_lst (va_cons v_int va_nil)) (v_ix (v_var (pv 0)) v_int)) (va_cons (v_op o_repO (v_lst (va_cons v_int va_nil)) (v_ix (v_var (pv 0)) v_int)) va_nil)) (by rfl)) (vss_cons (vs_for PassesOwn.never rfl (vi_zip (hB _ (by decide +kernel)) (va_cons (v_var (pv 1)) (va_cons (v_tup (va_cons (v_var (pv 2)) (va_cons (v_var (pv 3)) va_nil))) va_nil))) (vg_tup (n := 2) rfl (vgs_cons (vg_name (pg_name (i := 4) S.nd rfl (by first | exact Or.inl rfl | exact Or.inr rfl))) (vgs_cons (vg_name (pg_name (i := 5) S.nd rfl (by first | exact Or.inl rfl | exact Or.inr rfl))) vgs_nil))) (vss_one (vs_for PassesOwn.never rfl (vi_seq (v_var (pv 4))) (vg_name (pg_name (i := 6) S.nd rfl (by first | exact Or.inl rfl | exact Or.inr rfl))) (vss_one (vs_for PassesOwn.never rfl (vi_seq (v_ix (v_ix (v_var (pv 0)) v_int) (v_var (pv 6)))) (vg_name (pg_name (i := 7) S.nd rfl (by first | exact Or.inl rfl | exact Or.inr rfl))) (vss_one (vs_asg (v_op o_add (v_ix (v_var (pv 5)) (v_var (pv 7))) v_int) (vg_subL (v_var (pv 5)) (v_var (pv 7)))))))))) (vss_one (vs_ret (v_callB (c_all rfl) (hB _ (by decide +kernel)) (va_cons (v_lc (own := [("one", 8), ("other", 9)]) rfl S.nd (vi_zip (hB _ (by decide +kernel)) (va_cons (v_var (pv 2)) (va_cons (v_var (pv 3)) va_nil))) (blkOk_by (by first | rfl | kernel_rfl)) (lcg_tup (n := 2) rfl (lcgs_cons (lcg_name (fun _ _ _ _ _ => pg_name (i := 8) S.nd rfl (by first | exact Or.inl rfl | exact Or.inr rfl))) (lcgs_cons (lcg_name (fun _ _ _ _ _ => pg_name (i := 9) S.nd rfl (by first | exact Or.inl rfl | exact Or.inr rfl))) lcgs_nil))) (fun _ _ _ _ _ => vts_nil) (fun _ _ _ _ _ => (v_cmp (o_in hr.r) (v_tup (va_cons (v_var (pv 8)) (va_cons (v_var (pv 9)) va_nil))) (v_tup (va_cons (v_tup (va_cons v_int (va_cons v_int va_nil))) (va_cons (v_tup (va_cons v_int (va_cons v_int va_nil))) va_nil))) (by with_unfolding_all rfl)))) va_nil)))))))), ?_⟩
  clear hr S
  rintro _ M Q ⟨x0, x1, rfl, h⟩
  rw [show vstart N_is_factor_of.length [x0, x1] = [some x0, some x1, none, none, none, none, none, none, none, none] from rfl]
  obtain ⟨n, ds, rfl, ok, ov, h⟩ := h
  obtain ⟨n2, n8, d1, d16, hd, _⟩ := id ok
  have sz := size1000
  refine s_hide fun R1 hR1 => ?_
  simp only [sSeq, sIf, vOrT, vNotT, vTest]
  refine isi_tuple x1 (fun R r => ⟨x1, rfl, r⟩) ov ⟨_, rfl, ?_⟩
  cases x1 with
  | tup xs =>
    have okx := okvs_mem ov.2
    simp [isTuple]
    by_cases l2 : xs.length = 2
    · obtain ⟨x, y, rfl⟩ : ∃ x y, xs = [x, y] := by
        match xs, l2 with
        | [x, y], _ => exact ⟨x, y, rfl⟩
      simp
      show R1 _ _ _
      subst hR1
      refine s_hide fun R1 hR1 => ?_
      simp
      refine vLc_al [x, y] (fun d => d) (fun d => .bl (lotB ds.length d)) (w := ⟨[x, y], fun _ => True⟩) (fun R r => by simpa [asI] using r) rfl trivial (by simp; omega) (fun d hdm A hA => ?_) ?_
      · have okd := okx d hdm
        simp [vwipe, webD]
        refine pr3_at.mpr ⟨0, (ds.length : Int) - 1, okd, rfl, by simp, ?_⟩
        cases ar : areB 0 ((ds.length : Int) - 1) d with
        | false => exact .inl ⟨rfl, by unfold lotB at hA; rw [ar] at hA; exact hA⟩
        | true =>
          refine .inr ⟨rfl, pr1_at.mpr (.inr ⟨uL d, (areB_ex ar).1, ?_, ?_⟩)⟩
          · have e := (areB_ex ar).1
            rw [e] at okd
            unfold Okv at okd
            have := okd.1
            rw [List.length_map] at this
            omega
          · unfold lotB at hA
            rw [ar, Bool.true_and] at hA
            exact hA
      · simp [VL.rAll]
        refine ⟨[lotB ds.length x, lotB ds.length y], rfl, ?_⟩
        have fin : facB n ds (.tup [x, y]) = (lotB ds.length x && lotB ds.length y && cntOk n ds (uL x) (uL y)) := rfl
        by_cases lb : lotB ds.length x = true ∧ lotB ds.length y = true
        · obtain ⟨bx, by_⟩ := lb
          rw [fin, bx, by_, Bool.true_and, Bool.true_and] at h
          refine .inr ⟨by simp [bx, by_], ?_⟩
          unfold lotB at bx by_
          rw [Bool.and_eq_true] at bx by_
          obtain ⟨ex, hx⟩ := areB_ex bx.1
          obtain ⟨ey, hy⟩ := areB_ex by_.1
          generalize uL x = la at ex hx h
          generalize uL y = lb at ey hy h
          subst ex ey
          clear bx by_ okx fin
          show R1 _ _ _
          subst hR1
          refine s_hide fun R1 hR1 => ?_
          simp [webD]
          have tn : n.toNat ≤ 8 := by omega
          have zr : (List.replicate n.toNat [D.int 0]).flatten = (List.replicate n.toNat (0 : Int)).map D.int := by
            rw [List.map_replicate]
            induction n.toNat with
            | zero => rfl
            | succ k ih => rw [List.replicate_succ, List.flatten_cons, ih]; rfl
          refine (show oRepO _ _ _ _ from ⟨[.int 0], n, rfl, rfl, by omega, by omega, by simp; omega, fun p hp => ?_⟩)
          refine (show oRepO _ _ _ _ from ⟨[.int 0], n, rfl, rfl, by omega, by omega, by simp; omega, fun q hq => ?_⟩)
          have pq : p ≠ q := fun e => by rw [e, mupd_same] at hq; cases hq
          rw [mupd_ne (Ne.symm pq)] at hq
          rw [zr]
          obtain ⟨Z, hZ⟩ : ∃ Z, Z = List.replicate n.toNat (0 : Int) := ⟨_, rfl⟩
          have zl : Z.length = n.toNat := by rw [hZ]; exact List.length_replicate
          have ca : cntW n ds la = bumpL ds Z la := by rw [hZ]; rfl
          have cb : cntW n ds lb = bumpL ds Z lb := by rw [hZ]; rfl
          have l1 : (bumpL ds Z la).length = n.toNat := (bumpL_len _ _).trans zl
          have l2 : (bumpL ds Z lb).length = n.toNat := (bumpL_len _ _).trans zl
          unfold cntOk at h
          rw [ca, cb] at h
          rw [← hZ]
          clear hZ zr ca cb
          refine ⟨_, _, ⟨rfl, rfl⟩, ?_⟩
          rw [show D.tup [D.int n, D.tup (ds.map dD)] = webD n ds from rfl]
          show R1 _ _ _
          subst hR1
          refine s_hide fun R1 hR1 => ?_
          refine sFor_al [(la, p), (lb, q)] (fun z => .tup [.tup (z.1.map D.int), .obj z.2]) (fun i e N => N = mupd (mupd M p (.lst ((if i = 0 then Z else bumpL ds Z la).map D.int))) q (.lst ((if i = 2 then bumpL ds Z lb else Z).map D.int)) ∧ ∃ e4 e5 e6 e7, e = [some (webD n ds), some (.tup [.tup (la.map D.int), .tup (lb.map D.int)]), some (.obj p), some (.obj q), e4, e5, e6, e7, none, none]) (w := ⟨zipD [.tup (la.map D.int), .tup (lb.map D.int)] [.obj p, .obj q], fun _ => True⟩) (fun R r => ?_) rfl ⟨rfl, _, _, _, _, rfl⟩ (fun _ _ _ _ _ => trivial) (fun i z e N hz hi ⟨hN, e4, e5, e6, e7, he⟩ => ?_) (fun e N ⟨hN, e4, e5, e6, e7, he⟩ => ?_)
          · simp
            exact ⟨_, _, ⟨rfl, rfl⟩, _, _, .inr ⟨rfl, rfl, r⟩⟩
          · subst hN he
            have i2 : i = 0 ∨ i = 1 := by simp at hi; omega
            rcases i2 with rfl | rfl
            · cases hz
              simp
              refine lot_loop ok hx zl (by rw [mupd_ne pq, mupd_same]) (fun e6 e7 => ⟨?_, _, _, _, _, rfl⟩)
              exact mupd3_b pq
            · cases hz
              simp
              refine lot_loop ok hy zl (by rw [mupd_same]) (fun e6 e7 => ⟨?_, _, _, _, _, rfl⟩)
              rw [mupd_mupd]
          · subst hN he
            subst hR1
            have np : mupd (mupd M p (.lst ((bumpL ds Z la).map D.int))) q (.lst ((bumpL ds Z lb).map D.int)) p = some (.lst ((bumpL ds Z la).map D.int)) := by rw [mupd_ne pq, mupd_same]
            have nq : mupd (mupd M p (.lst ((bumpL ds Z la).map D.int))) q (.lst ((bumpL ds Z lb).map D.int)) q = some (.lst ((bumpL ds Z lb).map D.int)) := mupd_same
            have sb : VL.Sub M (mupd (mupd M p (.lst ((bumpL ds Z la).map D.int))) q (.lst ((bumpL ds Z lb).map D.int))) := (VL.Sub.new hp).trans (VL.Sub.new (by rw [mupd_ne (Ne.symm pq)]; exact hq))
            show sSeq _ _ _ _ (mupd (mupd M p (.lst ((bumpL ds Z la).map D.int))) q (.lst ((bumpL ds Z lb).map D.int)))
            generalize bumpL ds Z la = A at *
            generalize bumpL ds Z lb = B at *
            generalize mupd (mupd M p (.lst (A.map D.int))) q (.lst (B.map D.int)) = N at np nq sb ⊢
            simp
            refine vLc_al (A.zip B) (fun z => .tup [.int z.1, .int z.2]) (fun z => .bl (okAt z)) (w := ⟨zipD (A.map D.int) (B.map D.int), fun M' => asL M' (.obj p) = some (A.map D.int) ∧ asL M' (.obj q) = some (B.map D.int)⟩) (fun R r => ?_) (zipD_int _ _) ⟨asL_obj np, asL_obj nq⟩ (by rw [List.length_zip]; omega) (fun z hz A' hA => ?_) ?_
            · exact (show iZp _ _ _ _ from ⟨_, rfl, _, rfl, _, _, _, _, rfl, .inl ⟨asL_obj np, asL_obj nq, r⟩⟩)
            · simp [vwipe]
              exact oIn_at hA
            · simp [VL.rAll]
              refine ⟨(A.zip B).map okAt, by simp [Function.comp_def], ?_⟩
              refine ⟨_, sb, ?_⟩
              rw [List.all_map]
              exact h
        · rw [fin] at h
          have e : (lotB ds.length x && lotB ds.length y) = false := by
            rw [Bool.eq_false_iff]
            intro c
            rw [Bool.and_eq_true] at c
            exact lb c
          rw [e, Bool.false_and] at h
          refine .inl ⟨?_, _, VL.Sub.refl, h⟩
          rw [Bool.and_eq_false_iff] at e
          rcases e with e | e
          · rw [e]
            exact List.mem_cons_self
          · rw [e]
            exact List.mem_cons_of_mem _ List.mem_cons_self
    · have e : facB n ds (.tup xs) = false := by
        unfold facB
        split
        · rename_i z
          cases z
          exact absurd rfl l2
        · rfl
      rw [e] at h
      exact .inr ⟨by omega, _, VL.Sub.refl, h⟩
  | _ =>
    simp [isTuple, facB] at h ⊢
    exact ⟨_, VL.Sub.refl, h⟩
abbrev N_is_factor : List Str := ["web", "value"]
abbrev P_is_factor : List Str := ["web", "value"]
theorem sc_is_factor : FnScope N_is_factor P_is_factor (defScope s_is_factor) := ⟨rfl, rfl, rfl, by decide +kernel, rfl, by decide +kernel, by decide +kernel⟩
def p_is_factor : VSp := pr2 fun a b M Q => ∃ n ds, a = webD n ds ∧ WebOk n ds ∧ Okv M b ∧ Q (.bl (facB n ds b)) M
theorem ok_is_factor {P : Program} {w : World} {K : PySem.W.Frag} {mg : Str → Option Value} {base : Heap} (hD : Df K mg "is_factor" s_is_factor) (hB : Fr mg bl) (k_check_web : Kn P w K mg base 5 "check_web" P_check_web p_check_web) (k_is_factor_of : Kn P w K mg base 4 "is_factor_of" P_is_factor_of p_is_factor_of) : Kn P w K mg base 6 "is_factor" P_is_factor p_is_factor := by
  have S := sc_is_factor
  refine kn_ofD hD sc_is_factor (fun _ _ _ _ _ _ us hl => match us, hl with | [_, _], _ => rfl) pr2_len ?_
  intro f cdv A outer s H E hr
  refine ⟨_, (vss_cons (vs_expr (v_callK k_check_web hr (va_cons (v_var (pv 0)) va_nil))) (vss_one (vs_ret (v_callK k_is_factor_of hr (va_cons (v_var (pv 0)) (va_cons (v_var (pv 1)) va_nil)))))), ?_⟩
  clear hr S
  rintro _ M Q ⟨x0, x1, rfl, h⟩
  rw [show vstart N_is_factor.length [x0, x1] = [some x0, some x1] from rfl]
  obtain ⟨n, ds, rfl, ok, ov, h⟩ := h
  simp
  refine pr1_at.mpr ⟨n, ds, rfl, ok, ?_⟩
  exact pr2_at.mpr ⟨n, ds, rfl, ok, ov, _, VL.Sub.refl, h⟩
/-- what a factor has at the doors -/
def numsBy (m : Nat) (z : List Int × List Int) : List Int := (List.range m).map fun i : Nat => if (i : Int) ∈ z.1 then (2 : Int) else if (i : Int) ∈ z.2 then 1 else 0
theorem inD_ints {k : Int} {xs : List Int} : inD (.int k) (xs.map D.int) = decide (k ∈ xs) := by
  unfold inD
  rw [Bool.eq_iff_iff, List.any_eq_true, decide_eq_true_eq]
  constructor
  · rintro ⟨d, hd, e⟩
    obtain ⟨x, hx, rfl⟩ := List.mem_map.mp hd
    rw [eqD_int, decide_eq_true_eq] at e
    rw [← e]
    exact hx
  · intro h
    exact ⟨_, List.mem_map.mpr ⟨k, h, rfl⟩, by rw [eqD_int]; simp⟩
theorem oIn_ints {k : Int} {xs : List Int} {M : Mem} {Q : VL.VK} (q : Q (.bl (decide (k ∈ xs))) M) : oIn (.int k) (.tup (xs.map D.int)) M Q := by
  refine ⟨_, rfl, sh_int, fun z hz => ?_, by rw [inD_ints]; exact q⟩
  obtain ⟨x, _, rfl⟩ := List.mem_map.mp hz
  exact sh_int
abbrev N_numbers_by : List Str := ["web", "factor", "pairs", "rings", "place"]
abbrev P_numbers_by : List Str := ["web", "factor"]
theorem sc_numbers_by : FnScope N_numbers_by P_numbers_by (defScope s_numbers_by) := ⟨rfl, rfl, rfl, by decide +kernel, rfl, by decide +kernel, by decide +kernel⟩
def p_numbers_by : VSp := pr2 fun a b M Q => ∃ n ds z, a = webD n ds ∧ b = fD z ∧ ds.length ≤ 16 ∧ Q (.lst ((numsBy ds.length z).map D.int)) M
theorem ok_numbers_by {P : Program} {w : World} {K : PySem.W.Frag} {mg : Str → Option Value} {base : Heap} (hD : Df K mg "numbers_by" s_numbers_by) (hB : Fr mg bl) : Kn P w K mg base 1 "numbers_by" P_numbers_by p_numbers_by := by
  have S := sc_numbers_by
  refine kn_of hD sc_numbers_by (fun _ _ _ _ _ _ us hl => match us, hl with | [_, _], _ => rfl) pr2_len ?_
  intro f cdv A outer s H E hr
  refine ⟨_, (vss_cons (vs_asg (v_var (pv 1)) (vg_tup (n := 2) rfl (vgs_cons (vg_name (pg_name (i := 2) S.nd rfl (by first | exact Or.inl rfl | exact Or.inr rfl))) (vgs_cons (vg_name (pg_name (i := 3) S.nd rfl (by first | exact Or.inl rfl | exact Or.inr rfl))) vgs_nil)))) (vss_one (vs_ret (v_lc (own := [("place", 4)]) rfl S.nd (vi_range1 (hB _ (by decide +kernel)) (va_cons (v_callB c_len (hB _ (by decide +kernel)) (va_cons (v_ix (v_var (pv 0)) v_int) va_nil)) va_nil)) (blkOk_by (by first | rfl | kernel_rfl)) (lcg_name (fun _ _ _ _ _ => pg_name (i := 4) S.nd rfl (by first | exact Or.inl rfl | exact Or.inr rfl))) (fun _ _ _ _ _ => vts_nil) (fun _ _ _ _ _ => (v_if (t_cmp (o_in hr.r) (v_var (pv 4)) (v_var (pv 2)) (by with_unfolding_all rfl)) v_int (v_callTy c_int (hB _ (by decide +kernel)) (va_cons (v_cmp (o_in hr.r) (v_var (pv 4)) (v_var (pv 3)) (by with_unfolding_all rfl)) va_nil)))))))), ?_⟩
  clear hr S
  rintro _ M Q ⟨x0, x1, rfl, h⟩
  rw [show vstart N_numbers_by.length [x0, x1] = [some x0, some x1, none, none, none] from rfl]
  obtain ⟨n, ds, z, rfl, rfl, dl, h⟩ := h
  have sz := size1000
  obtain ⟨la, lb⟩ := z
  refine s_hide fun R1 hR1 => ?_
  simp [fD]
  subst hR1
  simp
  refine vLc_al (List.range ds.length) (fun i => .int (0 + ((i : Nat) : Int))) (fun i : Nat => .int (if (i : Int) ∈ la then 2 else if (i : Int) ∈ lb then 1 else 0)) (w := ⟨rgD 0 ds.length, fun _ => True⟩) (fun R r => ?_) rfl trivial (by rw [List.length_range]; omega) (fun i hi A hA => ?_) ?_
  · simpa [webD, show (ds.length : Int) < 4611686018427387904 by omega] using r
  · simp [vwipe]
    refine oIn_ints ?_
    by_cases z1 : (i : Int) ∈ la
    · rw [if_pos z1] at hA
      exact .inr ⟨by rw [decide_eq_true z1], hA⟩
    · rw [if_neg z1] at hA
      refine .inl ⟨by rw [decide_eq_false z1], oIn_ints ?_⟩
      by_cases z2 : (i : Int) ∈ lb
      · rw [if_pos z2] at hA
        rw [decide_eq_true z2]
        exact hA
      · rw [if_neg z2] at hA
        rw [decide_eq_false z2]
        exact hA
  · unfold numsBy at h
    rw [List.map_map] at h
    exact h
theorem numsBy_len {m : Nat} {z : List Int × List Int} : (numsBy m z).length = m := by rw [numsBy, List.length_map, List.length_range]
abbrev N_factor_numbers : List Str := ["web", "factor"]
abbrev P_factor_numbers : List Str := ["web", "factor"]
theorem sc_factor_numbers : FnScope N_factor_numbers P_factor_numbers (defScope s_factor_numbers) := ⟨rfl, rfl, rfl, by decide +kernel, rfl, by decide +kernel, by decide +kernel⟩
def p_factor_numbers : VSp := pr2 fun a b M Q => ∃ n ds z, a = webD n ds ∧ b = fD z ∧ WebOk n ds ∧ Okv M b ∧ facB n ds b = true ∧ Q (.tup ((numsBy ds.length z).map D.int)) M
theorem ok_factor_numbers {P : Program} {w : World} {K : PySem.W.Frag} {mg : Str → Option Value} {base : Heap} (hD : Df K mg "factor_numbers" s_factor_numbers) (hB : Fr mg bl) (k_check_web : Kn P w K mg base 5 "check_web" P_check_web p_check_web) (k_is_factor_of : Kn P w K mg base 4 "is_factor_of" P_is_factor_of p_is_factor_of) (k_numbers_by : Kn P w K mg base 1 "numbers_by" P_numbers_by p_numbers_by) : Kn P w K mg base 6 "factor_numbers" P_factor_numbers p_factor_numbers := by
  have S := sc_factor_numbers
  refine kn_ofD hD sc_factor_numbers (fun _ _ _ _ _ _ us hl => match us, hl with | [_, _], _ => rfl) pr2_len ?_
  intro f cdv A outer s H E hr
  refine ⟨_, (vss_cons (vs_expr (v_callK k_check_web hr (va_cons (v_var (pv 0)) va_nil))) (vss_cons (vs_if (t_not (t_val (v_callK k_is_factor_of hr (va_cons (v_var (pv 0)) (va_cons (v_var (pv 1)) va_nil))))) vss_never vss_nil) (vss_one (vs_ret (v_callTy c_tuple (hB _ (by decide +kernel)) (va_cons (v_callK k_numbers_by hr (va_cons (v_var (pv 0)) (va_cons (v_var (pv 1)) va_nil))) va_nil)))))), ?_⟩
  clear hr S
  rintro _ M Q ⟨x0, x1, rfl, h⟩
  rw [show vstart N_factor_numbers.length [x0, x1] = [some x0, some x1] from rfl]
  obtain ⟨n, ds, z, rfl, rfl, ok, ov, fb, h⟩ := h
  refine s_hide fun R1 hR1 => ?_
  simp
  refine pr1_at.mpr ⟨n, ds, rfl, ok, ?_⟩
  show R1 _ _ _
  subst hR1
  refine s_hide fun R1 hR1 => ?_
  simp
  refine pr2_at.mpr ⟨n, ds, rfl, ok, ov, ?_⟩
  rw [fb]
  subst hR1
  simp
  refine pr2_at.mpr ⟨n, ds, z, rfl, rfl, ok.2.2.2.1, ?_⟩
  exact ⟨_, rfl, _, VL.Sub.refl, h⟩
end K53
namespace K53
open PySem PySem.Spec L2 VL
def gS (st : List Int) (i : Int) : Int := st.getD i.toNat 0
def lastStep (l : List Int) (z : (Int × Int) × Nat) : List Int := (l.set z.1.1.toNat (z.2 : Int)).set z.1.2.toNat (z.2 : Int)
def lastF (n : Int) (ds : List (Int × Int)) : List Int := ds.zipIdx.foldl lastStep (List.replicate n.toNat (-1))
theorem lastStep_len {l : List Int} {z : (Int × Int) × Nat} : (lastStep l z).length = l.length := by unfold lastStep; rw [List.length_set, List.length_set]
theorem lastFold_len : ∀ (zs : List ((Int × Int) × Nat)) (l : List Int), (zs.foldl lastStep l).length = l.length
  | [], _ => rfl
  | z :: zs, l => by rw [List.foldl_cons, lastFold_len zs, lastStep_len]
theorem rep_one {n : Nat} {k : Int} : (List.replicate n [D.int k]).flatten = (List.replicate n k).map D.int := by
  rw [List.map_replicate]
  induction n with
  | zero => rfl
  | succ m ih => rw [List.replicate_succ, List.flatten_cons, ih]; rfl
theorem enD_zip {α : Type} (xs : List α) (f : α → D) : enD (xs.map f) = xs.zipIdx.map fun z => .tup [.int (z.2 : Int), f z.1] := by
  apply List.ext_getElem?
  intro i
  rw [List.getElem?_map, List.getElem?_zipIdx]
  cases e : xs[i]? with
  | none =>
    have : (enD (xs.map f)).length ≤ i := by rw [enD_len, List.length_map]; exact List.getElem?_eq_none_iff.mp e
    rw [List.getElem?_eq_none this]
    rfl
  | some x =>
    rw [enD_get (x := f x) (by rw [List.getElem?_map, e]; rfl)]
    simp
abbrev N_last_doors : List Str := ["web", "found", "place", "door", "room"]
abbrev P_last_doors : List Str := ["web"]
theorem sc_last_doors : FnScope N_last_doors P_last_doors (defScope s_last_doors) := ⟨rfl, rfl, rfl, by decide +kernel, rfl, by decide +kernel, by decide +kernel⟩
def p_last_doors : VSp := pr1 fun a M Q => ∃ n ds, a = webD n ds ∧ WebOk n ds ∧ ∀ p, M p = none → Q (.obj p) (mupd M p (.lst ((lastF n ds).map D.int)))
theorem ok_last_doors {P : Program} {w : World} {K : PySem.W.Frag} {mg : Str → Option Value} {base : Heap} (hD : Df K mg "last_doors" s_last_doors) (hB : Fr mg bl) : Kn P w K mg base 1 "last_doors" P_last_doors p_last_doors := by
  have S := sc_last_doors
  refine kn_ofD hD sc_last_doors (fun _ _ _ _ _ _ us hl => match us, hl with | [_], _ => rfl) pr1_len ?_
  intro f cdv A outer s H E hr
  refine ⟨_, (vss_cons (vs_set (i := 1) S.nd rfl (Or.inl rfl) (v_op o_repO (v_lst (va_cons (v_un o_neg v_int) va_nil)) (v_ix (v_var (pv 0)) v_int))) (vss_cons (vs_for PassesOwn.never rfl (vi_enumT (hB _ (by decide +kernel)) (va_cons (v_ix (v_var (pv 0)) v_int) va_nil)) (vg_tup (n := 2) rfl (vgs_cons (vg_name (pg_name (i := 2) S.nd rfl (by first | exact Or.inl rfl | exact Or.inr rfl))) (vgs_cons (vg_name (pg_name (i := 3) S.nd rfl (by first | exact Or.inl rfl | exact Or.inr rfl))) vgs_nil))) (vss_one (vs_for PassesOwn.never rfl (vi_seq (v_var (pv 3))) (vg_name (pg_name (i := 4) S.nd rfl (by first | exact Or.inl rfl | exact Or.inr rfl))) (vss_one (vs_asg (v_var (pv 2)) (vg_subL (v_var (pv 1)) (v_var (pv 4)))))))) (vss_one (vs_ret (v_var (pv 1)))))), ?_⟩
  clear hr S
  rintro _ M Q ⟨x0, rfl, h⟩
  rw [show vstart N_last_doors.length [x0] = [some x0, none, none, none, none] from rfl]
  obtain ⟨n, ds, rfl, ok, h⟩ := h
  obtain ⟨n2, n8, d1, d16, hd, _⟩ := id ok
  have sz := size1000
  refine s_hide fun R1 hR1 => ?_
  simp [webD]
  refine (show oRepO _ _ _ _ from ⟨[.int (-1)], n, rfl, rfl, by omega, by omega, by simp; omega, fun p hp => ?_⟩)
  rw [rep_one]
  rw [show D.tup [D.int n, D.tup (ds.map dD)] = webD n ds from rfl]
  obtain ⟨Z, hZ⟩ : ∃ Z, Z = List.replicate n.toNat (-1 : Int) := ⟨_, rfl⟩
  have zl : Z.length = n.toNat := by rw [hZ]; exact List.length_replicate
  have cf : lastF n ds = ds.zipIdx.foldl lastStep Z := by rw [hZ]; rfl
  rw [cf] at h
  rw [← hZ]
  clear hZ cf
  show R1 _ _ _
  subst hR1
  refine s_hide fun R1 hR1 => ?_
  refine sFor_al ds.zipIdx (fun z => .tup [.int (z.2 : Int), dD z.1]) (fun i e N' => N' = mupd M p (.lst (((ds.zipIdx.take i).foldl lastStep Z).map D.int)) ∧ ∃ e2 e3 e4, e = [some (webD n ds), some (.obj p), e2, e3, e4]) (w := ⟨enD (ds.map dD), fun _ => True⟩) (fun R r => by simpa [webD] using r) (enD_zip _ _) ⟨rfl, _, _, _, rfl⟩ (fun _ _ _ _ _ => trivial) (fun i z e N' hz hi ⟨hN', e2, e3, e4, he⟩ => ?_) (fun e N' ⟨hN', e2, e3, e4, he⟩ => ?_)
  · subst hN' he
    have nx : (ds.zipIdx.take (i + 1)).foldl lastStep Z = lastStep ((ds.zipIdx.take i).foldl lastStep Z) z := by
      rw [List.take_succ, hz, List.foldl_append]
      rfl
    have xl : ((ds.zipIdx.take i).foldl lastStep Z).length = n.toNat := (lastFold_len _ _).trans zl
    rw [nx]
    generalize (ds.zipIdx.take i).foldl lastStep Z = Y at xl ⊢
    obtain ⟨⟨a, b⟩, k⟩ := z
    have hab := hd _ (show (a, b) ∈ ds by
      have := List.mem_of_getElem? hz
      exact (List.mem_zipIdx this).2.2 ▸ List.getElem_mem _)
    simp only at hab
    simp
    refine sFor_al [a, b] D.int (fun j e N' => N' = mupd M p (.lst ((if j = 0 then Y else if j = 1 then Y.set a.toNat (k : Int) else lastStep Y ((a, b), k)).map D.int)) ∧ ∃ e4, e = [some (webD n ds), some (.obj p), some (.int (k : Int)), some (dD (a, b)), e4]) (w := ⟨[.int a, .int b], fun M' => asI M' (dD (a, b)) = some [.int a, .int b]⟩) (fun R r => ?_) rfl ⟨rfl, _, rfl⟩ (fun _ _ _ _ _ => rfl) (fun j y e N' hz hj ⟨hN', e4, he⟩ => ?_) (fun e N' ⟨hN', e4, he⟩ => ?_)
    · simp
      exact ⟨[.int a, .int b], rfl, r⟩
    · subst hN' he
      have j2 : j = 0 ∨ j = 1 := by simp at hj; omega
      rcases j2 with rfl | rfl
      · cases hz
        simp
        exact ⟨a.toNat, ixW (by omega) (by omega), by rw [setW]⟩
      · cases hz
        simp
        exact ⟨b.toNat, ixW (by omega) (by omega), by rw [setW, setW]; rfl⟩
    · subst hN' he
      exact ⟨rfl, _, _, _, rfl⟩
  · subst hN' he
    rw [List.take_length]
    subst hR1
    simp
    exact ⟨_, VL.Sub.refl, h _ hp⟩
abbrev N_is_let : List Str := ["states", "door", "word", "room"]
abbrev P_is_let : List Str := ["states", "door", "word"]
theorem sc_is_let : FnScope N_is_let P_is_let (defScope s_is_let) := ⟨rfl, rfl, rfl, by decide +kernel, rfl, by decide +kernel, by decide +kernel⟩
def isLet (st : List Int) (d : Int × Int) (w : Int) : Bool := if w = 2 then decide (gS st d.1 = 0) && decide (gS st d.2 = 0) else (decide (gS st d.1 = 0) || decide (gS st d.1 = 1)) && (decide (gS st d.2 = 0) || decide (gS st d.2 = 1))
def p_is_let : VSp := pr3 fun a b c M Q => ∃ (st : List Int) (d : Int × Int) (w : Int), a = .tup (st.map D.int) ∧ b = dD d ∧ c = .int w ∧ 0 ≤ d.1 ∧ d.1 < st.length ∧ 0 ≤ d.2 ∧ d.2 < st.length ∧ Q (.bl (isLet st d w)) M
theorem ok_is_let {P : Program} {w : World} {K : PySem.W.Frag} {mg : Str → Option Value} {base : Heap} (hD : Df K mg "is_let" s_is_let) (hB : Fr mg bl) : Kn P w K mg base 1 "is_let" P_is_let p_is_let := by
  have S := sc_is_let
  refine kn_of hD sc_is_let (fun _ _ _ _ _ _ us hl => match us, hl with | [_, _, _], _ => rfl) pr3_len ?_
  intro f cdv A outer s H E hr
  refine ⟨_, (vss_cons (vs_if (t_cmp (o_eq hr.r) (v_var (pv 2)) v_int (nomark _)) (vss_one (vs_ret (v_callB (c_all rfl) (hB _ (by decide +kernel)) (va_cons (v_lc (own := [("room", 3)]) rfl S.nd (vi_seq (v_var (pv 1))) (blkOk_by (by first | rfl | kernel_rfl)) (lcg_name (fun _ _ _ _ _ => pg_name (i := 3) S.nd rfl (by first | exact Or.inl rfl | exact Or.inr rfl))) (fun _ _ _ _ _ => vts_nil) (fun _ _ _ _ _ => (v_cmp (o_eq hr.r) (v_ix (v_var (pv 0)) (v_var (pv 3))) v_int (nomark _)))) va_nil)))) vss_nil) (vss_one (vs_ret (v_callB (c_all rfl) (hB _ (by decide +kernel)) (va_cons (v_lc (own := [("room", 3)]) rfl S.nd (vi_seq (v_var (pv 1))) (blkOk_by (by first | rfl | kernel_rfl)) (lcg_name (fun _ _ _ _ _ => pg_name (i := 3) S.nd rfl (by first | exact Or.inl rfl | exact Or.inr rfl))) (fun _ _ _ _ _ => vts_nil) (fun _ _ _ _ _ => (v_cmp (o_in hr.r) (v_ix (v_var (pv 0)) (v_var (pv 3))) (v_tup (va_cons v_int (va_cons v_int va_nil))) (by with_unfolding_all rfl)))) va_nil))))), ?_⟩
  clear hr S
  rintro _ M Q ⟨x0, x1, x2, rfl, h⟩
  rw [show vstart N_is_let.length [x0, x1, x2] = [some x0, some x1, some x2, none] from rfl]
  obtain ⟨st, d, w, rfl, rfl, rfl, a0, a1, b0, b1, h⟩ := h
  have sz := size1000
  obtain ⟨a, b⟩ := d
  simp only at a0 a1 b0 b1
  have x1 := atW (X := st) (i := a) (by omega) (by omega)
  have x2 := atW (X := st) (i := b) (by omega) (by omega)
  refine s_hide fun R1 hR1 => ?_
  simp
  have it : ∀ (M : Mem), asI M (dD (a, b)) = some [.int a, .int b] := fun _ => rfl
  by_cases w2 : w = 2
  · refine .inr ⟨w2, ?_⟩
    unfold isLet at h
    rw [if_pos w2] at h
    refine vLc_al [a, b] D.int (fun r => .bl (decide (gS st r = 0))) (w := ⟨[.int a, .int b], fun M' => asI M' (dD (a, b)) = some [.int a, .int b]⟩) (fun R r => by simp; exact ⟨_, rfl, r⟩) rfl rfl (by simp; omega) (fun r hr A hA => ?_) ?_
    · simp only [List.mem_cons, List.not_mem_nil, or_false] at hr
      simp [vwipe]
      rcases hr with rfl | rfl
      · exact ⟨_, x1, by simpa [gS] using hA⟩
      · exact ⟨_, x2, by simpa [gS] using hA⟩
    · simp only [VL.rAll]
      exact ⟨[decide (gS st a = 0), decide (gS st b = 0)], rfl, by simpa using h⟩
  · refine .inl ⟨w2, ?_⟩
    unfold isLet at h
    rw [if_neg w2] at h
    subst hR1
    simp
    have in01 : ∀ (v : Int) (Q : VL.VK), Q (.bl (decide (v = 0) || decide (v = 1))) M → oIn (.int v) (.tup [.int 0, .int 1]) M Q := fun v Q q => by
      refine oIn_ints (xs := [0, 1]) ?_
      have e : decide (v ∈ [(0 : Int), 1]) = (decide (v = 0) || decide (v = 1)) := by simp
      rw [e]
      exact q
    refine vLc_al [a, b] D.int (fun r => .bl (decide (gS st r = 0) || decide (gS st r = 1))) (w := ⟨[.int a, .int b], fun M' => asI M' (dD (a, b)) = some [.int a, .int b]⟩) (fun R r => by simp; exact ⟨_, rfl, r⟩) rfl rfl (by simp; omega) (fun r hr A hA => ?_) ?_
    · simp only [List.mem_cons, List.not_mem_nil, or_false] at hr
      simp [vwipe]
      rcases hr with rfl | rfl
      · exact ⟨_, x1, in01 _ _ hA⟩
      · exact ⟨_, x2, in01 _ _ hA⟩
    · simp only [VL.rAll]
      exact ⟨[decide (gS st a = 0) || decide (gS st a = 1), decide (gS st b = 0) || decide (gS st b = 1)], rfl, by simpa using h⟩
def addW (w : Int) : Int := if w = 0 then 0 else if w = 1 then 1 else 3
def nextS (st : List Int) (d : Int × Int) (w : Int) : List Int := addAt (addAt st d.1 (addW w)) d.2 (addW w)
def doneAt (L : List Int) (place : Int) (st : List Int) (r : Int) : Bool := !decide (gS L r = place) || (decide (gS st r = 2) || decide (gS st r = 3))
def okStep (L : List Int) (place : Int) (st : List Int) (d : Int × Int) (w : Int) : Bool := (decide (w = 0) || isLet st d w) && (doneAt L place (nextS st d w) d.1 && doneAt L place (nextS st d w) d.2)
def stepsF (L : List Int) (row st : List Int) (d : Int × Int) : List (List Int × List Int) := ([0, 1, 2].filter (okStep L row.length st d)).map fun w => (row ++ [w], nextS st d w)
theorem if_hide {c : VTT} {t u : VTS} {D' : VEnds} {e : VEnv} {M : Mem} (h : ∀ t' E, t' = t → E = D' → sIf c t' u E e M) : sIf c t u D' e M := h t D' rfl rfl
abbrev N_steps_on : List Str := ["web", "last", "row", "states", "place", "found", "door", "word", "later", "room"]
abbrev P_steps_on : List Str := ["web", "last", "row", "states"]
theorem sc_steps_on : FnScope N_steps_on P_steps_on (defScope s_steps_on) := ⟨rfl, rfl, rfl, by decide +kernel, rfl, by decide +kernel, by decide +kernel⟩
def p_steps_on : VSp := pr4 fun a b c d M Q => ∃ (n : Int) (ds : List (Int × Int)) (p : Addr) (L row st : List Int), a = webD n ds ∧ b = .obj p ∧ c = .tup (row.map D.int) ∧ d = .tup (st.map D.int) ∧ WebOk n ds ∧ M p = some (.lst (L.map D.int)) ∧ L.length = n.toNat ∧ st.length = n.toNat ∧ row.length < ds.length ∧ ∀ q, M q = none → Q (.obj q) (mupd M q (.lst ((stepsF L row st (ds.getD row.length (0, 0))).map fD)))
theorem ok_steps_on {P : Program} {w : World} {K : PySem.W.Frag} {mg : Str → Option Value} {base : Heap} (hD : Df K mg "steps_on" s_steps_on) (hB : Fr mg bl) (k_is_let : Kn P w K mg base 1 "is_let" P_is_let p_is_let) : Kn P w K mg base 2 "steps_on" P_steps_on p_steps_on := by
  have S := sc_steps_on
  refine kn_ofD hD sc_steps_on (fun _ _ _ _ _ _ us hl => match us, hl with | [_, _, _, _], _ => rfl) pr4_len ?_
  intro f cdv A outer s H E hr
  refine ⟨_, (vss_cons (vs_asg (v_tup (va_cons (v_callB c_len (hB _ (by decide +kernel)) (va_cons (v_var (pv 2)) va_nil)) (va_cons (v_lstO va_nil) va_nil))) (vg_tup (n := 2) rfl (vgs_cons (vg_name (pg_name (i := 4) S.nd rfl (by first | exact Or.inl rfl | exact Or.inr rfl))) (vgs_cons (vg_name (pg_name (i := 5) S.nd rfl (by first | exact Or.inl rfl | exact Or.inr rfl))) vgs_nil)))) (vss_cons (vs_set (i := 6) S.nd rfl (Or.inl rfl) (v_ix (v_ix (v_var (pv 0)) v_int) (v_var (pv 4)))) (vss_cons (vs_for PassesOwn.never rfl (vi_seq (v_tup (va_cons v_int (va_cons v_int (va_cons v_int va_nil))))) (vg_name (pg_name (i := 7) S.nd rfl (by first | exact Or.inl rfl | exact Or.inr rfl))) (vss_one (vs_if (t_pw (t_or (t_cmp (o_eq hr.r) (v_var (pv 7)) v_int (nomark _)) (t_or1 (t_val (v_callK k_is_let hr (va_cons (v_var (pv 3)) (va_cons (v_var (pv 6)) (va_cons (v_var (pv 7)) va_nil)))))))) (vss_cons (vs_set (i := 8) S.nd rfl (Or.inr rfl) (v_callTy c_listO (hB _ (by decide +kernel)) (va_cons (v_var (pv 3)) va_nil))) (vss_cons (vs_for PassesOwn.never rfl (vi_seq (v_var (pv 6))) (vg_name (pg_name (i := 9) S.nd rfl (by first | exact Or.inl rfl | exact Or.inr rfl))) (vss_one (vs_asg (v_op o_add (v_ix (v_var (pv 8)) (v_var (pv 9))) (v_ix (v_tup (va_cons v_int (va_cons v_int (va_cons v_int va_nil)))) (v_var (pv 7)))) (vg_subL (v_var (pv 8)) (v_var (pv 9)))))) (vss_one (vs_if (t_val (v_callB (c_all rfl) (hB _ (by decide +kernel)) (va_cons (v_lc (own := [("room", 9)]) rfl S.nd (vi_seq (v_var (pv 6))) (blkOk_by (by first | rfl | kernel_rfl)) (lcg_name (fun _ _ _ _ _ => pg_name (i := 9) S.nd rfl (by first | exact Or.inl rfl | exact Or.inr rfl))) (fun _ _ _ _ _ => vts_nil) (fun _ _ _ _ _ => (v_or (v_cmp (o_ne hr.r) (v_ix (v_var (pv 1)) (v_var (pv 9))) (v_var (pv 4)) (nomark _)) (v_one (v_cmp (o_in hr.r) (v_ix (v_var (pv 8)) (v_var (pv 9))) (v_tup (va_cons v_int (va_cons v_int va_nil))) (by with_unfolding_all rfl)))))) va_nil))) (vss_one (vs_expr (v_append (v_var (pv 5)) (va_cons (v_tup (va_cons (v_tup (va_star (v_var (pv 2)) (va_cons (v_var (pv 7)) va_nil))) (va_cons (v_callTy c_tuple (hB _ (by decide +kernel)) (va_cons (v_var (pv 8)) va_nil)) va_nil))) va_nil)))) vss_nil)))) vss_nil))) (vss_one (vs_ret (v_var (pv 5))))))), ?_⟩
  clear hr S
  rintro _ M Q ⟨x0, x1, x2, x3, rfl, h⟩
  rw [show vstart N_steps_on.length [x0, x1, x2, x3] = [some x0, some x1, some x2, some x3, none, none, none, none, none, none] from rfl]
  obtain ⟨n, ds, p, L, row, st, rfl, rfl, rfl, rfl, ok, hM, hL, hs, hr, h⟩ := h
  obtain ⟨n2, n8, d1, d16, hd, _⟩ := id ok
  have sz := size1000
  refine s_hide fun R1 hR1 => ?_
  simp
  intro q hq
  have pq : p ≠ q := fun e => by rw [← e, hM] at hq; cases hq
  show R1 _ _ _
  subst hR1
  refine s_hide fun R1 hR1 => ?_
  obtain ⟨da, dm⟩ := door_at (ds := ds) (k := (row.length : Int)) (by omega) (by omega)
  rw [Int.toNat_natCast] at da dm
  generalize ds.getD row.length (0, 0) = dd at da dm h
  obtain ⟨a, b⟩ := dd
  have hab := hd _ dm
  simp only at hab
  simp [webD]
  refine ⟨_, da, ?_⟩
  rw [show D.tup [D.int n, D.tup (ds.map dD)] = webD n ds from rfl]
  show R1 _ _ _
  subst hR1
  refine s_hide fun R1 hR1 => ?_
  have w012 : ∀ w ∈ [(0 : Int), 1, 2], L2.atI [D.int 0, D.int 1, D.int 3] w = some (.int (addW w)) := fun w hw => by
    simp only [List.mem_cons, List.not_mem_nil, or_false] at hw
    rcases hw with rfl | rfl | rfl <;> rfl
  have in23 : ∀ (M : Mem) (v : Int) (Q : VL.VK), Q (.bl (decide (v = 2) || decide (v = 3))) M → oIn (.int v) (.tup [.int 2, .int 3]) M Q := fun M v Q q => by
    refine oIn_ints (xs := [2, 3]) ?_
    have e : decide (v ∈ [(2 : Int), 3]) = (decide (v = 2) || decide (v = 3)) := by simp
    rw [e]
    exact q
  refine sFor_al [(0 : Int), 1, 2] D.int (fun i e N => VL.Sub M N ∧ N q = some (.lst ((((([(0 : Int), 1, 2].take i).filter (okStep L row.length st (a, b))).map fun w => (row ++ [w], nextS st (a, b) w))).map fD)) ∧ ∃ e7 e8 e9, e = [some (webD n ds), some (.obj p), some (.tup (row.map D.int)), some (.tup (st.map D.int)), some (.int row.length), some (.obj q), some (dD (a, b)), e7, e8, e9]) (w := ⟨[.int 0, .int 1, .int 2], fun _ => True⟩) (fun R r => by simpa using r) rfl ⟨VL.Sub.new hq, mupd_same, _, _, _, rfl⟩ (fun _ _ _ _ _ => trivial) (fun i w e N hz hi ⟨hs1, hN, e7, e8, e9, he⟩ => ?_) (fun e N ⟨hs1, hN, e7, e8, e9, he⟩ => ?_)
  · subst he
    have hw := List.mem_of_getElem? hz
    have aw := w012 w hw
    have tk : (([(0 : Int), 1, 2].take (i + 1)).filter (okStep L row.length st (a, b))).map (fun w => (row ++ [w], nextS st (a, b) w)) = (([(0 : Int), 1, 2].take i).filter (okStep L row.length st (a, b))).map (fun w => (row ++ [w], nextS st (a, b) w)) ++ (if okStep L row.length st (a, b) w then [(row ++ [w], nextS st (a, b) w)] else []) := by
      rw [List.take_succ, hz, List.filter_append, List.map_append]
      congr 1
      cases q : okStep L row.length st (a, b) w <;> simp [q]
    have kl : ((([(0 : Int), 1, 2].take i).filter (okStep L row.length st (a, b))).map (fun w => (row ++ [w], nextS st (a, b) w))).length ≤ 3 := by
      rw [List.length_map]
      have := List.length_filter_le (okStep L row.length st (a, b)) ([(0 : Int), 1, 2].take i)
      have t3 : ([(0 : Int), 1, 2].take i).length ≤ 3 := by rw [List.length_take]; exact Nat.min_le_right _ _
      omega
    rw [tk]
    generalize (([(0 : Int), 1, 2].take i).filter (okStep L row.length st (a, b))).map (fun w => (row ++ [w], nextS st (a, b) w)) = Y at hN kl ⊢
    have hL' : N p = some (.lst (L.map D.int)) := hs1 _ _ hM
    -- the word may go
    have go : (w = 0 ∨ isLet st (a, b) w = true) → ∀ (B1 : VTS), True → True := fun _ _ _ => trivial
    have no : okStep L row.length st (a, b) w = false → VL.Sub M N ∧ N q = some (.lst ((Y ++ (if okStep L row.length st (a, b) w then [(row ++ [w], nextS st (a, b) w)] else [])).map fD)) := fun z => by
      rw [z]
      simpa using ⟨hs1, hN⟩
    show sIf _ _ _ _ [some (webD n ds), some (.obj p), some (.tup (row.map D.int)), some (.tup (st.map D.int)), some (.int row.length), some (.obj q), some (dD (a, b)), some (.int w), e8, e9] N
    refine if_hide fun B1 E hB1 hE => ?_
    have body : (w = 0 ∨ isLet st (a, b) w = true) → B1 E [some (webD n ds), some (.obj p), some (.tup (row.map D.int)), some (.tup (st.map D.int)), some (.int row.length), some (.obj q), some (dD (a, b)), some (.int w), e8, e9] N := fun okw => by
      have ow : okStep L row.length st (a, b) w = (doneAt L row.length (nextS st (a, b) w) a && doneAt L row.length (nextS st (a, b) w) b) := by
        unfold okStep
        have : (decide (w = 0) || isLet st (a, b) w) = true := by rw [Bool.or_eq_true, decide_eq_true_eq]; exact okw
        rw [this, Bool.true_and]
      rw [ow] at hE
      clear no tk
      subst hB1
      refine s_hide fun R2 hR2 => ?_
      simp
      refine (show rListO _ _ _ from ⟨_, rfl, fun r hr => ?_⟩)
      have rq : r ≠ q := fun e => by rw [e, hN] at hr; cases hr
      have rp : r ≠ p := fun e => by rw [e, hL'] at hr; cases hr
      have hs2 : VL.Sub M (mupd N r (.lst (st.map D.int))) := hs1.trans (VL.Sub.new hr)
      subst hR2
      refine s_hide fun R2 hR2 => ?_
      have x1 := atW (X := st) (i := a) (by omega) (by omega)
      have x2 := atW (X := addAt st a (addW w)) (i := b) (by omega) (by rw [addAt_len]; omega)
      refine sFor_al [a, b] D.int (fun j e N' => N' = mupd N r (.lst ((if j = 0 then st else if j = 1 then addAt st a (addW w) else nextS st (a, b) w).map D.int)) ∧ ∃ e9, e = [some (webD n ds), some (.obj p), some (.tup (row.map D.int)), some (.tup (st.map D.int)), some (.int row.length), some (.obj q), some (dD (a, b)), some (.int w), some (.obj r), e9]) (w := ⟨[.int a, .int b], fun M' => asI M' (dD (a, b)) = some [.int a, .int b]⟩) (fun R r => ?_) rfl ⟨rfl, _, rfl⟩ (fun _ _ _ _ _ => rfl) (fun j y e N' hz hj ⟨hN', e9, he⟩ => ?_) (fun e N' ⟨hN', e9, he⟩ => ?_)
      · simp
        exact ⟨[.int a, .int b], rfl, r⟩
      · subst hN' he
        have j2 : j = 0 ∨ j = 1 := by simp at hj; omega
        rcases j2 with rfl | rfl
        · cases hz
          simp
          exact ⟨_, x1, _, aw, a.toNat, ixW (by omega) (by omega), by rw [setW, ← addAt]⟩
        · cases hz
          simp
          exact ⟨_, x2, _, aw, b.toNat, ixW (by omega) (by rw [addAt_len]; omega), by rw [setW, ← addAt]; rfl⟩
      · subst hN' he
        subst hR2
        rw [show (if [a, b].length = 0 then st else if [a, b].length = 1 then addAt st a (addW w) else nextS st (a, b) w) = nextS st (a, b) w from rfl]
        dsimp only
        have tl : (nextS st (a, b) w).length = n.toNat := by unfold nextS; rw [addAt_len, addAt_len]; exact hs
        have hs4 : VL.Sub M (mupd N r (.lst ((nextS st (a, b) w).map D.int))) := hs1.trans (VL.Sub.new hr)
        have N4p : mupd N r (.lst ((nextS st (a, b) w).map D.int)) p = some (.lst (L.map D.int)) := by rw [mupd_ne (Ne.symm rp)]; exact hL'
        have N4q : mupd N r (.lst ((nextS st (a, b) w).map D.int)) q = some (.lst (Y.map fD)) := by rw [mupd_ne (Ne.symm rq)]; exact hN
        have N4r : mupd N r (.lst ((nextS st (a, b) w).map D.int)) r = some (.lst ((nextS st (a, b) w).map D.int)) := mupd_same
        generalize mupd N r (.lst ((nextS st (a, b) w).map D.int)) = N4 at hs4 N4p N4q N4r ⊢
        generalize nextS st (a, b) w = T at *
        have y1 := atW (X := L) (i := a) (by omega) (by omega)
        have y2 := atW (X := L) (i := b) (by omega) (by omega)
        have z1 := atW (X := T) (i := a) (by omega) (by omega)
        have z2 := atW (X := T) (i := b) (by omega) (by omega)
        simp
        refine vLc_al [a, b] D.int (fun rm => .bl (doneAt L row.length T rm)) (w := ⟨[.int a, .int b], fun M' => asI M' (dD (a, b)) = some [.int a, .int b]⟩) (fun R r => by simp; exact ⟨_, rfl, r⟩) rfl rfl (by simp; omega) (fun rm hrm A hA => ?_) ?_
        · simp only [List.mem_cons, List.not_mem_nil, or_false] at hrm
          simp [vwipe]
          have yr : L2.atI (L.map D.int) rm = some (.int (gS L rm)) := by rcases hrm with rfl | rfl <;> first | exact y1 | exact y2
          have zr : L2.atI (T.map D.int) rm = some (.int (gS T rm)) := by rcases hrm with rfl | rfl <;> first | exact z1 | exact z2
          refine ⟨_, asL_obj N4p, _, yr, oNe_int.mpr ?_⟩
          by_cases e : gS L rm = (row.length : Int)
          · refine .inl ⟨by rw [decide_eq_true e]; rfl, _, asL_obj N4r, _, zr, in23 _ _ _ ?_⟩
            unfold doneAt at hA
            rw [decide_eq_true e] at hA
            exact hA
          · refine .inr ⟨by rw [decide_eq_false e]; rfl, ?_⟩
            unfold doneAt at hA
            rw [decide_eq_false e] at hA
            exact hA
        · simp only [VL.rAll]
          refine ⟨[doneAt L row.length T a, doneAt L row.length T b], rfl, ?_⟩
          subst hE
          cases d2 : (doneAt L row.length T a && doneAt L row.length T b) with
          | false =>
            refine .inl ⟨by simpa using d2, hs4, ?_, _, _, _, rfl⟩
            rw [N4q]
            simp
          | true =>
            refine .inr ⟨by simpa using d2, ⟨_, N4q⟩, by omega, ?_⟩
            refine (show rTuple _ _ _ from ⟨_, asL_obj N4r, _, N4q, by rw [List.length_map]; omega, ?_⟩)
            refine ⟨hs4.wr hq, ?_, _, _, _, rfl⟩
            rw [mupd_same]
            simp [fD]
    simp
    by_cases w0 : w = 0
    · exact .inr ⟨w0, body (.inl w0)⟩
    · refine .inl ⟨w0, pr3_at.mpr ⟨st, (a, b), w, rfl, rfl, rfl, hab.1, by omega, by omega, by omega, ?_⟩⟩
      cases q1 : isLet st (a, b) w with
      | false =>
        refine .inl ⟨rfl, ?_⟩
        subst hE
        have ow : okStep L row.length st (a, b) w = false := by
          unfold okStep
          rw [q1, decide_eq_false w0]
          rfl
        obtain ⟨n1, n2⟩ := no ow
        exact ⟨n1, n2, _, _, _, rfl⟩
      | true => exact .inr ⟨rfl, body (.inr q1)⟩
  · subst he
    subst hR1
    simp
    refine ⟨_, ?_, h q hq⟩
    intro x o hx
    by_cases e : x = q
    · rw [e, mupd_same] at hx
      rw [e, hN]
      exact hx
    · rw [mupd_ne e] at hx
      exact hs1 x o hx
end K53
namespace K53
open PySem PySem.Spec L2 VL
def leavesF (L : List Int) : List (Int × Int) → List Int → List Int → List (List Int)
  | [], row, _ => [row]
  | d :: ds, row, st => (stepsF L row st d).reverse.flatMap fun z => leavesF L ds z.1 z.2
def stkF (ds : List (Int × Int)) (L : List Int) (S : List (List Int × List Int)) : List (List Int) := S.reverse.flatMap fun z => leavesF L (ds.drop z.1.length) z.1 z.2
def wt (m : Nat) (S : List (List Int × List Int)) : Nat := (S.map fun z => 4 ^ (m + 1 - z.1.length)).sum
theorem wt_snoc {m : Nat} {S : List (List Int × List Int)} {z : List Int × List Int} : wt m (S ++ [z]) = wt m S + 4 ^ (m + 1 - z.1.length) := by simp [wt]
theorem wt_app {m : Nat} {S T : List (List Int × List Int)} : wt m (S ++ T) = wt m S + wt m T := by simp [wt]
theorem wt_len {m : Nat} : ∀ {S : List (List Int × List Int)}, S.length ≤ wt m S
  | [] => Nat.zero_le _
  | z :: S => by
    have := wt_len (m := m) (S := S)
    have p : 0 < 4 ^ (m + 1 - z.1.length) := Nat.pow_pos (by decide)
    unfold wt at this ⊢
    rw [List.map_cons, List.sum_cons, List.length_cons]
    omega
theorem steps_len {L row st : List Int} {d : Int × Int} : (stepsF L row st d).length ≤ 3 ∧ ∀ z ∈ stepsF L row st d, z.1.length = row.length + 1 ∧ z.2.length = st.length := by
  unfold stepsF
  constructor
  · rw [List.length_map]
    exact List.length_filter_le _ _
  · intro z hz
    obtain ⟨w, _, rfl⟩ := List.mem_map.mp hz
    exact ⟨by rw [List.length_append]; rfl, by unfold nextS; rw [addAt_len, addAt_len]⟩
theorem wt_le {m k : Nat} : ∀ {S : List (List Int × List Int)}, (∀ z ∈ S, z.1.length = k) → wt m S = S.length * 4 ^ (m + 1 - k)
  | [], _ => by simp [wt]
  | z :: S, h => by
    have ih := wt_le (m := m) (k := k) (S := S) fun y hy => h y (List.mem_cons_of_mem _ hy)
    unfold wt at ih ⊢
    rw [List.map_cons, List.sum_cons, ih, h z List.mem_cons_self, List.length_cons, Nat.succ_mul]
    omega
theorem wt_steps {m : Nat} {L row st : List Int} {d : Int × Int} (h : row.length < m) : wt m (stepsF L row st d) + 1 ≤ 4 ^ (m + 1 - row.length) := by
  obtain ⟨h1, h2⟩ := steps_len (L := L) (row := row) (st := st) (d := d)
  rw [wt_le (k := row.length + 1) fun z hz => (h2 z hz).1]
  obtain ⟨k, hk⟩ : ∃ k, m + 1 - row.length = k + 1 := ⟨m - row.length, by omega⟩
  rw [hk, show m + 1 - (row.length + 1) = k by omega, Nat.pow_succ]
  have p : 0 < 4 ^ k := Nat.pow_pos (by decide)
  have : (stepsF L row st d).length * 4 ^ k ≤ 3 * 4 ^ k := Nat.mul_le_mul_right _ h1
  omega
theorem stk_snoc {ds : List (Int × Int)} {L : List Int} {S : List (List Int × List Int)} {z : List Int × List Int} : stkF ds L (S ++ [z]) = leavesF L (ds.drop z.1.length) z.1 z.2 ++ stkF ds L S := by
  unfold stkF
  rw [List.reverse_append]
  rfl
theorem stk_steps {ds : List (Int × Int)} {L : List Int} {S : List (List Int × List Int)} {row st : List Int} (h : row.length < ds.length) : stkF ds L (S ++ stepsF L row st (ds.getD row.length (0, 0))) = leavesF L (ds.drop row.length) row st ++ stkF ds L S := by
  have e : ds.drop row.length = ds.getD row.length (0, 0) :: ds.drop (row.length + 1) := by
    rw [List.getD_eq_getElem?_getD, List.getElem?_eq_getElem h]
    exact List.drop_eq_getElem_cons h
  rw [e]
  unfold stkF
  rw [List.reverse_append, List.flatMap_append]
  congr 1
  show _ = (stepsF L row st (ds.getD row.length (0, 0))).reverse.flatMap fun z => leavesF L (ds.drop (row.length + 1)) z.1 z.2
  rw [List.flatMap_def, List.flatMap_def]
  congr 1
  refine List.map_congr_left fun z hz => ?_
  rw [(steps_len.2 z (List.mem_reverse.mp hz)).1]
def placesOf (row : List Int) (w : Int) : List Int := (row.zipIdx.filter fun z => decide (z.1 = w)).map fun z => (z.2 : Int)
def facOf (row : List Int) : List Int × List Int := (placesOf row 2, placesOf row 1)
def leF (a b : List Int × List Int) : Bool := W.dataLe false py (fD a) (fD b)
def totalF (n : Int) (ds : List (Int × Int)) : List (List Int) := leavesF (lastF n ds) ds [] (List.replicate n.toNat 0)
def factsF (n : Int) (ds : List (Int × Int)) : List (List Int × List Int) := if -1 ∈ lastF n ds then [] else ((totalF n ds).map facOf).mergeSort leF
theorem sort_fD (fs : List (List Int × List Int)) : (fs.map fD).mergeSort (W.dataLe false py) = (fs.mergeSort leF).map fD := (List.map_mergeSort (f := fD) (fun a _ b _ => rfl)).symm
theorem sh_fD {k : Nat} {z : List Int × List Int} : Sh (k + 2) (fD z) := sh_tup fun x hx => by
  simp only [List.mem_cons, List.not_mem_nil, or_false] at hx
  rcases hx with rfl | rfl <;>
  · refine sh_tup fun y hy => ?_
    obtain ⟨i, _, rfl⟩ := List.mem_map.mp hy
    exact sh_int
theorem alike_ints : ∀ xs ys : List Int, W.alikeAll (pys (xs.map D.int)) (pys (ys.map D.int)) = true
  | [], _ => by simp [pys, W.alikeAll]
  | _ :: _, [] => by simp [pys, W.alikeAll]
  | x :: xs, y :: ys => by
    simp only [List.map_cons, pys, py, W.alikeAll, W.alike, Bool.true_and]
    exact alike_ints xs ys
theorem alike_fD (a b : List Int × List Int) : W.alike (py (fD a)) (py (fD b)) = true := by
  simp only [fD, py, pys, W.alike, W.alikeAll, Bool.and_true, Bool.and_eq_true]
  exact ⟨alike_ints _ _, alike_ints _ _⟩
theorem sort_facts (fs : List (List Int × List Int)) (h : fs.length ≤ sizeLine) (M : Mem) (Q : VL.VK) (x : D) (hx : asI M x = some (fs.map fD)) (q : Q (.lst ((fs.mergeSort leF).map fD)) M) : VL.rSortD [x] M Q := by
  refine ⟨fs.map fD, hx, fun d hd => ?_, fun d hd d' hd' => ?_, .inl fun d hd => ?_, by rw [List.length_map]; exact h, by rw [sort_fD]; exact q⟩
  · obtain ⟨z, _, rfl⟩ := List.mem_map.mp hd
    exact sh_fD
  · obtain ⟨_, h1, rfl⟩ := List.mem_map.mp hd
    obtain ⟨_, h2, rfl⟩ := List.mem_map.mp hd'
    obtain ⟨a, _, rfl⟩ := List.mem_map.mp h1
    obtain ⟨b, _, rfl⟩ := List.mem_map.mp h2
    exact alike_fD a b
  · obtain ⟨_, h1, rfl⟩ := List.mem_map.mp hd
    obtain ⟨a, _, rfl⟩ := List.mem_map.mp h1
    exact ⟨py (.tup (a.1.map D.int)), [py (.tup (a.2.map D.int))], rfl⟩
abbrev N_factors_of : List Str := ["web", "last", "found", "waiting", "row", "states", "lots", "word", "place", "one"]
abbrev P_factors_of : List Str := ["web"]
theorem sc_factors_of : FnScope N_factors_of P_factors_of (defScope s_factors_of) := ⟨rfl, rfl, rfl, by decide +kernel, rfl, by decide +kernel, by decide +kernel⟩
def p_factors_of : VSp := pr1 fun a M Q => ∃ n ds, a = webD n ds ∧ WebOk n ds ∧ ds.length ≤ 9 ∧ Q (.lst ((factsF n ds).map fD)) M
theorem ok_factors_of {P : Program} {w : World} {K : PySem.W.Frag} {mg : Str → Option Value} {base : Heap} (hD : Df K mg "factors_of" s_factors_of) (hB : Fr mg bl) (k_last_doors : Kn P w K mg base 1 "last_doors" P_last_doors p_last_doors) (k_steps_on : Kn P w K mg base 2 "steps_on" P_steps_on p_steps_on) : Kn P w K mg base 3 "factors_of" P_factors_of p_factors_of := by
  have S := sc_factors_of
  refine kn_ofD hD sc_factors_of (fun _ _ _ _ _ _ us hl => match us, hl with | [_], _ => rfl) pr1_len ?_
  intro f cdv A outer s H E hr
  refine ⟨_, (vss_cons (vs_par3 (i := 1) (j := 2) (l := 3) rfl S.nd rfl rfl rfl (by decide) (by decide) (by decide) rfl rfl rfl (va_cons (v_callK k_last_doors hr (va_cons (v_var (pv 0)) va_nil)) (va_cons (v_lstO va_nil) (va_cons (v_lstO (va_cons (v_tup (va_cons (v_tup va_nil) (va_cons (v_op o_repT (v_tup (va_cons v_int va_nil)) (v_ix (v_var (pv 0)) v_int)) va_nil))) va_nil)) va_nil))) (by rfl)) (vss_cons (vs_if (t_cmp (o_in hr.r) (v_un o_neg v_int) (v_var (pv 1)) (by with_unfolding_all rfl)) (vss_one (vs_ret (v_lst va_nil))) vss_nil) (vss_cons (vs_while PassesOwn.never (t_cmp (o_ne hr.r) (v_var (pv 3)) (v_lst va_nil) (nomark _)) (vss_cons (vs_asg (v_pop0 (v_var (pv 3))) (vg_tup (n := 2) rfl (vgs_cons (vg_name (pg_name (i := 4) S.nd rfl (by first | exact Or.inl rfl | exact Or.inr rfl))) (vgs_cons (vg_name (pg_name (i := 5) S.nd rfl (by first | exact Or.inl rfl | exact Or.inr rfl))) vgs_nil)))) (vss_one (vs_if (t_cmp (o_eq hr.r) (v_callB c_len (hB _ (by decide +kernel)) (va_cons (v_var (pv 4)) va_nil)) (v_callB c_len (hB _ (by decide +kernel)) (va_cons (v_ix (v_var (pv 0)) v_int) va_nil)) (nomark _)) (vss_cons (vs_setLc (i := 6) (hc := rfl) (hN := S.nd) (hy := rfl) (hyl := rfl) (hsw := sw_true rfl rfl rfl (by decide +kernel))  (own := [("word", 7)]) (vi_seq (v_tup (va_cons v_int (va_cons v_int va_nil)))) (blkOk_by (by first | rfl | kernel_rfl)) (lcg_name (fun _ _ _ _ _ => pg_name (i := 7) S.nd rfl (by first | exact Or.inl rfl | exact Or.inr rfl))) (fun _ _ _ _ _ => vts_nil) (fun _ _ _ _ _ => (v_callTy c_tuple (hB _ (by decide +kernel)) (va_cons (v_lc (own := [("place", 8), ("one", 9)]) rfl S.nd (vi_enumT (hB _ (by decide +kernel)) (va_cons (v_var (pv 4)) va_nil)) (blkOk_by (by first | rfl | kernel_rfl)) (lcg_tup (n := 2) rfl (lcgs_cons (lcg_name (fun _ _ _ _ _ => pg_name (i := 8) S.nd rfl (by first | exact Or.inl rfl | exact Or.inr rfl))) (lcgs_cons (lcg_name (fun _ _ _ _ _ => pg_name (i := 9) S.nd rfl (by first | exact Or.inl rfl | exact Or.inr rfl))) lcgs_nil))) (fun _ _ _ _ _ => (vts_one (t_cmp (o_eq hr.r) (v_var (pv 9)) (v_var (pv 7)) (nomark _)))) (fun _ _ _ _ _ => (v_var (pv 8)))) va_nil)))) (vss_one (vs_expr (v_append (v_var (pv 2)) (va_cons (v_tup (va_cons (v_ix (v_var (pv 6)) v_int) (va_cons (v_ix (v_var (pv 6)) v_int) va_nil))) va_nil))))) (vss_one (vs_expr (v_extend (v_var (pv 3)) (va_cons (v_callK k_steps_on hr (va_cons (v_var (pv 0)) (va_cons (v_var (pv 1)) (va_cons (v_var (pv 4)) (va_cons (v_var (pv 5)) va_nil))))) va_nil)))))))) (vss_one (vs_ret (v_callB (c_sortD hr.r) (hB _ (by decide +kernel)) (va_cons (v_var (pv 2)) va_nil))))))), ?_⟩
  clear hr S
  rintro _ M Q ⟨x0, rfl, h⟩
  rw [show vstart N_factors_of.length [x0] = [some x0, none, none, none, none, none, none, none, none, none] from rfl]
  obtain ⟨n, ds, rfl, ok, d9, h⟩ := h
  obtain ⟨n2, n8, d1, d16, hd, _⟩ := id ok
  have sz := size1000
  have s16 := size16
  refine s_hide fun R1 hR1 => ?_
  simp
  refine pr1_at.mpr ⟨n, ds, rfl, ok, fun p hp => ?_⟩
  have tz : (List.replicate n.toNat [D.int 0]).flatten = (List.replicate n.toNat (0 : Int)).map D.int := rep_one
  have ltot : totalF n ds = leavesF (lastF n ds) ds [] (List.replicate n.toNat 0) := rfl
  have Ll : (lastF n ds).length = n.toNat := (lastFold_len _ _).trans List.length_replicate
  unfold factsF at h
  generalize totalF n ds = T at h ltot
  generalize lastF n ds = L at *
  intro q hq
  have pq : p ≠ q := fun e => by rw [← e, mupd_same] at hq; cases hq
  rw [mupd_ne (Ne.symm pq)] at hq
  simp [webD]
  refine (show oRepT _ _ _ _ from ⟨[.int 0], n, rfl, rfl, by simp, by omega, by omega, by simp, ?_⟩)
  rw [tz]
  intro r hr
  have pr : p ≠ r := fun e => by rw [← e, mupd_ne pq, mupd_same] at hr; cases hr
  have qr : q ≠ r := fun e => by rw [← e, mupd_same] at hr; cases hr
  rw [mupd_ne (Ne.symm qr), mupd_ne (Ne.symm pr)] at hr
  refine ⟨_, _, _, ⟨rfl, rfl, rfl⟩, ?_⟩
  rw [show D.tup [D.int n, D.tup (ds.map dD)] = webD n ds from rfl]
  obtain ⟨Z, hZ⟩ : ∃ Z, Z = List.replicate n.toNat (0 : Int) := ⟨_, rfl⟩
  have zl : Z.length = n.toNat := by rw [hZ]; exact List.length_replicate
  rw [← hZ] at ltot ⊢
  clear hZ tz
  rw [show D.tup [D.tup [], D.tup (Z.map D.int)] = fD ([], Z) from rfl]
  have sub0 : VL.Sub M (mupd (mupd (mupd M p (.lst (L.map D.int))) q (.lst [])) r (.lst [fD ([], Z)])) := ((VL.Sub.new hp).wr hq).wr hr
  have N0p : mupd (mupd (mupd M p (.lst (L.map D.int))) q (.lst [])) r (.lst [fD ([], Z)]) p = some (.lst (L.map D.int)) := by rw [mupd_ne pr, mupd_ne pq, mupd_same]
  have N0q : mupd (mupd (mupd M p (.lst (L.map D.int))) q (.lst [])) r (.lst [fD ([], Z)]) q = some (.lst []) := by rw [mupd_ne qr, mupd_same]
  have N0r : mupd (mupd (mupd M p (.lst (L.map D.int))) q (.lst [])) r (.lst [fD ([], Z)]) r = some (.lst [fD ([], Z)]) := mupd_same
  show R1 _ _ _
  generalize mupd (mupd (mupd M p (.lst (L.map D.int))) q (.lst [])) r (.lst [fD ([], Z)]) = N0 at sub0 N0p N0q N0r ⊢
  subst hR1
  refine s_hide fun R1 hR1 => ?_
  simp
  have inL : ∀ (Q : VL.VK), Q (.bl (decide (-1 ∈ L))) N0 → oIn (.int (-1)) (.obj p) N0 Q := fun Q q => by
    refine ⟨L.map D.int, by simp [asI, asL_obj N0p], sh_int, fun z hz => ?_, by rw [inD_ints]; exact q⟩
    obtain ⟨x, _, rfl⟩ := List.mem_map.mp hz
    exact sh_int
  refine inL _ ?_
  by_cases m1 : -1 ∈ L
  · rw [if_pos m1] at h
    exact .inr ⟨by rw [decide_eq_true m1], _, sub0, h⟩
  rw [if_neg m1] at h
  refine .inl ⟨by rw [decide_eq_false m1], ?_⟩
  show R1 _ _ _
  subst hR1
  refine s_hide fun R1 hR1 => ?_
  show sWhile _ _ _ _ _
  refine ⟨fun m e N => ∃ (rows : List (List Int)) (S : List (List Int × List Int)), VL.Sub M N ∧ N p = some (.lst (L.map D.int)) ∧ N q = some (.lst (rows.map fun x => fD (facOf x))) ∧ N r = some (.lst (S.map fD)) ∧ (∀ z ∈ S, z.1.length ≤ ds.length ∧ z.2.length = n.toNat) ∧ rows ++ stkF ds L S = T ∧ rows.length + wt ds.length S ≤ 4 ^ 10 ∧ m = wt ds.length S ∧ ∃ e4 e5 e6 e7 e8 e9, e = [some (webD n ds), some (.obj p), some (.obj q), some (.obj r), e4, e5, e6, e7, e8, e9],
    ⟨_, [], [([], Z)], sub0, N0p, N0q, N0r, fun z hz => ?_, ?_, ?_, rfl, _, _, _, _, _, _, rfl⟩, fun m e N ⟨rows, S, sub, Np, Nq, Nr, hS, hT, hW, hm, e4, e5, e6, e7, e8, e9, he⟩ => ?_⟩
  · rw [List.mem_singleton.mp hz]
    exact ⟨Nat.zero_le _, zl⟩
  · rw [ltot]
    unfold stkF
    simp
  · have : (4 : Nat) ^ (ds.length + 1) ≤ 4 ^ 10 := Nat.pow_le_pow_right (by decide) (by omega)
    unfold wt
    simpa using this
  · subst he
    have p10 : (4 : Nat) ^ 10 = 1048576 := by decide
    simp
    refine oNe_nil (asL_obj Nr) (fun x hx => ?_) ?_
    · obtain ⟨z, _, rfl⟩ := List.mem_map.mp hx
      exact sh_fD
    rcases List.eq_nil_or_concat S with rfl | ⟨S', z, rfl⟩
    · refine .inl ⟨rfl, ?_⟩
      have eT : rows = T := by
        have e0 : stkF ds L [] = [] := rfl
        rw [e0, List.append_nil] at hT
        exact hT
      subst hR1
      simp
      rw [show wt ds.length [] = 0 from rfl] at hW
      refine sort_facts (rows.map facOf) (by rw [List.length_map]; omega) N _ _ (by simp [asI, asL_obj Nq]) ?_
      refine ⟨_, sub, ?_⟩
      rw [eT]
      exact h
    · rw [List.concat_eq_append] at *
      refine .inr ⟨by simp, ?_⟩
      obtain ⟨row, st⟩ := z
      obtain ⟨rl, sl⟩ := hS (row, st) (by simp)
      simp only at rl sl
      have wS : wt ds.length (S' ++ [(row, st)]) = wt ds.length S' + 4 ^ (ds.length + 1 - row.length) := wt_snoc
      have kS : stkF ds L (S' ++ [(row, st)]) = leavesF L (ds.drop row.length) row st ++ stkF ds L S' := stk_snoc
      refine ⟨_, Nr, fD (row, st), by simp, ?_⟩
      rw [show (List.map fD (S' ++ [(row, st)])).dropLast = S'.map fD by simp]
      refine ⟨[.tup (row.map D.int), .tup (st.map D.int)], rfl, rfl, ?_⟩
      have sub1 : VL.Sub M (mupd N r (.lst (S'.map fD))) := sub.wr hr
      have N1p : mupd N r (.lst (S'.map fD)) p = some (.lst (L.map D.int)) := by rw [mupd_ne pr]; exact Np
      have N1q : mupd N r (.lst (S'.map fD)) q = some (.lst (rows.map fun x => fD (facOf x))) := by rw [mupd_ne qr]; exact Nq
      have N1r : mupd N r (.lst (S'.map fD)) r = some (.lst (S'.map fD)) := mupd_same
      generalize mupd N r (.lst (S'.map fD)) = N1 at sub1 N1p N1q N1r ⊢
      clear Nr Nq Np sub
      simp [webD]
      rw [show D.tup [D.int n, D.tup (ds.map dD)] = webD n ds from rfl]
      by_cases rm : row.length = ds.length
      · refine .inr ⟨by omega, ?_⟩
        refine vLc_al [(2 : Int), 1] D.int (fun w => .tup ((placesOf row w).map D.int)) (w := ⟨[.int 2, .int 1], fun _ => True⟩) (fun R r => by simpa [asI] using r) rfl trivial (by simp; omega) (fun w hw A hA => ?_) ?_
        · simp [vwipe]
          refine vLc_alF row.zipIdx (fun z => .tup [.int (z.2 : Int), .int z.1]) (fun z => decide (z.1 = w)) (fun z => .int (z.2 : Int)) (w := ⟨enD (row.map D.int), fun _ => True⟩) (fun R r => by simpa using r) (enD_zip _ _) trivial (by rw [List.length_zipIdx]; omega) (fun z hz A' B' hA' hB' => ?_) ?_
          · simp [vwipe]
            by_cases e : z.1 = w
            · exact .inr ⟨e, hA' (decide_eq_true e)⟩
            · exact .inl ⟨e, hB' (decide_eq_false e)⟩
          · refine (show rTuple _ _ _ from ⟨_, rfl, ?_⟩)
            rw [show (row.zipIdx.filter fun z => decide (z.1 = w)).map (fun z => D.int (z.2 : Int)) = (placesOf row w).map D.int by unfold placesOf; rw [List.map_map]; rfl]
            exact hA
        · have kl : leavesF L (ds.drop row.length) row st = [row] := by
            rw [rm, List.drop_length]
            rfl
          rw [kS, kl] at hT
          have w4 : 4 ^ (ds.length + 1 - row.length) = 4 := by rw [rm, show ds.length + 1 - ds.length = 1 by omega]
          rw [wS, w4] at hW hm
          refine ⟨⟨_, N1q⟩, ?_⟩
          refine ⟨_, rfl, .tup ((placesOf row 2).map D.int), rfl, _, rfl, .tup ((placesOf row 1).map D.int), rfl, _, N1q, by rw [List.length_map]; omega, wt ds.length S', by omega, sub1.wr hq, by rw [mupd_ne pq]; exact N1p, rows ++ [row], by simp [fD, facOf], S', by rw [mupd_ne (Ne.symm qr)]; exact N1r, fun a b hz => hS (a, b) (List.mem_append_left _ hz), by rw [List.append_assoc]; exact hT, by rw [List.length_append, List.length_singleton]; omega, rfl⟩
      · refine .inl ⟨by omega, ⟨_, N1r⟩, ?_⟩
        have rlt : row.length < ds.length := by omega
        refine pr4_at.mpr ⟨n, ds, p, L, row, st, rfl, rfl, rfl, rfl, ok, N1p, Ll, sl, rlt, fun u hu => ?_⟩
        have up : p ≠ u := fun e => by rw [← e, N1p] at hu; cases hu
        have uq : q ≠ u := fun e => by rw [← e, N1q] at hu; cases hu
        have ur : r ≠ u := fun e => by rw [← e, N1r] at hu; cases hu
        have ws := wt_steps (m := ds.length) (L := L) (row := row) (st := st) (d := ds.getD row.length (0, 0)) rlt
        have ks := stk_steps (ds := ds) (L := L) (S := S') (row := row) (st := st) rlt
        obtain ⟨sl3, sok⟩ := steps_len (L := L) (row := row) (st := st) (d := ds.getD row.length (0, 0))
        generalize stepsF L row st (ds.getD row.length (0, 0)) = V at ws ks sl3 sok ⊢
        rw [kS, ← ks] at hT
        rw [wS] at hW hm
        have wl := wt_len (m := ds.length) (S := S')
        refine ⟨_, by rw [mupd_ne ur]; exact N1r, _, asP_obj mupd_same, by rw [List.length_map, List.length_map]; omega, wt ds.length (S' ++ V), by rw [wt_app]; omega, (sub1.trans (VL.Sub.new hu)).wr hr, by rw [mupd_ne pr, mupd_ne up]; exact N1p, rows, by rw [mupd_ne qr, mupd_ne uq]; exact N1q, S' ++ V, by rw [List.map_append], fun a b hz => ?_, hT, by rw [wt_app]; omega, rfl⟩
        rcases List.mem_append.mp hz with hz | hz
        · exact hS (a, b) (List.mem_append_left _ hz)
        · have := sok (a, b) hz
          simp only at this
          exact ⟨by omega, by omega⟩
abbrev N_factors : List Str := ["web"]
abbrev P_factors : List Str := ["web"]
theorem sc_factors : FnScope N_factors P_factors (defScope s_factors) := ⟨rfl, rfl, rfl, by decide +kernel, rfl, by decide +kernel, by decide +kernel⟩
def p_factors : VSp := pr1 fun a M Q => ∃ n ds, a = webD n ds ∧ WebOk n ds ∧ ds.length ≤ 9 ∧ Q (.tup ((factsF n ds).map fD)) M
theorem ok_factors {P : Program} {w : World} {K : PySem.W.Frag} {mg : Str → Option Value} {base : Heap} (hD : Df K mg "factors" s_factors) (hB : Fr mg bl) (k_check_web : Kn P w K mg base 5 "check_web" P_check_web p_check_web) (k_factors_of : Kn P w K mg base 3 "factors_of" P_factors_of p_factors_of) : Kn P w K mg base 6 "factors" P_factors p_factors := by
  have S := sc_factors
  refine kn_of hD sc_factors (fun _ _ _ _ _ _ us hl => match us, hl with | [_], _ => rfl) pr1_len ?_
  intro f cdv A outer s H E hr
  refine ⟨_, (vss_cons (vs_expr (v_callK k_check_web hr (va_cons (v_var (pv 0)) va_nil))) (vss_one (vs_ret (v_callTy c_tuple (hB _ (by decide +kernel)) (va_cons (v_callK k_factors_of hr (va_cons (v_var (pv 0)) va_nil)) va_nil))))), ?_⟩
  clear hr S
  rintro _ M Q ⟨x0, rfl, h⟩
  rw [show vstart N_factors.length [x0] = [some x0] from rfl]
  obtain ⟨n, ds, rfl, ok, d9, h⟩ := h
  simp
  refine pr1_at.mpr ⟨n, ds, rfl, ok, ?_⟩
  exact pr1_at.mpr ⟨n, ds, rfl, ok, d9, _, rfl, h⟩
end K53
namespace K53
open PySem PySem.Spec L2 VL
def rowD (r : List Int) : D := .lst (r.map D.int)
def gd (r : List Int) (i : Nat) : Int := r.getD i 0
def wo (row other : List Int) (at' : Nat) : List Int := (row.zip other).map fun p => p.1 * gd other at' - gd row at' * p.2
def Bd (b : Nat) (r : List Int) : Prop := ∀ x ∈ r, x.natAbs ≤ b
theorem zipD_ints (xs ys : List Int) : zipD (xs.map D.int) (ys.map D.int) = (xs.zip ys).map fun p => .tup [.int p.1, .int p.2] := by
  unfold zipD
  rw [List.zip_map, List.map_map]
  rfl
theorem getD_bd {b : Nat} {r : List Int} (h : Bd b r) (i : Nat) : (gd r i).natAbs ≤ b := by
  unfold gd
  rw [List.getD_eq_getElem?_getD]
  cases e : r[i]? with
  | none => simp
  | some x => exact h x (List.mem_of_getElem? e)
theorem at_getD {r : List Int} {i : Nat} (h : i < r.length) : (r.map D.int)[i]? = some (.int (gd r i)) := by
  unfold gd
  rw [List.getElem?_map, List.getD_eq_getElem?_getD, List.getElem?_eq_getElem h] <;> rfl
abbrev N_without : List Str := ["row", "other", "at", "entry", "its"]
abbrev P_without : List Str := ["row", "other", "at"]
theorem sc_without : FnScope N_without P_without (defScope s_without) := ⟨rfl, rfl, rfl, by decide +kernel, rfl, by decide +kernel, by decide +kernel⟩
def p_without : VSp := pr3 fun a b c M Q => ∃ (row other : List Int) (i : Nat), a = rowD row ∧ b = rowD other ∧ c = .int i ∧ i < row.length ∧ i < other.length ∧ row.length ≤ 1000 ∧ Bd 9223372036854775808 row ∧ Bd 9223372036854775808 other ∧ Q (rowD (wo row other i)) M
theorem ok_without {P : Program} {w : World} {K : PySem.W.Frag} {mg : Str → Option Value} {base : Heap} (hD : Df K mg "without" s_without) (hB : Fr mg bl) : Kn P w K mg base 1 "without" P_without p_without := by
  have S := sc_without
  refine kn_of hD sc_without (fun _ _ _ _ _ _ us hl => match us, hl with | [_, _, _], _ => rfl) pr3_len ?_
  intro f cdv A outer s H E hr
  refine ⟨_, (vss_one (vs_ret (v_lc (own := [("entry", 3), ("its", 4)]) rfl S.nd (vi_zip (hB _ (by decide +kernel)) (va_cons (v_var (pv 0)) (va_cons (v_var (pv 1)) va_nil))) (blkOk_by (by first | rfl | kernel_rfl)) (lcg_tup (n := 2) rfl (lcgs_cons (lcg_name (fun _ _ _ _ _ => pg_name (i := 3) S.nd rfl (by first | exact Or.inl rfl | exact Or.inr rfl))) (lcgs_cons (lcg_name (fun _ _ _ _ _ => pg_name (i := 4) S.nd rfl (by first | exact Or.inl rfl | exact Or.inr rfl))) lcgs_nil))) (fun _ _ _ _ _ => vts_nil) (fun _ _ _ _ _ => (v_op o_sub (v_op o_mulI (v_var (pv 3)) (v_ix (v_var (pv 1)) (v_var (pv 2)))) (v_op o_mulI (v_ix (v_var (pv 0)) (v_var (pv 2))) (v_var (pv 4)))))))), ?_⟩
  clear hr S
  rintro _ M Q ⟨x0, x1, x2, rfl, h⟩
  rw [show vstart N_without.length [x0, x1, x2] = [some x0, some x1, some x2, none, none] from rfl]
  obtain ⟨row, other, i, rfl, rfl, rfl, h1, h2, h3, b1, b2, h⟩ := h
  simp
  refine vLc_al (row.zip other) (fun p => .tup [.int p.1, .int p.2]) (fun p => .int (p.1 * gd other i - gd row i * p.2)) (w := ⟨zipD (row.map D.int) (other.map D.int), fun _ => True⟩) (fun R r => ?_) (zipD_ints _ _) trivial ?_ (fun p hp A hA => ?_) ?_
  · simpa [rowD, and_assoc] using r
  · have := size1000; simp; omega
  · have hm := List.of_mem_zip (show (p.1, p.2) ∈ row.zip other from hp)
    have c1 := b1 p.1 hm.1
    have c2 := b2 p.2 hm.2
    have d1 := getD_bd b1 i
    simp [vwipe, rowD, atI_k, at_getD h1, at_getD h2]
    exact ⟨.inl (by omega), .inl (by omega), hA⟩
  · simpa [rowD, wo, Function.comp_def] using h
def nz (r : List Int) : List Nat := (List.range r.length).filter fun i => decide (gd r i ≠ 0)
def rkA : Nat → List (List Int) → Nat
  | 0, _ => 0
  | _ + 1, [] => 0
  | f + 1, head :: rest => match nz head with
    | [] => rkA f rest
    | a :: _ => rkA f (rest.map fun row => wo row head a) + 1
def bd : Nat → Nat
  | 0 => 1
  | k + 1 => 2 * (bd k * bd k)
theorem bd_mono1 (k : Nat) : bd k ≤ bd (k + 1) := by
  show bd k ≤ 2 * (bd k * bd k)
  have h : 1 ≤ bd k ∨ bd k = 0 := by omega
  rcases h with h | h
  · have := Nat.mul_le_mul h (Nat.le_refl (bd k))
    omega
  · omega
theorem bd_mono {i j : Nat} (h : i ≤ j) : bd i ≤ bd j := by
  induction h with
  | refl => exact Nat.le_refl _
  | step _ ih => exact Nat.le_trans ih (bd_mono1 _)
theorem Bd.mono {i j : Nat} {r : List Int} (h : Bd i r) (l : i ≤ j) : Bd j r := fun x hx => Nat.le_trans (h x hx) l
theorem wo_bd {k : Nat} {r o : List Int} {i : Nat} (h1 : Bd (bd k) r) (h2 : Bd (bd k) o) : Bd (bd (k + 1)) (wo r o i) := by
  intro x hx
  obtain ⟨p, hp, rfl⟩ := List.mem_map.mp hx
  have hm := List.of_mem_zip (show (p.1, p.2) ∈ r.zip o from hp)
  have c1 := Nat.mul_le_mul (h1 p.1 hm.1) (getD_bd h2 i)
  have c2 := Nat.mul_le_mul (getD_bd h1 i) (h2 p.2 hm.2)
  rw [← Int.natAbs_mul] at c1 c2
  show _ ≤ 2 * (bd k * bd k)
  omega
theorem wo_len {r o : List Int} {i : Nat} (h : r.length = o.length) : (wo r o i).length = r.length := by
  simp [wo, h]
theorem sh_row {n : Nat} (r : List Int) : Sh (n + 1) (rowD r) := fun x hx => by
  obtain ⟨i, _, rfl⟩ := List.mem_map.mp hx
  exact sh_int
theorem en_row (r : List Int) : enD (r.map D.int) = (List.range r.length).map fun i => .tup [.int ((i : Nat) : Int), .int (gd r i)] := by
  unfold enD
  rw [List.length_map]
  refine List.map_congr_left fun i hi => ?_
  have hi' : i < r.length := List.mem_range.mp hi
  have e : (r.map D.int).getD i .non = .int (gd r i) := by
    rw [List.getD_eq_getElem?_getD, at_getD hi'] <;> rfl
  rw [e]
abbrev N_rank_of : List Str := ["rows", "found", "head", "at", "place", "entry", "row"]
abbrev P_rank_of : List Str := ["rows"]
theorem sc_rank_of : FnScope N_rank_of P_rank_of (defScope s_rank_of) := ⟨rfl, rfl, rfl, by decide +kernel, rfl, by decide +kernel, by decide +kernel⟩
def p_rank_of : VSp := pr1 fun a M Q => ∃ (rows : List (List Int)) (c : Nat), a = .lst (rows.map rowD) ∧ rows.length ≤ 7 ∧ c ≤ 100 ∧ (∀ r ∈ rows, r.length = c ∧ Bd 1 r) ∧ Q (.int (rkA rows.length rows)) M
theorem ok_rank_of {P : Program} {w : World} {K : PySem.W.Frag} {mg : Str → Option Value} {base : Heap} (hD : Df K mg "rank_of" s_rank_of) (hB : Fr mg bl) (k_without : Kn P w K mg base 1 "without" P_without p_without) : Kn P w K mg base 2 "rank_of" P_rank_of p_rank_of := by
  have S := sc_rank_of
  refine kn_of hD sc_rank_of (fun _ _ _ _ _ _ us hl => match us, hl with | [_], _ => rfl) pr1_len ?_
  intro f cdv A outer s H E hr
  refine ⟨_, (vss_cons (vs_set (i := 1) S.nd rfl (Or.inl rfl) v_int) (vss_cons (vs_while PassesOwn.never (t_cmp (o_ne hr.r) (v_var (pv 0)) (v_lst va_nil) (nomark _)) (vss_cons (vs_set (i := 2) S.nd rfl (Or.inr rfl) (v_ix (v_var (pv 0)) v_int)) (vss_cons (vs_set (i := 3) S.nd rfl (Or.inr rfl) (v_lc (own := [("place", 4), ("entry", 5)]) rfl S.nd (vi_enum (hB _ (by decide +kernel)) (va_cons (v_var (pv 2)) va_nil)) (blkOk_by (by first | rfl | kernel_rfl)) (lcg_tup (n := 2) rfl (lcgs_cons (lcg_name (fun _ _ _ _ _ => pg_name (i := 4) S.nd rfl (by first | exact Or.inl rfl | exact Or.inr rfl))) (lcgs_cons (lcg_name (fun _ _ _ _ _ => pg_name (i := 5) S.nd rfl (by first | exact Or.inl rfl | exact Or.inr rfl))) lcgs_nil))) (fun _ _ _ _ _ => (vts_one (t_cmp (o_ne hr.r) (v_var (pv 5)) v_int (nomark _)))) (fun _ _ _ _ _ => (v_var (pv 4))))) (vss_cons (vs_setLc (i := 0) (hc := rfl) (hN := S.nd) (hy := rfl) (hyl := rfl) (hsw := sw_true rfl rfl rfl (by decide +kernel))  (own := [("row", 6)]) (vi_seq (v_sl (v_var (pv 0)) (vo_some v_int) vo_none)) (blkOk_by (by first | rfl | kernel_rfl)) (lcg_name (fun _ _ _ _ _ => pg_name (i := 6) S.nd rfl (by first | exact Or.inl rfl | exact Or.inr rfl))) (fun _ _ _ _ _ => vts_nil) (fun _ _ _ _ _ => (v_if (t_cmp (o_ne hr.r) (v_var (pv 3)) (v_lst va_nil) (nomark _)) (v_callK k_without hr (va_cons (v_var (pv 6)) (va_cons (v_var (pv 2)) (va_cons (v_ix (v_var (pv 3)) v_int) va_nil)))) (v_var (pv 6))))) (vss_one (vs_set (i := 1) S.nd rfl (Or.inl rfl) (v_op o_add (v_var (pv 1)) (v_callTy c_int (hB _ (by decide +kernel)) (va_cons (v_cmp (o_ne hr.r) (v_var (pv 3)) (v_lst va_nil) (nomark _)) va_nil))))))))) (vss_one (vs_ret (v_var (pv 1)))))), ?_⟩
  clear hr S
  rintro _ M Q ⟨x0, rfl, h⟩
  rw [show vstart N_rank_of.length [x0] = [some x0, none, none, none, none, none, none] from rfl]
  obtain ⟨rows0, c, rfl, h7, hc, hr0, h⟩ := h
  simp
  refine ⟨fun m e M' => M' = M ∧ ∃ rows found d2 d3, m = rows.length ∧ rows.length ≤ 7 ∧ (∀ r ∈ rows, r.length = c ∧ Bd (bd (7 - rows.length)) r) ∧ e = [some (.lst (rows.map rowD)), some (.int found), d2, d3, none, none, none] ∧ found + rkA rows.length rows = rkA rows0.length rows0, ⟨_, rfl, rows0, 0, _, _, rfl, h7, fun r hr => ⟨(hr0 r hr).1, (hr0 r hr).2.mono (bd_mono (Nat.zero_le _))⟩, rfl, by simp⟩, ?_⟩
  rintro m e M' ⟨rfl, rows, found, d2, d3, rfl, hl, hr, rfl, ht⟩
  simp
  refine oNe_nil rfl (fun x hx => by obtain ⟨r, _, rfl⟩ := List.mem_map.mp hx; exact sh_row r) ?_
  cases rows with
  | nil =>
    simp
    have e : found = rkA rows0.length rows0 := by
      have : rkA ([] : List (List Int)).length [] = 0 := rfl
      rw [this] at ht; omega
    rw [e]; exact h
  | cons head rest =>
    simp
    obtain ⟨hh1, hh2⟩ := hr head List.mem_cons_self
    have b63 : bd (7 - (head :: rest).length) ≤ 9223372036854775808 := Nat.le_trans (bd_mono (j := 6) (by simp <;> omega)) (by decide)
    refine vLc_alF (List.range head.length) (fun i => .tup [.int ((i : Nat) : Int), .int (gd head i)]) (fun i => decide (gd head i ≠ 0)) (fun i => .int (i : Nat)) (w := ⟨enD (head.map D.int), fun M' => asL M' (rowD head) = some (head.map D.int)⟩) (fun R r => ?_) (en_row head) rfl (by have := size1000; rw [List.length_range]; omega) (fun i hi A B hA hB => ?_) ?_
    · simpa [rowD] using r
    · by_cases z : gd head i = 0
      · simp [z] at hA hB
        simp [vwipe, z]; exact hB
      · simp [z] at hA hB
        simp [vwipe, z]; exact hA
    · show VL.vLc _ _ _ _ _ _ _ _
      rw [show (List.filter (fun i => decide (gd head i ≠ 0)) (List.range head.length)) = nz head from rfl]
      have hrest : ∀ r ∈ rest, r.length = c ∧ Bd (bd (7 - (head :: rest).length)) r := fun r hr' => hr r (List.mem_cons_of_mem _ hr')
      have e7 : 7 - rest.length = 7 - (head :: rest).length + 1 := by simp at hl ⊢; omega
      have shn : ∀ x ∈ (nz head).map fun i => D.int ((i : Nat) : Int), Sh 29 x := fun x hx => by
        obtain ⟨i, _, rfl⟩ := List.mem_map.mp hx; exact sh_int
      cases hz : nz head with
      | nil =>
        refine vLc_al rest rowD rowD (w := ⟨rest.map rowD, fun _ => True⟩) (fun R r => ?_) rfl trivial (by have := size1000; simp at hl; omega) (fun r hr' A hA => ?_) ?_
        · simpa [cut_tail] using r
        · simp [vwipe]
          refine oNe_nil (xs := []) rfl (fun _ z => nomatch z) ?_
          simpa using hA
        · refine oNe_nil (xs := []) rfl (fun _ z => nomatch z) ?_
          simp
          have ek : rkA (head :: rest).length (head :: rest) = rkA rest.length rest := by
            show (match nz head with | [] => rkA rest.length rest | a :: _ => _) = _
            rw [hz]
          rw [ek] at ht
          exact ⟨rest.length, by omega, rest, rfl, by simp at hl; omega, fun r hr' => ⟨(hrest r hr').1, (hrest r hr').2.mono (bd_mono (by simp; omega))⟩, _, ⟨rfl, rfl⟩, by omega⟩
      | cons a as =>
        have ha : a < head.length := by
          have : a ∈ nz head := by rw [hz]; exact List.mem_cons_self
          have := (List.mem_filter.mp this).1
          exact List.mem_range.mp this
        refine vLc_al rest rowD (fun r => rowD (wo r head a)) (w := ⟨rest.map rowD, fun _ => True⟩) (fun R r => ?_) rfl trivial (by have := size1000; simp at hl; omega) (fun r hr' A hA => ?_) ?_
        · simpa [cut_tail] using r
        · simp [vwipe]
          refine oNe_nil (xs := ((a :: as).map fun i => D.int ((i : Nat) : Int))) (by simp) (by rw [← hz]; exact shn) ?_
          simp
          exact pr3_at.mpr ⟨r, head, a, rfl, rfl, rfl, by rw [(hrest r hr').1, ← hh1]; exact ha, ha, by rw [(hrest r hr').1]; omega, (hrest r hr').2.mono b63, hh2.mono b63, hA⟩
        · refine oNe_nil (xs := ((a :: as).map fun i => D.int ((i : Nat) : Int))) (by simp) (by rw [← hz]; exact shn) ?_
          simp
          have ek : rkA (head :: rest).length (head :: rest) = rkA rest.length (rest.map fun row => wo row head a) + 1 := by
            show (match nz head with | [] => rkA rest.length rest | a :: _ => rkA rest.length (rest.map fun row => wo row head a) + 1) = _
            rw [hz]
          rw [ek] at ht
          refine ⟨rest.length, by omega, rest.map fun row => wo row head a, by simp, by simp at hl ⊢; omega, fun r hr' => ?_, _, ⟨by simp [Function.comp_def], rfl⟩, ?_⟩
          · obtain ⟨r0, h0, rfl⟩ := List.mem_map.mp hr'
            rw [List.length_map, e7]
            exact ⟨by rw [wo_len (by rw [(hrest r0 h0).1, hh1])]; exact (hrest r0 h0).1, wo_bd (hrest r0 h0).2 hh2⟩
          · rw [List.length_map]; omega
def inc (r : Int) (d : Int × Int) : Int := if d.1 = r ∨ d.2 = r then 1 else 0
def rowsOf (n : Nat) (ds : List (Int × Int)) : List (List Int) := (List.range (n - 1)).map fun i => ds.map fun d => inc (((i : Nat) : Int) + 1) d - inc 0 d
def spN (n : Nat) (ds : List (Int × Int)) : Int := (ds.length : Int) - (rkA (n - 1) (rowsOf n ds) : Nat)
theorem in_dD (r : Int) (d : Int × Int) (M : Mem) (Q : VL.VK) (q : Q (.bl (decide (d.1 = r ∨ d.2 = r))) M) : oIn (.int r) (dD d) M Q := by
  refine ⟨[.int d.1, .int d.2], rfl, sh_int, fun z hz => ?_, ?_⟩
  · simp at hz
    rcases hz with rfl | rfl <;> exact sh_int
  · have e : inD (.int r) [.int d.1, .int d.2] = decide (d.1 = r ∨ d.2 = r) := by
      simp only [inD, List.any_cons, List.any_nil, eqD_int, Bool.or_false]
      by_cases h1 : d.1 = r <;> by_cases h2 : d.2 = r <;> simp [h1, h2]
    rw [e]; exact q
theorem b2i_inc (r : Int) (d : Int × Int) : (if decide (d.1 = r ∨ d.2 = r) = true then (1 : Int) else 0) = inc r d := by
  unfold inc
  by_cases h : d.1 = r ∨ d.2 = r <;> simp [h]
theorem range_tail (n : Nat) : (List.range n).tail = (List.range (n - 1)).map (· + 1) := by
  cases n with
  | zero => rfl
  | succ n => rw [List.range_succ_eq_map, List.tail_cons, Nat.add_sub_cancel]
theorem inc_bd (a b : Int) (d : Int × Int) : (inc a d - inc b d).natAbs ≤ 1 := by
  unfold inc
  split <;> split <;> decide
abbrev N_space : List Str := ["web", "at", "rows", "room", "door", "row", "here", "first"]
abbrev P_space : List Str := ["web"]
theorem sc_space : FnScope N_space P_space (defScope s_space) := ⟨rfl, rfl, rfl, by decide +kernel, rfl, by decide +kernel, by decide +kernel⟩
def p_space : VSp := pr1 fun a M Q => ∃ (n : Nat) (ds : List (Int × Int)), a = webD n ds ∧ WebOk n ds ∧ Q (.int (spN n ds)) M
theorem ok_space {P : Program} {w : World} {K : PySem.W.Frag} {mg : Str → Option Value} {base : Heap} (hD : Df K mg "space" s_space) (hB : Fr mg bl) (k_check_web : Kn P w K mg base 5 "check_web" P_check_web p_check_web) (k_rank_of : Kn P w K mg base 2 "rank_of" P_rank_of p_rank_of) : Kn P w K mg base 6 "space" P_space p_space := by
  have S := sc_space
  refine kn_of hD sc_space (fun _ _ _ _ _ _ us hl => match us, hl with | [_], _ => rfl) pr1_len ?_
  intro f cdv A outer s H E hr
  refine ⟨_, (vss_cons (vs_expr (v_callK k_check_web hr (va_cons (v_var (pv 0)) va_nil))) (vss_cons (vs_set (i := 1) S.nd rfl (Or.inr rfl) (v_lc (own := [("room", 3)]) rfl S.nd (vi_range1 (hB _ (by decide +kernel)) (va_cons (v_ix (v_var (pv 0)) v_int) va_nil)) (blkOk_by (by first | rfl | kernel_rfl)) (lcg_name (fun _ _ _ _ _ => pg_name (i := 3) S.nd rfl (by first | exact Or.inl rfl | exact Or.inr rfl))) (fun _ _ _ _ _ => vts_nil) (fun _ _ _ _ _ => (v_lc (own := [("door", 4)]) rfl S.nd (vi_seq (v_ix (v_var (pv 0)) v_int)) (blkOk_by (by first | rfl | kernel_rfl)) (lcg_name (fun _ _ _ _ _ => pg_name (i := 4) S.nd rfl (by first | exact Or.inl rfl | exact Or.inr rfl))) (fun _ _ _ _ _ => vts_nil) (fun _ _ _ _ _ => (v_callTy c_int (hB _ (by decide +kernel)) (va_cons (v_cmp (o_in hr.r) (v_var (pv 3)) (v_var (pv 4)) (by with_unfolding_all rfl)) va_nil))))))) (vss_cons (vs_setLc (i := 2) (hc := rfl) (hN := S.nd) (hy := rfl) (hyl := rfl) (hsw := sw_true rfl rfl rfl (by decide +kernel))  (own := [("row", 5)]) (vi_seq (v_sl (v_var (pv 1)) (vo_some v_int) vo_none)) (blkOk_by (by first | rfl | kernel_rfl)) (lcg_name (fun _ _ _ _ _ => pg_name (i := 5) S.nd rfl (by first | exact Or.inl rfl | exact Or.inr rfl))) (fun _ _ _ _ _ => vts_nil) (fun _ _ _ _ _ => (v_lc (own := [("here", 6), ("first", 7)]) rfl S.nd (vi_zip (hB _ (by decide +kernel)) (va_cons (v_var (pv 5)) (va_cons (v_ix (v_var (pv 1)) v_int) va_nil))) (blkOk_by (by first | rfl | kernel_rfl)) (lcg_tup (n := 2) rfl (lcgs_cons (lcg_name (fun _ _ _ _ _ => pg_name (i := 6) S.nd rfl (by first | exact Or.inl rfl | exact Or.inr rfl))) (lcgs_cons (lcg_name (fun _ _ _ _ _ => pg_name (i := 7) S.nd rfl (by first | exact Or.inl rfl | exact Or.inr rfl))) lcgs_nil))) (fun _ _ _ _ _ => vts_nil) (fun _ _ _ _ _ => (v_op o_sub (v_var (pv 6)) (v_var (pv 7))))))) (vss_one (vs_ret (v_op o_sub (v_callB c_len (hB _ (by decide +kernel)) (va_cons (v_ix (v_var (pv 0)) v_int) va_nil)) (v_callK k_rank_of hr (va_cons (v_var (pv 2)) va_nil)))))))), ?_⟩
  clear hr S
  rintro _ M Q ⟨x0, rfl, h⟩
  rw [show vstart N_space.length [x0] = [some x0, none, none, none, none, none, none, none] from rfl]
  obtain ⟨n, ds, rfl, ok, h⟩ := h
  obtain ⟨w1, w2, w3, w4, w5, w6⟩ := id ok
  have sz := size1000
  simp
  refine pr1_at.mpr ⟨n, ds, rfl, ok, ?_⟩
  refine vLc_al (List.range n) (fun i => .int (0 + ((i : Nat) : Int))) (fun i => rowD (ds.map (inc ((i : Nat) : Int)))) (w := ⟨_, fun _ => True⟩) (fun R r => ?_) rfl trivial (by simp; omega) (fun i hi A hA => ?_) ?_
  · simpa [webD, rgD, show -4611686018427387904 ≤ (n : Int) by omega, show (n : Int) < 4611686018427387904 by omega] using r
  · simp [webD, vwipe]
    refine vLc_al ds dD (fun d => .int (inc ((i : Nat) : Int) d)) (w := ⟨ds.map dD, fun _ => True⟩) (fun R r => ?_) rfl trivial (by omega) (fun d hd B hB => ?_) ?_
    · simpa using r
    · simp [vwipe]
      refine in_dD _ _ _ _ ?_
      have := b2i_inc ((i : Nat) : Int) d
      simp at this ⊢
      rw [this]; exact hB
    · simpa [rowD, Function.comp_def] using hA
  · simp [webD]
    refine vLc_al (List.range (n - 1)) (fun i => rowD (ds.map (inc (((i : Nat) : Int) + 1)))) (fun i => rowD (ds.map fun d => inc (((i : Nat) : Int) + 1) d - inc 0 d)) (w := ⟨((List.range n).map fun i => rowD (ds.map (inc ((i : Nat) : Int)))).tail, fun _ => True⟩) (fun R r => ?_) ?_ trivial (by simp; omega) (fun i hi A hA => ?_) ?_
    · simpa [cut_tail] using r
    · show ((List.range n).map fun i => rowD (ds.map (inc ((i : Nat) : Int)))).tail = _
      rw [← List.map_tail, range_tail, List.map_map]
      refine List.map_congr_left fun i _ => ?_
      simp
    · simp [vwipe]
      refine vLc_al ds (fun d => .tup [.int (inc (((i : Nat) : Int) + 1) d), .int (inc 0 d)]) (fun d => .int (inc (((i : Nat) : Int) + 1) d - inc 0 d)) (w := ⟨zipD ((ds.map (inc (((i : Nat) : Int) + 1))).map D.int) ((ds.map (inc 0)).map D.int), fun _ => True⟩) (fun R r => ?_) ?_ trivial (by omega) (fun d hd B hB => ?_) ?_
      · have e0 : ((List.range n).map fun i => rowD (ds.map (inc ((i : Nat) : Int))))[0]? = some (rowD (ds.map (inc 0))) := by
          rw [List.getElem?_map, List.getElem?_range (by omega)] <;> rfl
        have r2 := r
        simp at r2
        have e00 : (List.range n)[0]? = some 0 := List.getElem?_range (by omega)
        simp [e0, e00, rowD, and_assoc]
        exact r2
      · rw [zipD_ints]
        rw [List.zip_map', List.map_map] <;> rfl
      · simpa [vwipe] using hB
      · simpa [rowD, Function.comp_def] using hA
    · have hlen : (rowsOf n ds).length = n - 1 := by simp [rowsOf]
      refine pr1_at.mpr ⟨rowsOf n ds, ds.length, by simp [rowsOf, Function.comp_def], by omega, by omega, fun r hr => ?_, ?_⟩
      · obtain ⟨i, _, rfl⟩ := List.mem_map.mp hr
        refine ⟨by simp, fun x hx => ?_⟩
        obtain ⟨d, _, rfl⟩ := List.mem_map.mp hx
        exact inc_bd _ _ _
      · rw [hlen]
        simpa [spN] using h
end K53
namespace K53
open PySem PySem.Spec L2 VL
theorem asc_of {ds : List (Int × Int)} (h : ds.Pairwise fun a b => ltP a b = true) : asc ds = true := by
  induction h with
  | nil => rfl
  | @cons a l h1 h2 ih =>
    cases l with
    | nil => rfl
    | cons b l =>
      have := h1 b List.mem_cons_self
      unfold asc at ih ⊢
      simp only [List.tail_cons, List.zip_cons_cons, List.all_cons, Bool.and_eq_true] at ih ⊢
      exact ⟨this, ih⟩
def kD (d : Int × Int) : List Int := [d.1, d.2]
theorem kD_inj {a b : Int × Int} (h : kD a = kD b) : a = b := by
  simp only [kD, List.cons.injEq, and_true] at h
  exact Prod.ext h.1 h.2
theorem dD_kD (d : Int × Int) : dD d = .tup ((kD d).map D.int) := rfl
theorem eqDs_doors : ∀ {xs ys : List (Int × Int)}, eqDs (xs.map dD) (ys.map dD) = decide (xs = ys)
  | [], [] => by simp [eqDs_nil]
  | [], y :: ys => by simp [eqDs, pys, PyData.eqvAll]
  | x :: xs, [] => by simp [eqDs, pys, PyData.eqvAll]
  | x :: xs, y :: ys => by
    rw [List.map_cons, List.map_cons, eqDs_cons, eqDs_doors, dD_kD, dD_kD, eqD_tup, eqDs_ints, Bool.eq_iff_iff, Bool.and_eq_true, decide_eq_true_eq, decide_eq_true_eq, decide_eq_true_eq]
    constructor
    · rintro ⟨h1, h2⟩
      rw [kD_inj h1, h2]
    · rintro h
      cases h
      exact ⟨rfl, rfl⟩
theorem asc_pw : ∀ {ds : List (Int × Int)}, asc ds = true → ds.Pairwise fun a b => ltP a b = true
  | [], _ => .nil
  | [a], _ => List.pairwise_singleton ..
  | a :: b :: ds, h => by
    unfold asc at h
    simp only [List.tail_cons, List.zip_cons_cons, List.all_cons, Bool.and_eq_true] at h
    have ih : (b :: ds).Pairwise fun a b => ltP a b = true := asc_pw (by unfold asc; exact h.2)
    refine List.pairwise_cons.mpr ⟨fun x hx => ?_, ih⟩
    rcases List.mem_cons.mp hx with rfl | hx
    · exact h.1
    · have h2 := (List.pairwise_cons.mp ih).1 x hx
      have h1 := h.1
      simp only [ltP, decide_eq_true_eq] at h1 h2 ⊢
      omega
theorem sorted_iff {ds es : List (Int × Int)} (hb : ∀ d ∈ ds, 0 ≤ d.1 ∧ d.1 < 64 ∧ 0 ≤ d.2 ∧ d.2 < 64) (h1 : es.Nodup) (h2 : ∀ d ∈ es, d ∈ ds) (h3 : ∀ d ∈ ds, d ∈ es) (h4 : es.Pairwise fun a b => TS.code 64 (kD a) ≤ TS.code 64 (kD b)) : decide (ds = es) = asc ds := by
  have cd : ∀ d : Int × Int, TS.code 64 (kD d) = d.1 * 64 + d.2 := fun d => L2.code_pair d.1 d.2
  rw [Bool.eq_iff_iff, decide_eq_true_eq]
  constructor
  · intro e
    subst e
    refine asc_of ((List.Pairwise.and h1 h4).imp_of_mem fun {a b} ha hb' ⟨ne, le⟩ => ?_)
    have a1 := hb a ha
    have b1 := hb b hb'
    rw [cd, cd] at le
    have : ¬ (a.1 = b.1 ∧ a.2 = b.2) := fun q => ne (Prod.ext q.1 q.2)
    simp only [ltP, decide_eq_true_eq]
    omega
  · intro e
    have pw := asc_pw e
    have nd : ds.Nodup := pw.imp fun {a b} h q => by
      subst q
      simp only [ltP, decide_eq_true_eq] at h
      omega
    have pm : ds.Perm es := (List.perm_ext_iff_of_nodup nd h1).mpr fun d => ⟨h3 d, h2 d⟩
    refine List.Perm.eq_of_pairwise (le := fun a b => TS.code 64 (kD a) ≤ TS.code 64 (kD b)) (fun a b ha hb' l1 l2 => ?_) (pw.imp_of_mem fun {a b} ha hb' h => ?_) h4 pm
    · have a1 := hb a ha
      have b1 := hb b (h2 b hb')
      simp only [cd] at l1 l2
      exact Prod.ext (by omega) (by omega)
    · have a1 := hb a ha
      have b1 := hb b hb'
      simp only [ltP, decide_eq_true_eq] at h
      simp only [cd]
      omega
theorem isi_tup_ex {M : Mem} {d : D} {P1 P2 : Prop} (ok : Okv M d) (q : (isTuple d = false ∧ P1) ∨ (isTuple d = true ∧ P2)) : ∃ A, tyD M d = some A ∧ (kitB A "tuple" = some false ∧ P1 ∨ kitB A "tuple" = some true ∧ P2) := by
  have f : ∀ A, kitB A "tuple" = some (isTuple d) → (kitB A "tuple" = some false ∧ P1 ∨ kitB A "tuple" = some true ∧ P2) := fun A h => q.imp (fun z => ⟨by rw [h, z.1], z.2⟩) fun z => ⟨by rw [h, z.1], z.2⟩
  cases d with
  | non => exact ⟨_, rfl, f _ kb_NoneType_tuple⟩
  | bl b => exact ⟨_, rfl, f _ kb_bool_tuple⟩
  | int i => exact ⟨_, rfl, f _ kb_int_tuple⟩
  | str x => exact ⟨_, rfl, f _ kb_str_tuple⟩
  | lst x => exact ⟨_, rfl, f _ kb_list_tuple⟩
  | tup x => exact ⟨_, rfl, f _ kb_tuple_tuple⟩
  | obj a => unfold Okv at ok; obtain ⟨kvs, hk⟩ := ok; exact ⟨_, by simp [tyD, hk], f _ kb_dict_tuple⟩
  | rd x => unfold Okv at ok; exact ok.elim
  | exc _ _ => unfold Okv at ok; exact ok.elim
abbrev N__law_is_web : List Str := ["value", "door", "room"]
abbrev P__law_is_web : List Str := ["value"]
theorem sc__law_is_web : FnScope N__law_is_web P__law_is_web (defScope s__law_is_web) := ⟨rfl, rfl, rfl, by decide +kernel, rfl, by decide +kernel, by decide +kernel⟩
def p__law_is_web : VSp := pr1 fun a M Q => Okv M a ∧ Q (.bl (webB a)) M
theorem ok__law_is_web {P : Program} {w : World} {K : PySem.W.Frag} {mg : Str → Option Value} {base : Heap} (hD : Df K mg "_law_is_web" s__law_is_web) (hB : Fr mg bl) (k__law_is_int : Kn P w K mg base 1 "_law_is_int" P__law_is_int p__law_is_int) : Kn P w K mg base 2 "_law_is_web" P__law_is_web p__law_is_web := by
  have S := sc__law_is_web
  refine kn_of hD sc__law_is_web (fun _ _ _ _ _ _ us hl => match us, hl with | [_], _ => rfl) pr1_len ?_
  intro f cdv A outer s H E hr
  refine ⟨_, (vss_cons (vs_if (t_pw (t_or (t_not (t_val (v_isi (T := "tuple") (hB _ (by decide +kernel)) (hB _ (by decide +kernel)) (v_var (pv 0))))) (t_or (t_cmp (o_ne hr.r) (v_callB c_len (hB _ (by decide +kernel)) (va_cons (v_var (pv 0)) va_nil)) v_int (nomark _)) (t_or (t_not (t_val (v_callK k__law_is_int hr (va_cons (v_ix (v_var (pv 0)) v_int) (va_cons v_int (va_cons v_int va_nil)))))) (t_or (t_not (t_val (v_isi (T := "tuple") (hB _ (by decide +kernel)) (hB _ (by decide +kernel)) (v_ix (v_var (pv 0)) v_int)))) (t_or1 (t_not (t_chain o_le o_le v_int (v_callB c_len (hB _ (by decide +kernel)) (va_cons (v_ix (v_var (pv 0)) v_int) va_nil)) v_int)))))))) (vss_one (vs_ret v_bl)) vss_nil) (vss_cons (vs_for PassesOwn.never rfl (vi_seq (v_ix (v_var (pv 0)) v_int)) (vg_name (pg_name (i := 1) S.nd rfl (by first | exact Or.inl rfl | exact Or.inr rfl))) (vss_one (vs_if (t_pw (t_or (t_not (t_val (v_isi (T := "tuple") (hB _ (by decide +kernel)) (hB _ (by decide +kernel)) (v_var (pv 1))))) (t_or (t_cmp (o_ne hr.r) (v_callB c_len (hB _ (by decide +kernel)) (va_cons (v_var (pv 1)) va_nil)) v_int (nomark _)) (t_or (t_not (t_val (v_callB (c_all rfl) (hB _ (by decide +kernel)) (va_cons (v_lc (own := [("room", 2)]) rfl S.nd (vi_seq (v_var (pv 1))) (blkOk_by (by first | rfl | kernel_rfl)) (lcg_name (fun _ _ _ _ _ => pg_name (i := 2) S.nd rfl (by first | exact Or.inl rfl | exact Or.inr rfl))) (fun _ _ _ _ _ => vts_nil) (fun _ _ _ _ _ => (v_callK k__law_is_int hr (va_cons (v_var (pv 2)) (va_cons v_int (va_cons (v_op o_sub (v_ix (v_var (pv 0)) v_int) v_int) va_nil)))))) va_nil)))) (t_or1 (t_cmp o_ge (v_ix (v_var (pv 1)) v_int) (v_ix (v_var (pv 1)) v_int) (nomark _))))))) (vss_one (vs_ret v_bl)) vss_nil))) (vss_one (vs_ret (v_cmp (o_eq hr.r) (v_callTy c_list (hB _ (by decide +kernel)) (va_cons (v_ix (v_var (pv 0)) v_int) va_nil)) (v_sortSetT hr rfl (hB _ (by decide +kernel)) (hB _ (by decide +kernel)) (v_ix (v_var (pv 0)) v_int)) (nomark _)))))), ?_⟩
  clear hr S
  rintro _ M Q ⟨x0, rfl, h⟩
  rw [show vstart N__law_is_web.length [x0] = [some x0, none, none] from rfl]
  obtain ⟨ok, h⟩ := h
  have sz := size1000
  refine s_hide fun R1 hR1 => ?_
  simp only [sSeq, sIf, vOrT, vNotT, vTest]
  refine isi_tuple x0 (fun R r => ⟨x0, rfl, r⟩) ok ⟨_, rfl, ?_⟩
  cases x0 with
  | tup xs =>
    have okx := okvs_mem ok.2
    simp [isTuple]
    by_cases l2 : xs.length = 2
    · obtain ⟨x, y, rfl⟩ : ∃ x y, xs = [x, y] := by
        match xs, l2 with
        | [x, y], _ => exact ⟨x, y, rfl⟩
      simp [p__law_is_int, -vIsi]
      refine ⟨okx x (by simp), ?_⟩
      cases q : btw 2 8 x with
      | false =>
        have e : webB (.tup [x, y]) = false := by
          unfold webB
          split
          · rename_i n ds z
            cases z
            unfold btw at q
            have : ¬ (2 ≤ n ∧ n ≤ 8) := by simpa using q
            simp only [decide_eq_false this, Bool.false_and]
          · rfl
        rw [e] at h
        exact .inl ⟨rfl, h⟩
      | true =>
        obtain ⟨n, rfl, n2, n8⟩ : ∃ n, x = .int n ∧ 2 ≤ n ∧ n ≤ 8 := by
          unfold btw at q
          split at q
          · exact ⟨_, rfl, by simpa using q⟩
          · cases q
        refine .inr ⟨rfl, ?_⟩
        have oky := okx y (by simp)
        refine isi_tup_ex oky ?_
        cases y with
        | tup ds =>
          unfold Okv at oky
          refine .inr ⟨rfl, ?_⟩
          by_cases hl : 1 ≤ ds.length ∧ ds.length ≤ 16
          · have b1 : (1 : Int) ≤ (ds.length : Int) := by omega
            have b2 : (ds.length : Int) ≤ 16 := by omega
            simp [b1, b2]
            show R1 _ _ _
            subst hR1
            refine s_hide fun R1 hR1 => ?_
            have ew : webB (.tup [.int n, .tup ds]) = (ds.all (doorB n) && asc (ds.map uD)) := by
              unfold webB
              simp only [decide_eq_true (And.intro n2 n8), decide_eq_true hl, Bool.true_and]
            rw [ew] at h
            refine sFor_al ds (fun d => d) (fun i e N => N = M ∧ (∃ d1, e = [some (.tup [.int n, .tup ds]), d1, none]) ∧ (ds.take i).all (doorB n) = true) (w := ⟨ds, fun _ => True⟩) (fun R r => ?_) (by simp) ⟨rfl, ⟨_, rfl⟩, rfl⟩ (fun _ _ _ _ _ => trivial) (fun i d e N hd hi ⟨hN, ⟨d1, he⟩, ha⟩ => ?_) (fun e N ⟨hN, ⟨d1, he⟩, ha⟩ => ?_)
            · simpa using r
            · have hN := hN.symm
              subst hN he
              have hdm := List.mem_of_getElem? hd
              have bad : doorB n d = false → Q (.bl false) M := fun z => by
                have : ds.all (doorB n) = false := by
                  rw [Bool.eq_false_iff]
                  intro c
                  rw [List.all_eq_true.mp c d hdm] at z
                  cases z
                rw [this] at h
                exact h
              have good : doorB n d = true → (ds.take (i + 1)).all (doorB n) = true := fun z => by
                rw [List.take_succ, List.all_append, ha, hd]
                simpa using z
              have okd := okvs_mem oky.2 d hdm
              simp
              refine isi_tup_ex okd ?_
              cases d with
              | tup zs =>
                refine .inr ⟨rfl, ?_⟩
                by_cases l3 : zs.length = 2
                · obtain ⟨u, v, rfl⟩ : ∃ u v, zs = [u, v] := by
                    match zs, l3 with
                    | [u, v], _ => exact ⟨u, v, rfl⟩
                  unfold Okv at okd
                  simp
                  refine vLc_al [u, v] (fun d => d) (fun d => .bl (btw 0 (n - 1) d)) (w := ⟨[u, v], fun _ => True⟩) (fun R r => ?_) rfl trivial (by simp; omega) (fun d hd A hA => ?_) ?_
                  · simpa using r
                  · simp [vwipe, p__law_is_int]
                    exact ⟨okvs_mem okd.2 d hd, hA⟩
                  · simp only [VL.rAll]
                    refine ⟨[btw 0 (n - 1) u, btw 0 (n - 1) v], by simp [asL], ?_⟩
                    simp only [List.all_cons, List.all_nil, Bool.and_true, id]
                    cases qb : btw 0 (n - 1) u && btw 0 (n - 1) v with
                    | false =>
                      refine .inl ⟨rfl, bad ?_⟩
                      unfold doorB
                      split
                      · rename_i z
                        cases z
                        simp only [btw, Bool.and_eq_false_iff, decide_eq_false_iff_not] at qb
                        exact decide_eq_false (by omega)
                      · rfl
                    | true =>
                      obtain ⟨k1, k2, rfl, rfl, q3⟩ : ∃ k1 k2 : Int, u = .int k1 ∧ v = .int k2 ∧ (0 ≤ k1 ∧ k1 ≤ n - 1) ∧ 0 ≤ k2 ∧ k2 ≤ n - 1 := by
                        obtain ⟨q1, q2⟩ := Bool.and_eq_true_iff.mp qb
                        unfold btw at q1 q2
                        split at q1
                        · split at q2
                          · simp only [Bool.and_eq_true, decide_eq_true_eq] at q1 q2
                            exact ⟨_, _, rfl, rfl, q1, q2⟩
                          · cases q2
                        · cases q1
                      refine .inr ⟨rfl, k1, rfl, k2, rfl, ?_⟩
                      by_cases c : k1 < k2
                      · rw [if_neg (by omega)]
                        exact ⟨trivial, List.all_eq_true.mp (good (decide_eq_true (by omega)))⟩
                      · rw [if_pos (by omega)]
                        exact bad (decide_eq_false (by omega))
                · have l4 : ¬ ((zs.length : Int) = 2) := by omega
                  simp [l4]
                  refine bad ?_
                  unfold doorB
                  split
                  · rename_i z
                    cases z
                    exact absurd rfl l3
                  · rfl
              | _ => exact .inl ⟨rfl, bad rfl⟩
            · have hN := hN.symm
              subst hN he
              rw [List.take_length] at ha
              rw [ha, Bool.true_and] at h
              have eds := doors_ex ha
              generalize ds.map uD = es at eds h
              subst eds
              subst hR1
              simp
              have el : es.length ≤ 16 := by
                have := hl.2
                rw [List.length_map] at this
                exact this
              have eb : ∀ d ∈ es, 0 ≤ d.1 ∧ d.1 < 64 ∧ 0 ≤ d.2 ∧ d.2 < 64 := fun d hd => by
                have := (door_ex (List.all_eq_true.mp ha (dD d) (List.mem_map_of_mem hd))).2
                rw [uD_dD] at this
                omega
              refine ⟨es.map dD, rfl, es.map kD, by rw [List.map_map]; rfl, by rw [List.length_map]; omega, 2, by decide, 64, fun k hk => ?_, fun L n1 n2 n3 n4 => ?_⟩
              · obtain ⟨d, hd, rfl⟩ := List.mem_map.mp hk
                have := eb d hd
                refine ⟨rfl, fun m hm => ?_⟩
                simp only [kD, List.mem_cons, List.not_mem_nil, or_false] at hm
                rcases hm with rfl | rfl <;> omega
              · obtain ⟨fs, rfl⟩ : ∃ fs : List (Int × Int), L = fs.map kD := by
                  refine ⟨L.map fun k => (k.getD 0 0, k.getD 1 0), ?_⟩
                  rw [List.map_map]
                  refine (List.map_id L).symm.trans (List.map_congr_left fun k hk => ?_)
                  obtain ⟨d, _, rfl⟩ := List.mem_map.mp (n2 k hk)
                  rfl
                have m1 : ∀ d, kD d ∈ es.map kD → d ∈ es := fun d hd => by
                  obtain ⟨d', h1, h2⟩ := List.mem_map.mp hd
                  rw [← kD_inj h2]
                  exact h1
                have m2 : ∀ d, kD d ∈ fs.map kD → d ∈ fs := fun d hd => by
                  obtain ⟨d', h1, h2⟩ := List.mem_map.mp hd
                  rw [← kD_inj h2]
                  exact h1
                have key := sorted_iff (ds := es) (es := fs) eb (by
                  refine (List.pairwise_map.mp n1).imp fun {a b} ne e => ne (by rw [e])) (fun d hd => m1 d (n2 _ (List.mem_map_of_mem hd))) (fun d hd => m2 d (n3 _ (List.mem_map_of_mem hd))) (by rw [List.pairwise_map] at n4; exact n4)
                have sd : ∀ zs : List (Int × Int), Sh 30 (.lst (zs.map dD)) := fun zs x hx => by
                  obtain ⟨d, _, rfl⟩ := List.mem_map.mp hx
                  exact sh_tup fun y hy => by
                    simp only [List.mem_cons, List.not_mem_nil, or_false] at hy
                    rcases hy with rfl | rfl <;> exact sh_int
                rw [List.map_map, show ((fun k : List Int => D.tup (k.map D.int)) ∘ kD) = dD from rfl]
                refine .inr ⟨sd es, sd fs, ?_⟩
                rw [fz_lst, fz_lst, eqD_lst, eqDs_doors, key]
                exact h
          · have ew : webB (.tup [.int n, .tup ds]) = false := by
              unfold webB
              simp only [decide_eq_false hl, Bool.and_false, Bool.false_and]
            rw [ew] at h
            by_cases q : 1 ≤ ds.length
            · have b1 : (1 : Int) ≤ (ds.length : Int) := by omega
              have b2 : ¬ (ds.length : Int) ≤ 16 := by omega
              have b3 : (16 : Int) < (ds.length : Int) := by omega
              simp [b1, b2, b3]
              exact h
            · have b1 : ¬ (1 : Int) ≤ (ds.length : Int) := by omega
              simp [b1]
              exact h
        | _ => exact .inl ⟨rfl, h⟩
    · have e : webB (.tup xs) = false := by
        unfold webB
        split
        · rename_i z
          cases z
          exact absurd rfl l2
        · rfl
      rw [e] at h
      have l3 : ¬ ((xs.length : Int) = 2) := by omega
      simp [l3]
      exact h
  | _ => simp [isTuple, webB] at h ⊢; exact h
end K53
namespace K53
open PySem PySem.Spec L2 VL
/-- the two webs, and what their factors have at the doors -/
def Two (n : Int) (ds : List (Int × Int)) (rows : List (List Int)) : Prop := (n = 2 ∧ ds = [(0, 1)] ∧ rows = [[2]]) ∨ (n = 3 ∧ ds = [(0, 1), (0, 2)] ∧ rows = [])
theorem two_ok {n : Int} {ds : List (Int × Int)} {rows : List (List Int)} (h : Two n ds rows) : WebOk n ds ∧ ds.length ≤ 2 := by
  unfold WebOk
  rcases h with ⟨rfl, rfl, _⟩ | ⟨rfl, rfl, _⟩ <;> decide
theorem facts1 : factsF 2 [(0, 1)] = [([0], [])] := by decide +kernel
theorem facts2 : factsF 3 [(0, 1), (0, 2)] = [] := by decide +kernel
theorem two_rows {n : Int} {ds : List (Int × Int)} {rows : List (List Int)} (h : Two n ds rows) : (factsF n ds).map (numsBy ds.length) = rows := by
  rcases h with ⟨rfl, rfl, rfl⟩ | ⟨rfl, rfl, rfl⟩
  · rw [facts1]; decide
  · rw [facts2]; rfl
def rowsL (rows : List (List Int)) : D := .lst (rows.map rowD)
abbrev N_rows_of : List Str := ["web", "factor"]
abbrev P_rows_of : List Str := ["web"]
theorem sc_rows_of : FnScope N_rows_of P_rows_of (defScope s_rows_of) := ⟨rfl, rfl, rfl, by decide +kernel, rfl, by decide +kernel, by decide +kernel⟩
def p_rows_of : VSp := pr1 fun a M Q => ∃ n ds rows, a = webD n ds ∧ Two n ds rows ∧ Q (rowsL rows) M
theorem ok_rows_of {P : Program} {w : World} {K : PySem.W.Frag} {mg : Str → Option Value} {base : Heap} (hD : Df K mg "rows_of" s_rows_of) (hB : Fr mg bl) (k_factors_of : Kn P w K mg base 3 "factors_of" P_factors_of p_factors_of) (k_numbers_by : Kn P w K mg base 1 "numbers_by" P_numbers_by p_numbers_by) : Kn P w K mg base 4 "rows_of" P_rows_of p_rows_of := by
  have S := sc_rows_of
  refine kn_of hD sc_rows_of (fun _ _ _ _ _ _ us hl => match us, hl with | [_], _ => rfl) pr1_len ?_
  intro f cdv A outer s H E hr
  refine ⟨_, (vss_one (vs_ret (v_lc (own := [("factor", 1)]) rfl S.nd (vi_seq (v_callK k_factors_of hr (va_cons (v_var (pv 0)) va_nil))) (blkOk_by (by first | rfl | kernel_rfl)) (lcg_name (fun _ _ _ _ _ => pg_name (i := 1) S.nd rfl (by first | exact Or.inl rfl | exact Or.inr rfl))) (fun _ _ _ _ _ => vts_nil) (fun _ _ _ _ _ => (v_callK k_numbers_by hr (va_cons (v_var (pv 0)) (va_cons (v_var (pv 1)) va_nil))))))), ?_⟩
  clear hr S
  rintro _ M Q ⟨x0, rfl, h⟩
  rw [show vstart N_rows_of.length [x0] = [some x0, none] from rfl]
  obtain ⟨n, ds, rows, rfl, tw, h⟩ := h
  obtain ⟨ok, d2⟩ := two_ok tw
  have sz := size1000
  have fl : (factsF n ds).length ≤ 1 := by
    rcases tw with ⟨rfl, rfl, _⟩ | ⟨rfl, rfl, _⟩
    · rw [facts1]; decide
    · rw [facts2]; decide
  simp
  refine vLc_al (factsF n ds) fD (fun z => rowD (numsBy ds.length z)) (w := ⟨(factsF n ds).map fD, fun _ => True⟩) (fun R r => ?_) rfl trivial (by omega) (fun z hz A hA => ?_) ?_
  · simp
    exact pr1_at.mpr ⟨n, ds, rfl, ok, by omega, by simpa [asI] using r⟩
  · simp [vwipe]
    exact pr2_at.mpr ⟨n, ds, z, rfl, rfl, by omega, hA⟩
  · have e := two_rows tw
    unfold rowsL at h
    rw [← e, List.map_map] at h
    exact h
theorem at_k {r : List Int} {k : Nat} (h : k < r.length) : L2.atI (r.map D.int) (k : Int) = some (.int (gd r k)) := by rw [atI_k]; exact at_getD h
abbrev N_at_door : List Str := ["rows", "door", "row"]
abbrev P_at_door : List Str := ["rows", "door"]
theorem sc_at_door : FnScope N_at_door P_at_door (defScope s_at_door) := ⟨rfl, rfl, rfl, by decide +kernel, rfl, by decide +kernel, by decide +kernel⟩
def p_at_door : VSp := pr2 fun a b M Q => ∃ (rows : List (List Int)) (k : Nat), a = rowsL rows ∧ b = .int k ∧ rows.length ≤ 1000 ∧ (∀ r ∈ rows, k < r.length) ∧ Q (.tup ((rows.map fun r => gd r k).map D.int)) M
theorem ok_at_door {P : Program} {w : World} {K : PySem.W.Frag} {mg : Str → Option Value} {base : Heap} (hD : Df K mg "at_door" s_at_door) (hB : Fr mg bl) : Kn P w K mg base 1 "at_door" P_at_door p_at_door := by
  have S := sc_at_door
  refine kn_of hD sc_at_door (fun _ _ _ _ _ _ us hl => match us, hl with | [_, _], _ => rfl) pr2_len ?_
  intro f cdv A outer s H E hr
  refine ⟨_, (vss_one (vs_ret (v_callTy c_tuple (hB _ (by decide +kernel)) (va_cons (v_lc (own := [("row", 2)]) rfl S.nd (vi_seq (v_var (pv 0))) (blkOk_by (by first | rfl | kernel_rfl)) (lcg_name (fun _ _ _ _ _ => pg_name (i := 2) S.nd rfl (by first | exact Or.inl rfl | exact Or.inr rfl))) (fun _ _ _ _ _ => vts_nil) (fun _ _ _ _ _ => (v_ix (v_var (pv 2)) (v_var (pv 1))))) va_nil)))), ?_⟩
  clear hr S
  rintro _ M Q ⟨x0, x1, rfl, h⟩
  rw [show vstart N_at_door.length [x0, x1] = [some x0, some x1, none] from rfl]
  obtain ⟨rows, k, rfl, rfl, hl, hr, h⟩ := h
  have sz := size1000
  simp
  refine vLc_al rows rowD (fun r => .int (gd r k)) (w := ⟨rows.map rowD, fun _ => True⟩) (fun R r => by simpa [rowsL, asI] using r) rfl trivial (by omega) (fun r hr' A hA => ?_) ?_
  · simp [vwipe, rowD]
    exact ⟨_, at_k (hr r hr'), hA⟩
  · refine (show rTuple _ _ _ from ⟨_, rfl, ?_⟩)
    rw [List.map_map] at h
    exact h
abbrev N_bare_doors : List Str := ["web", "rows", "door", "row"]
abbrev P_bare_doors : List Str := ["web", "rows"]
theorem sc_bare_doors : FnScope N_bare_doors P_bare_doors (defScope s_bare_doors) := ⟨rfl, rfl, rfl, by decide +kernel, rfl, by decide +kernel, by decide +kernel⟩
def bareF (m : Nat) (rows : List (List Int)) : List Nat := (List.range m).filter fun k => !rows.any fun r => decide (0 < gd r k)
def p_bare_doors : VSp := pr2 fun a b M Q => ∃ n ds rows, a = webD n ds ∧ b = rowsL rows ∧ ds.length ≤ 16 ∧ rows.length ≤ 1000 ∧ (∀ r ∈ rows, r.length = ds.length) ∧ Q (.lst ((bareF ds.length rows).map fun k : Nat => .int (k : Int))) M
theorem ok_bare_doors {P : Program} {w : World} {K : PySem.W.Frag} {mg : Str → Option Value} {base : Heap} (hD : Df K mg "bare_doors" s_bare_doors) (hB : Fr mg bl) : Kn P w K mg base 1 "bare_doors" P_bare_doors p_bare_doors := by
  have S := sc_bare_doors
  refine kn_of hD sc_bare_doors (fun _ _ _ _ _ _ us hl => match us, hl with | [_, _], _ => rfl) pr2_len ?_
  intro f cdv A outer s H E hr
  refine ⟨_, (vss_one (vs_ret (v_lc (own := [("door", 2)]) rfl S.nd (vi_range1 (hB _ (by decide +kernel)) (va_cons (v_callB c_len (hB _ (by decide +kernel)) (va_cons (v_ix (v_var (pv 0)) v_int) va_nil)) va_nil)) (blkOk_by (by first | rfl | kernel_rfl)) (lcg_name (fun _ _ _ _ _ => pg_name (i := 2) S.nd rfl (by first | exact Or.inl rfl | exact Or.inr rfl))) (fun _ _ _ _ _ => (vts_one (t_not (t_val (v_callB (c_any rfl) (hB _ (by decide +kernel)) (va_cons (v_lc (own := [("row", 3)]) rfl S.nd (vi_seq (v_var (pv 1))) (blkOk_by (by first | rfl | kernel_rfl)) (lcg_name (fun _ _ _ _ _ => pg_name (i := 3) S.nd rfl (by first | exact Or.inl rfl | exact Or.inr rfl))) (fun _ _ _ _ _ => vts_nil) (fun _ _ _ _ _ => (v_cmp o_gt (v_ix (v_var (pv 3)) (v_var (pv 2))) v_int (nomark _)))) va_nil)))))) (fun _ _ _ _ _ => (v_var (pv 2)))))), ?_⟩
  clear hr S
  rintro _ M Q ⟨x0, x1, rfl, h⟩
  rw [show vstart N_bare_doors.length [x0, x1] = [some x0, some x1, none, none] from rfl]
  obtain ⟨n, ds, rows, rfl, rfl, d16, hl, hr, h⟩ := h
  have sz := size1000
  simp
  refine vLc_alF (List.range ds.length) (fun i => .int (0 + ((i : Nat) : Int))) (fun k => !rows.any fun r => decide (0 < gd r k)) (fun k : Nat => .int (k : Int)) (w := ⟨rgD 0 ds.length, fun _ => True⟩) (fun R r => ?_) rfl trivial (by rw [List.length_range]; omega) (fun k hk A B hA hB => ?_) ?_
  · simpa [webD, show (ds.length : Int) < 4611686018427387904 by omega] using r
  · have hk := List.mem_range.mp hk
    simp [vwipe]
    refine vLc_al rows rowD (fun r => .bl (decide (0 < gd r k))) (w := ⟨rows.map rowD, fun _ => True⟩) (fun R r => by simpa [rowsL, asI] using r) rfl trivial (by omega) (fun r hr' A' hA' => ?_) ?_
    · simp [vwipe, rowD]
      exact ⟨_, at_k (by have := hr r hr'; omega), _, rfl, hA'⟩
    · refine (show rAny _ _ _ from ⟨rows.map fun r => decide (0 < gd r k), by simp [asL, Function.comp_def], ?_⟩)
      rw [List.any_map, show (id ∘ fun r => decide (0 < gd r k)) = fun r => decide (0 < gd r k) from rfl]
      cases an : rows.any fun r => decide (0 < gd r k) with
      | false => exact .inl ⟨rfl, hA (by rw [an]; rfl)⟩
      | true => exact .inr ⟨rfl, hB (by rw [an]; rfl)⟩
  · exact h
abbrev N_like_doors : List Str := ["web", "rows", "many", "found", "seen", "one", "door", "other"]
abbrev P_like_doors : List Str := ["web", "rows"]
theorem sc_like_doors : FnScope N_like_doors P_like_doors (defScope s_like_doors) := ⟨rfl, rfl, rfl, by decide +kernel, rfl, by decide +kernel, by decide +kernel⟩
def seenF (m : Nat) (rows : List (List Int)) : List (List Int) := (List.range m).map fun k => rows.map fun r => gd r k
def likeA (S : List (List Int)) (i : Nat) : List Nat := (List.range (S.length - 1 - i)).filter fun j => decide (S.getD i [] = S.getD (i + 1 + j) [])
def likeF (S : List (List Int)) (k : Nat) : List (Nat × Nat) := ((List.range k).map fun i => (likeA S i).map fun j => (i, i + 1 + j)).flatten
theorem likeF_succ {S : List (List Int)} {k : Nat} : likeF S (k + 1) = likeF S k ++ (likeA S k).map fun j => (k, k + 1 + j) := by
  unfold likeF
  rw [List.range_succ, List.map_append, List.flatten_append]
  simp
theorem likeF_len {S : List (List Int)} : ∀ k, (likeF S k).length ≤ k * S.length
  | 0 => by simp [likeF]
  | k + 1 => by
    rw [likeF_succ, List.length_append, List.length_map, Nat.succ_mul]
    have := likeF_len (S := S) k
    have := List.length_filter_le (fun j => decide (S.getD k [] = S.getD (k + 1 + j) [])) (List.range (S.length - 1 - k))
    rw [List.length_range] at this
    unfold likeA
    omega
def prD (z : Nat × Nat) : D := .tup [.int (z.1 : Int), .int (z.2 : Int)]
def p_like_doors : VSp := pr2 fun a b M Q => ∃ n ds rows, a = webD n ds ∧ b = rowsL rows ∧ ds.length ≤ 16 ∧ rows.length ≤ 1000 ∧ (∀ r ∈ rows, r.length = ds.length) ∧ ∀ q, M q = none → Q (.obj q) (mupd M q (.lst ((likeF (seenF ds.length rows) ds.length).map prD)))
theorem ok_like_doors {P : Program} {w : World} {K : PySem.W.Frag} {mg : Str → Option Value} {base : Heap} (hD : Df K mg "like_doors" s_like_doors) (hB : Fr mg bl) (k_at_door : Kn P w K mg base 1 "at_door" P_at_door p_at_door) : Kn P w K mg base 2 "like_doors" P_like_doors p_like_doors := by
  have S := sc_like_doors
  refine kn_ofD hD sc_like_doors (fun _ _ _ _ _ _ us hl => match us, hl with | [_, _], _ => rfl) pr2_len ?_
  intro f cdv A outer s H E hr
  refine ⟨_, (vss_cons (vs_par (i := 2) (j := 3) rfl S.nd rfl rfl (by decide) rfl rfl (va_cons (v_callB c_len (hB _ (by decide +kernel)) (va_cons (v_ix (v_var (pv 0)) v_int) va_nil)) (va_cons (v_lstO va_nil) va_nil)) (by rfl)) (vss_cons (vs_set (i := 4) S.nd rfl (Or.inr rfl) (v_lc (own := [("door", 6)]) rfl S.nd (vi_range1 (hB _ (by decide +kernel)) (va_cons (v_var (pv 2)) va_nil)) (blkOk_by (by first | rfl | kernel_rfl)) (lcg_name (fun _ _ _ _ _ => pg_name (i := 6) S.nd rfl (by first | exact Or.inl rfl | exact Or.inr rfl))) (fun _ _ _ _ _ => vts_nil) (fun _ _ _ _ _ => (v_callK k_at_door hr (va_cons (v_var (pv 1)) (va_cons (v_var (pv 6)) va_nil)))))) (vss_cons (vs_for PassesOwn.never rfl (vi_range1 (hB _ (by decide +kernel)) (va_cons (v_var (pv 2)) va_nil)) (vg_name (pg_name (i := 5) S.nd rfl (by first | exact Or.inl rfl | exact Or.inr rfl))) (vss_one (vs_expr (v_extend (v_var (pv 3)) (va_cons (v_lc (own := [("other", 7)]) rfl S.nd (vi_range2 (hB _ (by decide +kernel)) (va_cons (v_op o_add (v_var (pv 5)) v_int) (va_cons (v_var (pv 2)) va_nil))) (blkOk_by (by first | rfl | kernel_rfl)) (lcg_name (fun _ _ _ _ _ => pg_name (i := 7) S.nd rfl (by first | exact Or.inl rfl | exact Or.inr rfl))) (fun _ _ _ _ _ => (vts_one (t_cmp (o_eq hr.r) (v_ix (v_var (pv 4)) (v_var (pv 5))) (v_ix (v_var (pv 4)) (v_var (pv 7))) (nomark _)))) (fun _ _ _ _ _ => (v_tup (va_cons (v_var (pv 5)) (va_cons (v_var (pv 7)) va_nil))))) va_nil))))) (vss_one (vs_ret (v_var (pv 3))))))), ?_⟩
  clear hr S
  rintro _ M Q ⟨x0, x1, rfl, h⟩
  rw [show vstart N_like_doors.length [x0, x1] = [some x0, some x1, none, none, none, none, none, none] from rfl]
  obtain ⟨n, ds, rows, rfl, rfl, d16, hl, hr, h⟩ := h
  have sz := size1000
  refine s_hide fun R1 hR1 => ?_
  simp [webD]
  intro q hq
  refine ⟨_, _, ⟨rfl, rfl⟩, ?_⟩
  rw [show D.tup [D.int n, D.tup (ds.map dD)] = webD n ds from rfl]
  show R1 _ _ _
  subst hR1
  refine s_hide fun R1 hR1 => ?_
  have b64 : -4611686018427387904 ≤ (ds.length : Int) ∧ (ds.length : Int) < 4611686018427387904 := by omega
  simp
  refine vLc_al (List.range ds.length) (fun i => .int (0 + ((i : Nat) : Int))) (fun k => .tup ((rows.map fun r => gd r k).map D.int)) (w := ⟨rgD 0 ds.length, fun _ => True⟩) (fun R r => by simpa [b64] using r) rfl trivial (by rw [List.length_range]; omega) (fun k hk A hA => ?_) ?_
  · have hk := List.mem_range.mp hk
    simp [vwipe]
    exact pr2_at.mpr ⟨rows, k, rfl, rfl, hl, fun r hr' => by have := hr r hr'; omega, by simpa using hA⟩
  have eS : (List.range ds.length).map (fun k => D.tup ((rows.map fun r => gd r k).map D.int)) = (seenF ds.length rows).map fun x => .tup (x.map D.int) := by unfold seenF; rw [List.map_map]; rfl
  rw [eS]
  have Sl : (seenF ds.length rows).length = ds.length := by unfold seenF; rw [List.length_map, List.length_range]
  generalize seenF ds.length rows = S at Sl h ⊢
  show R1 _ _ _
  subst hR1
  refine s_hide fun R1 hR1 => ?_
  refine sFor_al (List.range ds.length) (fun i : Nat => .int (0 + ((i : Nat) : Int))) (fun i e N => N = mupd M q (.lst ((likeF S i).map prD)) ∧ ∃ e5 e6 e7, e = [some (webD n ds), some (rowsL rows), some (.int (ds.length : Int)), some (.obj q), some (.lst (S.map fun x => .tup (x.map D.int))), e5, e6, e7]) (w := ⟨rgD 0 ds.length, fun _ => True⟩) (fun R r => by simpa [b64] using r) rfl ⟨rfl, _, _, _, rfl⟩ (fun _ _ _ _ _ => trivial) (fun i z e N hz hi ⟨hN, e5, e6, e7, he⟩ => ?_) (fun e N ⟨hN, e5, e6, e7, he⟩ => ?_)
  · subst hN he
    rw [List.length_range] at hi
    rw [List.getElem?_range hi] at hz
    cases hz
    have at_ : ∀ j : Nat, j < S.length → L2.atI (S.map fun x => D.tup (x.map D.int)) (j : Int) = some (.tup ((S.getD j []).map D.int)) := fun j hj => by
      rw [atI_k, List.getElem?_map, List.getElem?_eq_getElem hj, List.getD_eq_getElem?_getD, List.getElem?_eq_getElem hj]
      rfl
    simp
    refine vLc_alF (List.range (ds.length - 1 - i)) (fun j => .int (((i : Nat) : Int) + 1 + ((j : Nat) : Int))) (fun j => decide (S.getD i [] = S.getD (i + 1 + j) [])) (fun j => prD (i, i + 1 + j)) (w := ⟨rgD ((i : Int) + 1) (ds.length - 1 - i), fun _ => True⟩) (fun R r => ?_) rfl trivial (by rw [List.length_range]; omega) (fun j hj A B hA hB => ?_) ?_
    · have e : ((ds.length : Int) - ((i : Int) + 1)).toNat = ds.length - 1 - i := by omega
      simpa [e, b64, and_assoc, show -4611686018427387904 ≤ (i : Int) + 1 by omega, show (i : Int) + 1 < 4611686018427387904 by omega] using r
    · have hj := List.mem_range.mp hj
      have a1 := at_ i (by omega)
      have a2 := at_ (i + 1 + j) (by omega)
      rw [show (((i + 1 + j : Nat)) : Int) = (i : Int) + 1 + (j : Int) by omega] at a2
      have shx : ∀ xs : List Int, ∀ x ∈ xs.map D.int, Sh 29 x := fun xs x hx => by
        obtain ⟨k, _, rfl⟩ := List.mem_map.mp hx
        exact sh_int
      simp [vwipe]
      refine ⟨_, a1, _, a2, .inr ⟨by rw [fz_tup]; exact shx _, by rw [fz_tup]; exact shx _, ?_⟩⟩
      rw [fz_tup, fz_tup, eqD_tup, eqDs_ints]
      cases q1 : decide (S.getD i [] = S.getD (i + 1 + j) []) with
      | false => exact .inl ⟨rfl, hB q1⟩
      | true =>
        refine .inr ⟨rfl, ?_⟩
        have := hA q1
        simpa [prD] using this
    · have fl := likeF_len (S := S) i
      have f2 : i * S.length ≤ 16 * 16 := Nat.mul_le_mul (by omega) (by omega)
      have f3 := List.length_filter_le (fun j => decide (S.getD i [] = S.getD (i + 1 + j) [])) (List.range (ds.length - 1 - i))
      rw [List.length_range] at f3
      refine ⟨_, mupd_same, _, rfl, by rw [List.length_map, List.length_map]; omega, ?_⟩
      rw [mupd_mupd, likeF_succ, List.map_append, List.map_map]
      unfold likeA
      rw [Sl]
      rfl
  · subst hN he
    rw [List.length_range]
    subst hR1
    simp
    exact ⟨_, VL.Sub.refl, h q hq⟩
abbrev N_enough : List Str := ["web", "rows", "many", "found", "kinds", "row", "more", "is_new", "door", "one"]
abbrev P_enough : List Str := ["web", "rows"]
theorem sc_enough : FnScope N_enough P_enough (defScope s_enough) := ⟨rfl, rfl, rfl, by decide +kernel, rfl, by decide +kernel, by decide +kernel⟩
def p_enough : VSp := pr2 fun a b M Q => a = webD 2 [(0, 1)] ∧ b = rowsL [[2]] ∧ Q (rowsL [[2]]) M
theorem ok_enough {P : Program} {w : World} {K : PySem.W.Frag} {mg : Str → Option Value} {base : Heap} (hD : Df K mg "enough" s_enough) (hB : Fr mg bl) (k_at_door : Kn P w K mg base 1 "at_door" P_at_door p_at_door) : Kn P w K mg base 2 "enough" P_enough p_enough := by
  have S := sc_enough
  refine kn_of hD sc_enough (fun _ _ _ _ _ _ us hl => match us, hl with | [_, _], _ => rfl) pr2_len ?_
  intro f cdv A outer s H E hr
  refine ⟨_, (vss_cons (vs_asg (v_tup (va_cons (v_callB c_len (hB _ (by decide +kernel)) (va_cons (v_ix (v_var (pv 0)) v_int) va_nil)) (va_cons (v_lst va_nil) (va_cons v_int va_nil)))) (vg_tup (n := 3) rfl (vgs_cons (vg_name (pg_name (i := 2) S.nd rfl (by first | exact Or.inl rfl | exact Or.inr rfl))) (vgs_cons (vg_name (pg_name (i := 3) S.nd rfl (by first | exact Or.inl rfl | exact Or.inr rfl))) (vgs_cons (vg_name (pg_name (i := 4) S.nd rfl (by first | exact Or.inl rfl | exact Or.inr rfl))) vgs_nil))))) (vss_cons (vs_for PassesOwn.never rfl (vi_seq (v_var (pv 1))) (vg_name (pg_name (i := 5) S.nd rfl (by first | exact Or.inl rfl | exact Or.inr rfl))) (vss_cons (vs_set (i := 6) S.nd rfl (Or.inl rfl) (v_lenSetT hr rfl (hB _ (by decide +kernel)) (hB _ (by decide +kernel)) (v_lc (own := [("door", 8)]) rfl S.nd (vi_range1 (hB _ (by decide +kernel)) (va_cons (v_var (pv 2)) va_nil)) (blkOk_by (by first | rfl | kernel_rfl)) (lcg_name (fun _ _ _ _ _ => pg_name (i := 8) S.nd rfl (by first | exact Or.inl rfl | exact Or.inr rfl))) (fun _ _ _ _ _ => vts_nil) (fun _ _ _ _ _ => (v_callK k_at_door hr (va_cons (v_lst (va_star (v_var (pv 3)) (va_cons (v_var (pv 5)) va_nil))) (va_cons (v_var (pv 8)) va_nil))))))) (vss_cons (vs_set (i := 7) S.nd rfl (Or.inl rfl) (v_callB (c_any rfl) (hB _ (by decide +kernel)) (va_cons (v_lc (own := [("door", 8)]) rfl S.nd (vi_range1 (hB _ (by decide +kernel)) (va_cons (v_var (pv 2)) va_nil)) (blkOk_by (by first | rfl | kernel_rfl)) (lcg_name (fun _ _ _ _ _ => pg_name (i := 8) S.nd rfl (by first | exact Or.inl rfl | exact Or.inr rfl))) (fun _ _ _ _ _ => vts_nil) (fun _ _ _ _ _ => (v_and (v_cmp o_gt (v_ix (v_var (pv 5)) (v_var (pv 8))) v_int (nomark _)) (v_one (v_not (v_callB (c_any rfl) (hB _ (by decide +kernel)) (va_cons (v_lc (own := [("one", 9)]) rfl S.nd (vi_seq (v_var (pv 3))) (blkOk_by (by first | rfl | kernel_rfl)) (lcg_name (fun _ _ _ _ _ => pg_name (i := 9) S.nd rfl (by first | exact Or.inl rfl | exact Or.inr rfl))) (fun _ _ _ _ _ => vts_nil) (fun _ _ _ _ _ => (v_cmp o_gt (v_ix (v_var (pv 9)) (v_var (pv 8))) v_int (nomark _)))) va_nil))))))) va_nil))) (vss_one (vs_if (t_pw (t_or (t_cmp o_gt (v_var (pv 6)) (v_var (pv 4)) (nomark _)) (t_or1 (t_val (v_var (pv 7)))))) (vss_one (vs_asg (v_tup (va_cons (v_lst (va_star (v_var (pv 3)) (va_cons (v_var (pv 5)) va_nil))) (va_cons (v_var (pv 6)) va_nil))) (vg_tup (n := 2) rfl (vgs_cons (vg_name (pg_name (i := 3) S.nd rfl (by first | exact Or.inl rfl | exact Or.inr rfl))) (vgs_cons (vg_name (pg_name (i := 4) S.nd rfl (by first | exact Or.inl rfl | exact Or.inr rfl))) vgs_nil))))) vss_nil))))) (vss_one (vs_ret (v_var (pv 3)))))), ?_⟩
  clear hr S
  rintro _ M Q ⟨x0, x1, rfl, h⟩
  rw [show vstart N_enough.length [x0, x1] = [some x0, some x1, none, none, none, none, none, none, none, none] from rfl]
  obtain ⟨rfl, rfl, h⟩ := h
  have sz := size1000
  refine s_hide fun R1 hR1 => ?_
  simp [webD]
  rw [show D.tup [D.int 2, D.tup [dD (0, 1)]] = webD 2 [(0, 1)] from rfl]
  show R1 _ _ _
  subst hR1
  refine s_hide fun R1 hR1 => ?_
  refine sFor_al [([2] : List Int)] rowD (fun i e N => N = M ∧ ∃ e5 e6 e7 e8 e9, e = [some (webD 2 [(0, 1)]), some (rowsL [[2]]), some (.int 1), some (.lst (if i = 0 then [] else [rowD [2]])), some (.int 1), e5, e6, e7, e8, e9]) (w := ⟨[rowD [2]], fun _ => True⟩) (fun R r => by simpa [rowsL, asI] using r) rfl ⟨rfl, _, _, _, _, _, rfl⟩ (fun _ _ _ _ _ => trivial) (fun i z e N hz hi ⟨hN, e5, e6, e7, e8, e9, he⟩ => ?_) (fun e N ⟨hN, e5, e6, e7, e8, e9, he⟩ => ?_)
  · have hN := hN.symm
    subst hN he
    have i0 : i = 0 := by simp at hi; omega
    subst i0
    cases hz
    refine g_hide fun R2 hR2 => ?_
    simp
    refine vLc_al (List.range 1) (fun i => .int (0 + ((i : Nat) : Int))) (fun k : Nat => .tup ([2].map D.int)) (w := ⟨rgD 0 1, fun _ => True⟩) (fun R r => by simpa using r) rfl trivial (by rw [List.length_range]; omega) (fun k hk A hA => ?_) ?_
    · have hk := List.mem_range.mp hk
      simp [vwipe]
      refine pr2_at.mpr ⟨[[2]], k, rfl, rfl, by decide, fun r hr => ?_, ?_⟩
      · rw [List.mem_singleton.mp hr]
        exact hk
      · have k0 : k = 0 := by omega
        subst k0
        exact hA
    · refine ⟨[[2]], rfl, by decide, fun L nd h1 h2 => ?_⟩
      have eL : L = [[2]] := by
        have m : [2] ∈ L := h2 _ List.mem_cons_self
        have pm : L.Perm [[2]] := (List.perm_ext_iff_of_nodup nd (by decide)).mpr fun x => ⟨h1 x, fun hx => by rw [List.mem_singleton.mp hx]; exact m⟩
        exact List.perm_singleton.mp pm
      subst eL
      show R2 _ _ _
      subst hR2
      refine s_hide fun R2 hR2 => ?_
      simp
      refine vLc_al (List.range 1) (fun i => .int (0 + ((i : Nat) : Int))) (fun _ => .bl true) (w := ⟨rgD 0 1, fun _ => True⟩) (fun R r => by simpa using r) rfl trivial (by rw [List.length_range]; omega) (fun k hk A hA => ?_) ?_
      · have k0 : k = 0 := by have := List.mem_range.mp hk; omega
        subst k0
        simp [vwipe, rowD]
        refine vLc_al ([] : List Int) (fun _ => .non) (fun _ => .bl true) (w := ⟨[], fun _ => True⟩) (fun R r => by simpa [asI] using r) rfl trivial (by simp; omega) (fun x hx => nomatch hx) ?_
        exact ⟨[], rfl, .inl ⟨rfl, hA⟩⟩
      · refine (show rAny _ _ _ from ⟨[true], rfl, ?_⟩)
        subst hR2
        simp [rowsL]
  · have hN := hN.symm
    subst hN he
    subst hR1
    simp
    exact h
abbrev N_summed : List Str := ["web", "rows", "found", "power", "row", "here", "more"]
abbrev P_summed : List Str := ["web", "rows"]
theorem sc_summed : FnScope N_summed P_summed (defScope s_summed) := ⟨rfl, rfl, rfl, by decide +kernel, rfl, by decide +kernel, by decide +kernel⟩
def p_summed : VSp := pr2 fun a b M Q => a = webD 2 [(0, 1)] ∧ b = rowsL [[2]] ∧ Q (.lst [.int 2]) M
theorem ok_summed {P : Program} {w : World} {K : PySem.W.Frag} {mg : Str → Option Value} {base : Heap} (hD : Df K mg "summed" s_summed) (hB : Fr mg bl) {t_THREE_doors : Tok} (i_THREE_doors : mg "THREE_doors" = some (.int 3 t_THREE_doors)) : Kn P w K mg base 1 "summed" P_summed p_summed := by
  have S := sc_summed
  refine kn_of hD sc_summed (fun _ _ _ _ _ _ us hl => match us, hl with | [_, _], _ => rfl) pr2_len ?_
  intro f cdv A outer s H E hr
  refine ⟨_, (vss_cons (vs_asg (v_tup (va_cons (v_op o_rep (v_lst (va_cons v_int va_nil)) (v_callB c_len (hB _ (by decide +kernel)) (va_cons (v_ix (v_var (pv 0)) v_int) va_nil))) (va_cons v_int va_nil))) (vg_tup (n := 2) rfl (vgs_cons (vg_name (pg_name (i := 2) S.nd rfl (by first | exact Or.inl rfl | exact Or.inr rfl))) (vgs_cons (vg_name (pg_name (i := 3) S.nd rfl (by first | exact Or.inl rfl | exact Or.inr rfl))) vgs_nil)))) (vss_cons (vs_for PassesOwn.never rfl (vi_seq (v_var (pv 1))) (vg_name (pg_name (i := 4) S.nd rfl (by first | exact Or.inl rfl | exact Or.inr rfl))) (vss_cons (vs_setLc (i := 2) (hc := rfl) (hN := S.nd) (hy := rfl) (hyl := rfl) (hsw := sw_true rfl rfl rfl (by decide +kernel))  (own := [("here", 5), ("more", 6)]) (vi_zip (hB _ (by decide +kernel)) (va_cons (v_var (pv 2)) (va_cons (v_var (pv 4)) va_nil))) (blkOk_by (by first | rfl | kernel_rfl)) (lcg_tup (n := 2) rfl (lcgs_cons (lcg_name (fun _ _ _ _ _ => pg_name (i := 5) S.nd rfl (by first | exact Or.inl rfl | exact Or.inr rfl))) (lcgs_cons (lcg_name (fun _ _ _ _ _ => pg_name (i := 6) S.nd rfl (by first | exact Or.inl rfl | exact Or.inr rfl))) lcgs_nil))) (fun _ _ _ _ _ => vts_nil) (fun _ _ _ _ _ => (v_op o_add (v_var (pv 5)) (v_op o_mulI (v_var (pv 3)) (v_var (pv 6)))))) (vss_one (vs_set (i := 3) S.nd rfl (Or.inr rfl) (v_op o_mulI (v_gint i_THREE_doors ⟨_, rfl⟩) (v_var (pv 3))))))) (vss_one (vs_ret (v_var (pv 2)))))), ?_⟩
  clear hr S
  rintro _ M Q ⟨x0, x1, rfl, h⟩
  rw [show vstart N_summed.length [x0, x1] = [some x0, some x1, none, none, none, none, none] from rfl]
  obtain ⟨rfl, rfl, h⟩ := h
  have sz := size1000
  refine s_hide fun R1 hR1 => ?_
  simp [webD]
  refine (show oRep _ _ _ _ from ⟨[.int 0], 1, rfl, rfl, by decide, by decide, by decide, ?_⟩)
  rw [show D.tup [D.int 2, D.tup [dD (0, 1)]] = webD 2 [(0, 1)] from rfl]
  show R1 _ [some (webD 2 [(0, 1)]), some (rowsL [[2]]), some (.lst [.int 0]), some (.int 1), none, none, none] M
  subst hR1
  refine s_hide fun R1 hR1 => ?_
  refine sFor_al [([2] : List Int)] rowD (fun i e N => N = M ∧ ∃ e3 e4 e5 e6, e = [some (webD 2 [(0, 1)]), some (rowsL [[2]]), some (.lst [.int (if i = 0 then 0 else 2)]), e3, e4, e5, e6] ∧ (i = 0 → e3 = some (.int 1))) (w := ⟨[rowD [2]], fun _ => True⟩) (fun R r => by simpa [rowsL, asI] using r) rfl ⟨rfl, _, _, _, _, rfl, fun _ => rfl⟩ (fun _ _ _ _ _ => trivial) (fun i z e N hz hi ⟨hN, e3, e4, e5, e6, he, h3⟩ => ?_) (fun e N ⟨hN, e3, e4, e5, e6, he, h3⟩ => ?_)
  · have hN := hN.symm
    subst hN he
    have i0 : i = 0 := by simp at hi; omega
    subst i0
    cases hz
    have h3 := h3 rfl
    subst h3
    refine g_hide fun R2 hR2 => ?_
    simp
    refine vLc_al [((0 : Int), (2 : Int))] (fun z => .tup [.int z.1, .int z.2]) (fun z => .int 2) (w := ⟨zipD [.int 0] [.int 2], fun M' => asL M' (.lst [.int 0]) = some [.int 0] ∧ asL M' (rowD [2]) = some [.int 2]⟩) (fun R r => ?_) rfl ⟨rfl, rfl⟩ (by simp; omega) (fun z hz A hA => ?_) ?_
    · exact (show iZp _ _ _ _ from ⟨_, rfl, _, rfl, _, _, _, _, rfl, .inl ⟨rfl, rfl, r⟩⟩)
    · rw [List.mem_singleton.mp hz]
      simp [vwipe]
      exact ⟨.inl (by decide), hA⟩
    · show R2 _ _ _
      subst hR2
      simp
      exact .inl (by decide)
  · have hN := hN.symm
    subst hN he
    subst hR1
    simp
    exact h
abbrev N_are_numbers : List Str := ["web", "value", "found", "number", "one"]
abbrev P_are_numbers : List Str := ["web", "value"]
theorem sc_are_numbers : FnScope N_are_numbers P_are_numbers (defScope s_are_numbers) := ⟨rfl, rfl, rfl, by decide +kernel, rfl, by decide +kernel, by decide +kernel⟩
def p_are_numbers : VSp := pr2 fun a b M Q => False
theorem ok_are_numbers {P : Program} {w : World} {K : PySem.W.Frag} {mg : Str → Option Value} {base : Heap} (hD : Df K mg "are_numbers" s_are_numbers) (hB : Fr mg bl) (k_is_integer : Kn P w K mg base 1 "is_integer" P_is_integer p_is_integer) (k_sums_at : Kn P w K mg base 1 "sums_at" P_sums_at p_sums_at) : Kn P w K mg base 2 "are_numbers" P_are_numbers p_are_numbers := by
  have S := sc_are_numbers
  refine kn_of hD sc_are_numbers (fun _ _ _ _ _ _ us hl => match us, hl with | [_, _], _ => rfl) pr2_len ?_
  intro f cdv A outer s H E hr
  refine ⟨_, (vss_cons (vs_if (t_pw (t_or (t_not (t_val (v_isi (T := "tuple") (hB _ (by decide +kernel)) (hB _ (by decide +kernel)) (v_var (pv 1))))) (t_or1 (t_cmp (o_ne hr.r) (v_callB c_len (hB _ (by decide +kernel)) (va_cons (v_var (pv 1)) va_nil)) (v_callB c_len (hB _ (by decide +kernel)) (va_cons (v_ix (v_var (pv 0)) v_int) va_nil)) (nomark _))))) (vss_one (vs_ret v_bl)) vss_nil) (vss_cons (vs_if (t_not (t_val (v_callB (c_all rfl) (hB _ (by decide +kernel)) (va_cons (v_lc (own := [("number", 3)]) rfl S.nd (vi_seq (v_var (pv 1))) (blkOk_by (by first | rfl | kernel_rfl)) (lcg_name (fun _ _ _ _ _ => pg_name (i := 3) S.nd rfl (by first | exact Or.inl rfl | exact Or.inr rfl))) (fun _ _ _ _ _ => vts_nil) (fun _ _ _ _ _ => (v_and (v_callK k_is_integer hr (va_cons (v_var (pv 3)) va_nil)) (v_one (v_cmp o_ge (v_var (pv 3)) v_int (nomark _)))))) va_nil)))) (vss_one (vs_ret v_bl)) vss_nil) (vss_cons (vs_set (i := 2) S.nd rfl (Or.inr rfl) (v_callK k_sums_at hr (va_cons (v_var (pv 0)) (va_cons (v_var (pv 1)) va_nil)))) (vss_one (vs_ret (v_callB (c_all rfl) (hB _ (by decide +kernel)) (va_cons (v_lc (own := [("one", 4)]) rfl S.nd (vi_seq (v_var (pv 2))) (blkOk_by (by first | rfl | kernel_rfl)) (lcg_name (fun _ _ _ _ _ => pg_name (i := 4) S.nd rfl (by first | exact Or.inl rfl | exact Or.inr rfl))) (fun _ _ _ _ _ => vts_nil) (fun _ _ _ _ _ => (v_cmp (o_eq hr.r) (v_var (pv 4)) (v_ix (v_var (pv 2)) v_int) (nomark _)))) va_nil))))))), ?_⟩
  clear hr S
  rintro _ M Q ⟨x0, x1, rfl, h⟩
  rw [show vstart N_are_numbers.length [x0, x1] = [some x0, some x1, none, none, none] from rfl]
  exact h.elim
abbrev N_is_bar : List Str := ["web", "rows", "value"]
abbrev P_is_bar : List Str := ["web", "rows", "value"]
theorem sc_is_bar : FnScope N_is_bar P_is_bar (defScope s_is_bar) := ⟨rfl, rfl, rfl, by decide +kernel, rfl, by decide +kernel, by decide +kernel⟩
def p_is_bar : VSp := pr3 fun a b c M Q => False
theorem ok_is_bar {P : Program} {w : World} {K : PySem.W.Frag} {mg : Str → Option Value} {base : Heap} (hD : Df K mg "is_bar" s_is_bar) (hB : Fr mg bl) {t_DOOR : Tok} (i_DOOR : mg "DOOR" = some (.str "door" t_DOOR)) (k_is_between : Kn P w K mg base 2 "is_between" P_is_between p_is_between) (k_bare_doors : Kn P w K mg base 1 "bare_doors" P_bare_doors p_bare_doors) : Kn P w K mg base 3 "is_bar" P_is_bar p_is_bar := by
  have S := sc_is_bar
  refine kn_of hD sc_is_bar (fun _ _ _ _ _ _ us hl => match us, hl with | [_, _, _], _ => rfl) pr3_len ?_
  intro f cdv A outer s H E hr
  refine ⟨_, (vss_one (vs_ret (v_and (v_cmp (o_eq hr.r) (v_ix (v_var (pv 2)) v_int) (v_gstr i_DOOR ⟨_, rfl⟩) (nomark _)) (v_and (v_callK k_is_between hr (va_cons (v_ix (v_var (pv 2)) v_int) (va_cons v_int (va_cons (v_op o_sub (v_callB c_len (hB _ (by decide +kernel)) (va_cons (v_ix (v_var (pv 0)) v_int) va_nil)) v_int) va_nil)))) (v_one (v_cmp (o_in hr.r) (v_ix (v_var (pv 2)) v_int) (v_callK k_bare_doors hr (va_cons (v_var (pv 0)) (va_cons (v_var (pv 1)) va_nil))) (by with_unfolding_all rfl))))))), ?_⟩
  clear hr S
  rintro _ M Q ⟨x0, x1, x2, rfl, h⟩
  rw [show vstart N_is_bar.length [x0, x1, x2] = [some x0, some x1, some x2] from rfl]
  exact h.elim
theorem bare1 : bareF [((0 : Int), (1 : Int))].length [[2]] = [] := by decide
theorem bare2 : bareF [((0 : Int), (1 : Int)), (0, 2)].length [] = [0, 1] := by decide
theorem like1 : likeF (seenF [((0 : Int), (1 : Int))].length [[2]]) [((0 : Int), (1 : Int))].length = [] := by decide
abbrev N_web_told : List Str := ["web", "rows", "bare", "like"]
abbrev P_web_told : List Str := ["web"]
theorem sc_web_told : FnScope N_web_told P_web_told (defScope s_web_told) := ⟨rfl, rfl, rfl, by decide +kernel, rfl, by decide +kernel, by decide +kernel⟩
def p_web_told : VSp := pr1 fun a M Q => ∃ n ds rows, a = webD n ds ∧ Two n ds rows ∧ ∀ d, Q d M
theorem ok_web_told {P : Program} {w : World} {K : PySem.W.Frag} {mg : Str → Option Value} {base : Heap} (hD : Df K mg "web_told" s_web_told) (hB : Fr mg bl) {t_DOOR : Tok} (i_DOOR : mg "DOOR" = some (.str "door" t_DOOR)) {t_TWO : Tok} (i_TWO : mg "TWO" = some (.str "two" t_TWO)) {t_NUMBERS : Tok} (i_NUMBERS : mg "NUMBERS" = some (.str "numbers" t_NUMBERS)) (k_check_web : Kn P w K mg base 5 "check_web" P_check_web p_check_web) (k_rows_of : Kn P w K mg base 4 "rows_of" P_rows_of p_rows_of) (k_bare_doors : Kn P w K mg base 1 "bare_doors" P_bare_doors p_bare_doors) (k_like_doors : Kn P w K mg base 2 "like_doors" P_like_doors p_like_doors) (k_summed : Kn P w K mg base 1 "summed" P_summed p_summed) (k_enough : Kn P w K mg base 2 "enough" P_enough p_enough) : Kn P w K mg base 6 "web_told" P_web_told p_web_told := by
  have S := sc_web_told
  refine kn_ofD hD sc_web_told (fun _ _ _ _ _ _ us hl => match us, hl with | [_], _ => rfl) pr1_len ?_
  intro f cdv A outer s H E hr
  refine ⟨_, (vss_cons (vs_expr (v_callK k_check_web hr (va_cons (v_var (pv 0)) va_nil))) (vss_cons (vs_set (i := 1) S.nd rfl (Or.inl rfl) (v_callK k_rows_of hr (va_cons (v_var (pv 0)) va_nil))) (vss_cons (vs_par (i := 2) (j := 3) rfl S.nd rfl rfl (by decide) rfl rfl (va_cons (v_callK k_bare_doors hr (va_cons (v_var (pv 0)) (va_cons (v_var (pv 1)) va_nil))) (va_cons (v_callK k_like_doors hr (va_cons (v_var (pv 0)) (va_cons (v_var (pv 1)) va_nil))) va_nil)) (by rfl)) (vss_cons (vs_if (t_cmp (o_ne hr.r) (v_var (pv 2)) (v_lst va_nil) (nomark _)) (vss_one (vs_ret (v_tup (va_cons (v_gstr i_DOOR ⟨_, rfl⟩) (va_cons (v_ix (v_var (pv 2)) v_int) va_nil))))) vss_nil) (vss_cons (vs_if (t_cmp (o_ne hr.r) (v_var (pv 3)) (v_lst va_nil) (nomark _)) (vss_one (vs_ret (v_tup (va_cons (v_gstr i_TWO ⟨_, rfl⟩) (va_cons (v_ix (v_ix (v_var (pv 3)) v_int) v_int) (va_cons (v_ix (v_ix (v_var (pv 3)) v_int) v_int) va_nil)))))) vss_nil) (vss_one (vs_ret (v_tup (va_cons (v_gstr i_NUMBERS ⟨_, rfl⟩) (va_cons (v_callTy c_tuple (hB _ (by decide +kernel)) (va_cons (v_callK k_summed hr (va_cons (v_var (pv 0)) (va_cons (v_callK k_enough hr (va_cons (v_var (pv 0)) (va_cons (v_var (pv 1)) va_nil))) va_nil))) va_nil)) va_nil)))))))))), ?_⟩
  clear hr S
  rintro _ M Q ⟨x0, rfl, h⟩
  rw [show vstart N_web_told.length [x0] = [some x0, none, none, none] from rfl]
  obtain ⟨n, ds, rows, rfl, tw, h⟩ := h
  obtain ⟨ok, d2⟩ := two_ok tw
  refine s_hide fun R1 hR1 => ?_
  simp
  refine pr1_at.mpr ⟨n, ds, rfl, ok, ?_⟩
  show R1 _ _ _
  subst hR1
  refine s_hide fun R1 hR1 => ?_
  simp
  refine pr1_at.mpr ⟨n, ds, rows, rfl, tw, ?_⟩
  show R1 _ _ _
  subst hR1
  refine s_hide fun R1 hR1 => ?_
  simp
  have rl : rows.length ≤ 1 ∧ ∀ r ∈ rows, r.length = ds.length := by
    rcases tw with ⟨rfl, rfl, rfl⟩ | ⟨rfl, rfl, rfl⟩ <;> simp
  refine pr2_at.mpr ⟨n, ds, rows, rfl, rfl, by omega, by omega, rl.2, ?_⟩
  refine pr2_at.mpr ⟨n, ds, rows, rfl, rfl, by omega, by omega, rl.2, fun q hq => ?_⟩
  refine ⟨_, _, ⟨rfl, rfl⟩, ?_⟩
  have sub : VL.Sub M (mupd M q (.lst ((likeF (seenF ds.length rows) ds.length).map prD))) := VL.Sub.new hq
  have Nq : mupd M q (.lst ((likeF (seenF ds.length rows) ds.length).map prD)) q = some (.lst ((likeF (seenF ds.length rows) ds.length).map prD)) := mupd_same
  show R1 _ _ (mupd M q (.lst ((likeF (seenF ds.length rows) ds.length).map prD)))
  generalize mupd M q (.lst ((likeF (seenF ds.length rows) ds.length).map prD)) = N at sub Nq ⊢
  subst hR1
  refine s_hide fun R1 hR1 => ?_
  simp
  have shb : ∀ x ∈ (bareF ds.length rows).map (fun k : Nat => D.int (k : Int)), Sh 29 x := fun x hx => by
    obtain ⟨k, _, rfl⟩ := List.mem_map.mp hx
    exact sh_int
  refine oNe_nil rfl shb ?_
  rcases tw with ⟨rfl, rfl, rfl⟩ | ⟨rfl, rfl, rfl⟩
  · refine .inl ⟨by rw [bare1]; rfl, ?_⟩
    show R1 _ _ _
    subst hR1
    refine s_hide fun R1 hR1 => ?_
    simp
    refine oNe_nil (asL_obj Nq) (fun x hx => ?_) (.inl ⟨by rw [like1]; rfl, ?_⟩)
    · obtain ⟨z, _, rfl⟩ := List.mem_map.mp hx
      refine sh_tup fun y hy => ?_
      simp only [List.mem_cons, List.not_mem_nil, or_false] at hy
      rcases hy with rfl | rfl <;> exact sh_int
    show R1 _ _ _
    subst hR1
    simp
    refine pr2_at.mpr ⟨rfl, rfl, pr2_at.mpr ⟨rfl, rfl, ?_⟩⟩
    exact ⟨_, rfl, _, sub, h _⟩
  · refine .inr ⟨by rw [bare2]; rfl, ?_⟩
    exact ⟨_, ⟨0, by rw [bare2]; rfl, rfl⟩, _, sub, h _⟩
abbrev N_shows_web : List Str := ["web", "value", "rows", "door"]
abbrev P_shows_web : List Str := ["web", "value"]
theorem sc_shows_web : FnScope N_shows_web P_shows_web (defScope s_shows_web) := ⟨rfl, rfl, rfl, by decide +kernel, rfl, by decide +kernel, by decide +kernel⟩
def p_shows_web : VSp := pr2 fun a b M Q => ∃ n ds rows, a = webD n ds ∧ b = .non ∧ Two n ds rows ∧ ∀ d, Q d M
theorem ok_shows_web {P : Program} {w : World} {K : PySem.W.Frag} {mg : Str → Option Value} {base : Heap} (hD : Df K mg "shows_web" s_shows_web) (hB : Fr mg bl) {t_THREE_doors : Tok} (i_THREE_doors : mg "THREE_doors" = some (.int 3 t_THREE_doors)) {t_TWO : Tok} (i_TWO : mg "TWO" = some (.str "two" t_TWO)) {t_NUMBERS : Tok} (i_NUMBERS : mg "NUMBERS" = some (.str "numbers" t_NUMBERS)) (k_check_web : Kn P w K mg base 5 "check_web" P_check_web p_check_web) (k_rows_of : Kn P w K mg base 4 "rows_of" P_rows_of p_rows_of) (k_is_integer : Kn P w K mg base 1 "is_integer" P_is_integer p_is_integer) (k_like_doors : Kn P w K mg base 2 "like_doors" P_like_doors p_like_doors) (k_are_numbers : Kn P w K mg base 2 "are_numbers" P_are_numbers p_are_numbers) (k_is_bar : Kn P w K mg base 3 "is_bar" P_is_bar p_is_bar) : Kn P w K mg base 6 "shows_web" P_shows_web p_shows_web := by
  have S := sc_shows_web
  refine kn_of hD sc_shows_web (fun _ _ _ _ _ _ us hl => match us, hl with | [_, _], _ => rfl) pr2_len ?_
  intro f cdv A outer s H E hr
  refine ⟨_, (vss_cons (vs_expr (v_callK k_check_web hr (va_cons (v_var (pv 0)) va_nil))) (vss_cons (vs_set (i := 2) S.nd rfl (Or.inl rfl) (v_callK k_rows_of hr (va_cons (v_var (pv 0)) va_nil))) (vss_cons (vs_if (t_pw (t_or (t_not (t_val (v_isi (T := "tuple") (hB _ (by decide +kernel)) (hB _ (by decide +kernel)) (v_var (pv 1))))) (t_or (t_cmp (o_notIn hr.r) (v_callB c_len (hB _ (by decide +kernel)) (va_cons (v_var (pv 1)) va_nil)) (v_tup (va_cons v_int (va_cons (v_gint i_THREE_doors ⟨_, rfl⟩) va_nil))) (by with_unfolding_all rfl)) (t_or1 (t_not (t_val (v_isi (T := "str") (hB _ (by decide +kernel)) (hB _ (by decide +kernel)) (v_ix (v_var (pv 1)) v_int)))))))) (vss_one (vs_ret v_bl)) vss_nil) (vss_cons (vs_if (t_cmp (o_eq hr.r) (v_callB c_len (hB _ (by decide +kernel)) (va_cons (v_var (pv 1)) va_nil)) (v_gint i_THREE_doors ⟨_, rfl⟩) (nomark _)) (vss_one (vs_ret (v_and (v_cmp (o_eq hr.r) (v_ix (v_var (pv 1)) v_int) (v_gstr i_TWO ⟨_, rfl⟩) (nomark _)) (v_and (v_callB (c_all rfl) (hB _ (by decide +kernel)) (va_cons (v_lc (own := [("door", 3)]) rfl S.nd (vi_seq (v_sl (v_var (pv 1)) (vo_some v_int) vo_none)) (blkOk_by (by first | rfl | kernel_rfl)) (lcg_name (fun _ _ _ _ _ => pg_name (i := 3) S.nd rfl (by first | exact Or.inl rfl | exact Or.inr rfl))) (fun _ _ _ _ _ => vts_nil) (fun _ _ _ _ _ => (v_callK k_is_integer hr (va_cons (v_var (pv 3)) va_nil)))) va_nil)) (v_one (v_cmp (o_in hr.r) (v_sl (v_var (pv 1)) (vo_some v_int) vo_none) (v_callK k_like_doors hr (va_cons (v_var (pv 0)) (va_cons (v_var (pv 2)) va_nil))) (by with_unfolding_all rfl))))))) vss_nil) (vss_cons (vs_if (t_cmp (o_eq hr.r) (v_ix (v_var (pv 1)) v_int) (v_gstr i_NUMBERS ⟨_, rfl⟩) (nomark _)) (vss_one (vs_ret (v_and (v_callK k_are_numbers hr (va_cons (v_var (pv 0)) (va_cons (v_ix (v_var (pv 1)) v_int) va_nil))) (v_one (v_cmp (o_eq hr.r) (v_lenSetI rfl (hB _ (by decide +kernel)) (hB _ (by decide +kernel)) (v_ix (v_var (pv 1)) v_int)) (v_callB c_len (hB _ (by decide +kernel)) (va_cons (v_ix (v_var (pv 1)) v_int) va_nil)) (nomark _)))))) vss_nil) (vss_one (vs_ret (v_callK k_is_bar hr (va_cons (v_var (pv 0)) (va_cons (v_var (pv 2)) (va_cons (v_var (pv 1)) va_nil))))))))))), ?_⟩
  clear hr S
  rintro _ M Q ⟨x0, x1, rfl, h⟩
  rw [show vstart N_shows_web.length [x0, x1] = [some x0, some x1, none, none] from rfl]
  obtain ⟨n, ds, rows, rfl, rfl, tw, h⟩ := h
  obtain ⟨ok, d2⟩ := two_ok tw
  refine s_hide fun R1 hR1 => ?_
  simp
  refine pr1_at.mpr ⟨n, ds, rfl, ok, ?_⟩
  show R1 _ _ _
  subst hR1
  refine s_hide fun R1 hR1 => ?_
  simp
  refine pr1_at.mpr ⟨n, ds, rows, rfl, tw, ?_⟩
  show R1 _ _ _
  subst hR1
  refine s_hide fun R1 hR1 => ?_
  simp only [sSeq, sIf, vOrT, vNotT, vTest]
  refine isi_tuple .non (fun R r => ⟨_, rfl, r⟩) (by unfold Okv; trivial) ⟨_, rfl, ?_⟩
  simp [isTuple]
  exact h _
abbrev N_even_told : List Str := ["web", "rows", "bare"]
abbrev P_even_told : List Str := ["web"]
theorem sc_even_told : FnScope N_even_told P_even_told (defScope s_even_told) := ⟨rfl, rfl, rfl, by decide +kernel, rfl, by decide +kernel, by decide +kernel⟩
def p_even_told : VSp := pr1 fun a M Q => ∃ n ds rows, a = webD n ds ∧ Two n ds rows ∧ ∀ d, Q d M
theorem ok_even_told {P : Program} {w : World} {K : PySem.W.Frag} {mg : Str → Option Value} {base : Heap} (hD : Df K mg "even_told" s_even_told) (hB : Fr mg bl) {t_DOOR : Tok} (i_DOOR : mg "DOOR" = some (.str "door" t_DOOR)) {t_NUMBERS : Tok} (i_NUMBERS : mg "NUMBERS" = some (.str "numbers" t_NUMBERS)) (k_check_web : Kn P w K mg base 5 "check_web" P_check_web p_check_web) (k_rows_of : Kn P w K mg base 4 "rows_of" P_rows_of p_rows_of) (k_bare_doors : Kn P w K mg base 1 "bare_doors" P_bare_doors p_bare_doors) (k_summed : Kn P w K mg base 1 "summed" P_summed p_summed) : Kn P w K mg base 6 "even_told" P_even_told p_even_told := by
  have S := sc_even_told
  refine kn_of hD sc_even_told (fun _ _ _ _ _ _ us hl => match us, hl with | [_], _ => rfl) pr1_len ?_
  intro f cdv A outer s H E hr
  refine ⟨_, (vss_cons (vs_expr (v_callK k_check_web hr (va_cons (v_var (pv 0)) va_nil))) (vss_cons (vs_set (i := 1) S.nd rfl (Or.inl rfl) (v_callK k_rows_of hr (va_cons (v_var (pv 0)) va_nil))) (vss_cons (vs_set (i := 2) S.nd rfl (Or.inl rfl) (v_callK k_bare_doors hr (va_cons (v_var (pv 0)) (va_cons (v_var (pv 1)) va_nil)))) (vss_one (vs_ret (v_if (t_cmp (o_ne hr.r) (v_var (pv 2)) (v_lst va_nil) (nomark _)) (v_tup (va_cons (v_gstr i_DOOR ⟨_, rfl⟩) (va_cons (v_ix (v_var (pv 2)) v_int) va_nil))) (v_tup (va_cons (v_gstr i_NUMBERS ⟨_, rfl⟩) (va_cons (v_callTy c_tuple (hB _ (by decide +kernel)) (va_cons (v_callK k_summed hr (va_cons (v_var (pv 0)) (va_cons (v_var (pv 1)) va_nil))) va_nil)) va_nil))))))))), ?_⟩
  clear hr S
  rintro _ M Q ⟨x0, rfl, h⟩
  rw [show vstart N_even_told.length [x0] = [some x0, none, none] from rfl]
  obtain ⟨n, ds, rows, rfl, tw, h⟩ := h
  obtain ⟨ok, d2⟩ := two_ok tw
  refine s_hide fun R1 hR1 => ?_
  simp
  refine pr1_at.mpr ⟨n, ds, rfl, ok, ?_⟩
  show R1 _ _ _
  subst hR1
  refine s_hide fun R1 hR1 => ?_
  simp
  refine pr1_at.mpr ⟨n, ds, rows, rfl, tw, ?_⟩
  show R1 _ _ _
  subst hR1
  refine s_hide fun R1 hR1 => ?_
  simp
  have rl : rows.length ≤ 1 ∧ ∀ r ∈ rows, r.length = ds.length := by
    rcases tw with ⟨rfl, rfl, rfl⟩ | ⟨rfl, rfl, rfl⟩ <;> simp
  have sz := size1000
  refine pr2_at.mpr ⟨n, ds, rows, rfl, rfl, by omega, by omega, rl.2, ?_⟩
  show R1 _ _ _
  subst hR1
  simp
  have shb : ∀ x ∈ (bareF ds.length rows).map (fun k : Nat => D.int (k : Int)), Sh 29 x := fun x hx => by
    obtain ⟨k, _, rfl⟩ := List.mem_map.mp hx
    exact sh_int
  refine oNe_nil rfl shb ?_
  rcases tw with ⟨rfl, rfl, rfl⟩ | ⟨rfl, rfl, rfl⟩
  · refine .inl ⟨by rw [bare1]; rfl, pr2_at.mpr ⟨rfl, rfl, ?_⟩⟩
    exact ⟨_, rfl, h _⟩
  · refine .inr ⟨by rw [bare2]; rfl, ?_⟩
    exact ⟨_, ⟨0, by rw [bare2]; rfl, rfl⟩, h _⟩
abbrev N_shows_even : List Str := ["web", "value", "rows"]
abbrev P_shows_even : List Str := ["web", "value"]
theorem sc_shows_even : FnScope N_shows_even P_shows_even (defScope s_shows_even) := ⟨rfl, rfl, rfl, by decide +kernel, rfl, by decide +kernel, by decide +kernel⟩
def p_shows_even : VSp := pr2 fun a b M Q => ∃ n ds rows, a = webD n ds ∧ b = .non ∧ Two n ds rows ∧ ∀ d, Q d M
theorem ok_shows_even {P : Program} {w : World} {K : PySem.W.Frag} {mg : Str → Option Value} {base : Heap} (hD : Df K mg "shows_even" s_shows_even) (hB : Fr mg bl) {t_NUMBERS : Tok} (i_NUMBERS : mg "NUMBERS" = some (.str "numbers" t_NUMBERS)) (k_check_web : Kn P w K mg base 5 "check_web" P_check_web p_check_web) (k_rows_of : Kn P w K mg base 4 "rows_of" P_rows_of p_rows_of) (k_are_numbers : Kn P w K mg base 2 "are_numbers" P_are_numbers p_are_numbers) (k_is_bar : Kn P w K mg base 3 "is_bar" P_is_bar p_is_bar) : Kn P w K mg base 6 "shows_even" P_shows_even p_shows_even := by
  have S := sc_shows_even
  refine kn_of hD sc_shows_even (fun _ _ _ _ _ _ us hl => match us, hl with | [_, _], _ => rfl) pr2_len ?_
  intro f cdv A outer s H E hr
  refine ⟨_, (vss_cons (vs_expr (v_callK k_check_web hr (va_cons (v_var (pv 0)) va_nil))) (vss_cons (vs_set (i := 2) S.nd rfl (Or.inl rfl) (v_callK k_rows_of hr (va_cons (v_var (pv 0)) va_nil))) (vss_cons (vs_if (t_pw (t_or (t_not (t_val (v_isi (T := "tuple") (hB _ (by decide +kernel)) (hB _ (by decide +kernel)) (v_var (pv 1))))) (t_or (t_cmp (o_ne hr.r) (v_callB c_len (hB _ (by decide +kernel)) (va_cons (v_var (pv 1)) va_nil)) v_int (nomark _)) (t_or1 (t_not (t_val (v_isi (T := "str") (hB _ (by decide +kernel)) (hB _ (by decide +kernel)) (v_ix (v_var (pv 1)) v_int)))))))) (vss_one (vs_ret v_bl)) vss_nil) (vss_one (vs_ret (v_if (t_cmp (o_eq hr.r) (v_ix (v_var (pv 1)) v_int) (v_gstr i_NUMBERS ⟨_, rfl⟩) (nomark _)) (v_callK k_are_numbers hr (va_cons (v_var (pv 0)) (va_cons (v_ix (v_var (pv 1)) v_int) va_nil))) (v_callK k_is_bar hr (va_cons (v_var (pv 0)) (va_cons (v_var (pv 2)) (va_cons (v_var (pv 1)) va_nil)))))))))), ?_⟩
  clear hr S
  rintro _ M Q ⟨x0, x1, rfl, h⟩
  rw [show vstart N_shows_even.length [x0, x1] = [some x0, some x1, none] from rfl]
  obtain ⟨n, ds, rows, rfl, rfl, tw, h⟩ := h
  obtain ⟨ok, d2⟩ := two_ok tw
  refine s_hide fun R1 hR1 => ?_
  simp
  refine pr1_at.mpr ⟨n, ds, rfl, ok, ?_⟩
  show R1 _ _ _
  subst hR1
  refine s_hide fun R1 hR1 => ?_
  simp
  refine pr1_at.mpr ⟨n, ds, rows, rfl, tw, ?_⟩
  show R1 _ _ _
  subst hR1
  refine s_hide fun R1 hR1 => ?_
  simp only [sSeq, sIf, vOrT, vNotT, vTest]
  refine isi_tuple .non (fun R r => ⟨_, rfl, r⟩) (by unfold Okv; trivial) ⟨_, rfl, ?_⟩
  simp [isTuple]
  exact h _
end K53
namespace K53
open PySem PySem.Spec L2 VL
theorem web_ex {a : D} (h : webB a = true) : ∃ n ds, a = webD n ds ∧ WebOk n ds := by
  have h0 := h
  unfold webB at h
  split at h
  · rename_i n ds
    rw [Bool.and_eq_true, Bool.and_eq_true] at h
    have e := doors_ex h.1.2
    refine ⟨n, ds.map uD, by unfold webD; rw [← e], web_iff.mp ?_⟩
    unfold webD
    rw [← e]
    exact h0
  · cases h
def lenW : D → Nat
  | .tup [_, .tup ds] => ds.length
  | _ => 0
theorem lenW_web {n : Int} {ds : List (Int × Int)} : lenW (webD n ds) = ds.length := by simp [lenW, webD]
def numB (m : Nat) (b : D) : Bool := areB (-1000000000) 1000000000 b && decide (lenT b = m)
def px_check_web (K : PySem.W.Frag) : VSpX := prx1 fun a M Q E' => Okv M a ∧ (webB a = true → Q .non M) ∧ (webB a = false → E' (He.ga K "BadWeb") a M)
theorem okx_check_web {P : Program} {w : World} {K : PySem.W.Frag} {mg : Str → Option Value} {base : Heap} (hD : Df K mg "check_web" s_check_web) (hB : Fr mg bl) (xt : ExT P w K mg base exs) (k_is_web : Kn P w K mg base 4 "is_web" P_is_web p_is_web) : KnX P w K mg base 5 "check_web" P_check_web (px_check_web K) := by
  have S := sc_check_web
  refine kn_ofX hD sc_check_web (fun _ _ _ _ _ _ us hl => match us, hl with | [_], _ => rfl) prx1_len ?_
  intro f cdv A outer s H E hr
  refine ⟨_, (vssx_one (vsx_if (t_not (t_val (v_callK k_is_web hr (va_cons (v_var (pv 0)) va_nil)))) (vssx_one (vsx_raise (xt.xc "BadWeb" (by decide +kernel)) hr (by decide) rfl (takes_of rfl rfl rfl rfl) (v_var (pv 0)))) vssx_nil)), ?_⟩
  clear hr S
  rintro _ M Q E' ⟨x0, rfl, h⟩
  rw [show vstart N_check_web.length [x0] = [some x0] from rfl]
  obtain ⟨ok, h1, h2⟩ := h
  simp
  refine pr1_at.mpr ⟨ok, ?_⟩
  cases e : webB x0 with
  | true => exact .inr ⟨rfl, h1 e⟩
  | false => exact .inl ⟨rfl, h2 e⟩
def px_check_numbers (K : PySem.W.Frag) : VSpX := prx2 fun a b M Q E' => Okv M a ∧ Okv M b ∧ (webB a = false → E' (He.ga K "BadWeb") a M) ∧ (webB a = true → numB (lenW a) b = false → E' (He.ga K "BadNumbers") b M) ∧ (webB a = true → numB (lenW a) b = true → Q .non M)
theorem okx_check_numbers {P : Program} {w : World} {K : PySem.W.Frag} {mg : Str → Option Value} {base : Heap} (hD : Df K mg "check_numbers" s_check_numbers) (hB : Fr mg bl) (xt : ExT P w K mg base exs) (kx_check_web : KnX P w K mg base 5 "check_web" P_check_web (px_check_web K)) {t_MOST_ENTRY : Tok} (i_MOST_ENTRY : mg "MOST_ENTRY" = some (.int 1000000000 t_MOST_ENTRY)) (k_are_between : Kn P w K mg base 3 "are_between" P_are_between p_are_between) : KnX P w K mg base 6 "check_numbers" P_check_numbers (px_check_numbers K) := by
  have S := sc_check_numbers
  refine kn_ofX hD sc_check_numbers (fun _ _ _ _ _ _ us hl => match us, hl with | [_, _], _ => rfl) prx2_len ?_
  intro f cdv A outer s H E hr
  refine ⟨_, (vssx_cons (vsx_expr (vx_callK kx_check_web hr (passes_call (takes_of rfl rfl rfl rfl) (fun _ _ _ _ h => h)) (va_cons (v_var (pv 0)) va_nil))) (vssx_one (vsx_if (t_pw (t_or (t_not (t_val (v_callK k_are_between hr (va_cons (v_var (pv 1)) (va_cons (v_op o_sub v_int (v_gint i_MOST_ENTRY ⟨_, rfl⟩)) (va_cons (v_gint i_MOST_ENTRY ⟨_, rfl⟩) va_nil)))))) (t_or1 (t_cmp (o_ne hr.r) (v_callB c_len (hB _ (by decide +kernel)) (va_cons (v_var (pv 1)) va_nil)) (v_callB c_len (hB _ (by decide +kernel)) (va_cons (v_ix (v_var (pv 0)) v_int) va_nil)) (nomark _))))) (vssx_one (vsx_raise (xt.xc "BadNumbers" (by decide +kernel)) hr (by decide) rfl (takes_of rfl rfl rfl rfl) (v_var (pv 1)))) vssx_nil))), ?_⟩
  clear hr S
  rintro _ M Q E' ⟨x0, x1, rfl, h⟩
  rw [show vstart N_check_numbers.length [x0, x1] = [some x0, some x1] from rfl]
  obtain ⟨oka, okb, h1, h2, h3⟩ := h
  refine sx_hide fun R1 hR1 => ?_
  simp
  refine prx1_at.mpr ⟨oka, fun wt => ?_, h1⟩
  have h2 := h2 wt
  have h3 := h3 wt
  obtain ⟨n, ds, rfl, ok⟩ := web_ex wt
  rw [lenW_web] at h2 h3
  unfold numB at h2 h3
  show R1 _ _ _ _
  subst hR1
  simp [webD]
  refine pr3_at.mpr ⟨_, _, okb, rfl, rfl, ?_⟩
  cases ar : areB (-1000000000) 1000000000 x1 with
  | false =>
    refine .inl ⟨rfl, h2 ?_⟩
    rw [ar]
    rfl
  | true =>
    rw [ar, Bool.true_and] at h2 h3
    obtain ⟨xs, rfl⟩ : ∃ xs, x1 = .tup xs := by
      unfold areB at ar
      split at ar
      · exact ⟨_, rfl⟩
      · cases ar
    refine .inr ⟨rfl, xs.length, rfl, oNe_int.mpr ?_⟩
    by_cases e : xs.length = ds.length
    · refine .inl ⟨by rw [decide_eq_true (by omega)]; rfl, h3 (decide_eq_true e)⟩
    · refine .inr ⟨by rw [decide_eq_false (by omega)]; rfl, h2 (decide_eq_false e)⟩
/-- what a web alone may raise -/
def badW (K : PySem.W.Frag) (a : D) (M : Mem) (E' : VXK) : Prop := Okv M a ∧ webB a = false ∧ E' (He.ga K "BadWeb") a M
def badN (K : PySem.W.Frag) (a b : D) (M : Mem) (E' : VXK) : Prop := Okv M a ∧ Okv M b ∧ ((webB a = false ∧ E' (He.ga K "BadWeb") a M) ∨ (webB a = true ∧ numB (lenW a) b = false ∧ E' (He.ga K "BadNumbers") b M))
def pe_room_sums (K : PySem.W.Frag) : VSpX := prx2 fun a b M Q E' => badN K a b M E'
abbrev px_room_sums (K : PySem.W.Frag) : VSpX := por p_room_sums (pe_room_sums K)
theorem okx_room_sums {P : Program} {w : World} {K : PySem.W.Frag} {mg : Str → Option Value} {base : Heap} (hD : Df K mg "room_sums" s_room_sums) (hB : Fr mg bl) (kx_check_numbers : KnX P w K mg base 6 "check_numbers" P_check_numbers (px_check_numbers K)) (k_sums_at : Kn P w K mg base 1 "sums_at" P_sums_at p_sums_at) (k_room_sums : Kn P w K mg base 7 "room_sums" P_room_sums p_room_sums) : KnX P w K mg base 7 "room_sums" P_room_sums (px_room_sums K) := by
  have S := sc_room_sums
  refine kn_ofOr (φ := p_room_sums) (ψ := pe_room_sums K) k_room_sums (by decide) hD sc_room_sums (fun _ _ _ _ _ _ us hl => match us, hl with | [_, _], _ => rfl) prx2_len ?_
  intro f cdv A outer s H E hr
  refine ⟨_, (vssx_cons (vsx_expr (vx_callK kx_check_numbers hr (passes_call (takes_of rfl rfl rfl rfl) (fun _ _ _ _ h => h)) (va_cons (v_var (pv 0)) (va_cons (v_var (pv 1)) va_nil)))) (vssx_one (vsx_s (vs_ret (v_callTy c_tuple (hB _ (by decide +kernel)) (va_cons (v_callK k_sums_at hr (va_cons (v_var (pv 0)) (va_cons (v_var (pv 1)) va_nil))) va_nil)))))), ?_⟩
  clear hr S
  rintro _ M Q E' ⟨x0, x1, rfl, h⟩
  rw [show vstart N_room_sums.length [x0, x1] = [some x0, some x1] from rfl]
  obtain ⟨oka, okb, h⟩ := h
  refine sx_hide fun R1 hR1 => ?_
  simp
  refine prx2_at.mpr ⟨oka, okb, fun e => ?_, fun e1 e2 => ?_, fun e1 e2 => ?_⟩
  · rcases h with ⟨_, h⟩ | ⟨h, _⟩
    · exact h
    · rw [e] at h; cases h
  · rcases h with ⟨h, _⟩ | ⟨_, _, h⟩
    · rw [e1] at h; cases h
    · exact h
  · rcases h with ⟨h, _⟩ | ⟨_, h, _⟩
    · rw [e1] at h; cases h
    · rw [e2] at h; cases h
def pe_alike_told (K : PySem.W.Frag) : VSpX := prx2 fun a b M Q E' => badN K a b M E'
abbrev px_alike_told (K : PySem.W.Frag) : VSpX := por p_alike_told (pe_alike_told K)
theorem okx_alike_told {P : Program} {w : World} {K : PySem.W.Frag} {mg : Str → Option Value} {base : Heap} (hD : Df K mg "alike_told" s_alike_told) (hB : Fr mg bl) (kx_check_numbers : KnX P w K mg base 6 "check_numbers" P_check_numbers (px_check_numbers K)) {t_ROOMS : Tok} (i_ROOMS : mg "ROOMS" = some (.str "rooms" t_ROOMS)) {t_SUM : Tok} (i_SUM : mg "SUM" = some (.str "sum" t_SUM)) (k_sums_at : Kn P w K mg base 1 "sums_at" P_sums_at p_sums_at) (k_alike_told : Kn P w K mg base 7 "alike_told" P_alike_told p_alike_told) : KnX P w K mg base 7 "alike_told" P_alike_told (px_alike_told K) := by
  have S := sc_alike_told
  refine kn_ofOr (φ := p_alike_told) (ψ := pe_alike_told K) k_alike_told (by decide) hD sc_alike_told (fun _ _ _ _ _ _ us hl => match us, hl with | [_, _], _ => rfl) prx2_len ?_
  intro f cdv A outer s H E hr
  refine ⟨_, (vssx_cons (vsx_expr (vx_callK kx_check_numbers hr (passes_call (takes_of rfl rfl rfl rfl) (fun _ _ _ _ h => h)) (va_cons (v_var (pv 0)) (va_cons (v_var (pv 1)) va_nil)))) (vssx_cons (vsx_s (vs_set (i := 2) S.nd rfl (Or.inr rfl) (v_callK k_sums_at hr (va_cons (v_var (pv 0)) (va_cons (v_var (pv 1)) va_nil))))) (vssx_cons (vsx_s (vs_setLc (i := 3) (hc := rfl) (hN := S.nd) (hy := rfl) (hyl := rfl) (hsw := sw_true rfl rfl rfl (by decide +kernel))  (own := [("room", 4)]) (vi_range1 (hB _ (by decide +kernel)) (va_cons (v_ix (v_var (pv 0)) v_int) va_nil)) (blkOk_by (by first | rfl | kernel_rfl)) (lcg_name (fun _ _ _ _ _ => pg_name (i := 4) S.nd rfl (by first | exact Or.inl rfl | exact Or.inr rfl))) (fun _ _ _ _ _ => (vts_one (t_cmp (o_ne hr.r) (v_ix (v_var (pv 2)) (v_var (pv 4))) (v_ix (v_var (pv 2)) v_int) (nomark _)))) (fun _ _ _ _ _ => (v_var (pv 4))))) (vssx_one (vsx_s (vs_ret (v_if (t_cmp (o_ne hr.r) (v_var (pv 3)) (v_lst va_nil) (nomark _)) (v_tup (va_cons (v_gstr i_ROOMS ⟨_, rfl⟩) (va_cons v_int (va_cons (v_ix (v_var (pv 3)) v_int) va_nil)))) (v_tup (va_cons (v_gstr i_SUM ⟨_, rfl⟩) (va_cons (v_ix (v_var (pv 2)) v_int) va_nil)))))))))), ?_⟩
  clear hr S
  rintro _ M Q E' ⟨x0, x1, rfl, h⟩
  rw [show vstart N_alike_told.length [x0, x1] = [some x0, some x1, none, none, none] from rfl]
  obtain ⟨oka, okb, h⟩ := h
  refine sx_hide fun R1 hR1 => ?_
  simp
  refine prx2_at.mpr ⟨oka, okb, fun e => ?_, fun e1 e2 => ?_, fun e1 e2 => ?_⟩
  · rcases h with ⟨_, h⟩ | ⟨h, _⟩
    · exact h
    · rw [e] at h; cases h
  · rcases h with ⟨h, _⟩ | ⟨_, _, h⟩
    · rw [e1] at h; cases h
    · exact h
  · rcases h with ⟨h, _⟩ | ⟨_, h, _⟩
    · rw [e1] at h; cases h
    · rw [e2] at h; cases h
def pe_shows_alike (K : PySem.W.Frag) : VSpX := prx3 fun a b c M Q E' => badN K a b M E'
abbrev px_shows_alike (K : PySem.W.Frag) : VSpX := por p_shows_alike (pe_shows_alike K)
theorem okx_shows_alike {P : Program} {w : World} {K : PySem.W.Frag} {mg : Str → Option Value} {base : Heap} (hD : Df K mg "shows_alike" s_shows_alike) (hB : Fr mg bl) (kx_check_numbers : KnX P w K mg base 6 "check_numbers" P_check_numbers (px_check_numbers K)) {t_THREE_webs : Tok} (i_THREE_webs : mg "THREE_webs" = some (.int 3 t_THREE_webs)) {t_SUM : Tok} (i_SUM : mg "SUM" = some (.str "sum" t_SUM)) {t_ROOMS : Tok} (i_ROOMS : mg "ROOMS" = some (.str "rooms" t_ROOMS)) (k_sums_at : Kn P w K mg base 1 "sums_at" P_sums_at p_sums_at) (k_is_integer : Kn P w K mg base 1 "is_integer" P_is_integer p_is_integer) (k_are_between : Kn P w K mg base 3 "are_between" P_are_between p_are_between) (k_shows_alike : Kn P w K mg base 7 "shows_alike" P_shows_alike p_shows_alike) : KnX P w K mg base 7 "shows_alike" P_shows_alike (px_shows_alike K) := by
  have S := sc_shows_alike
  refine kn_ofOr (φ := p_shows_alike) (ψ := pe_shows_alike K) k_shows_alike (by decide) hD sc_shows_alike (fun _ _ _ _ _ _ us hl => match us, hl with | [_, _, _], _ => rfl) prx3_len ?_
  intro f cdv A outer s H E hr
  refine ⟨_, (vssx_cons (vsx_expr (vx_callK kx_check_numbers hr (passes_call (takes_of rfl rfl rfl rfl) (fun _ _ _ _ h => h)) (va_cons (v_var (pv 0)) (va_cons (v_var (pv 1)) va_nil)))) (vssx_cons (vsx_s (vs_set (i := 3) S.nd rfl (Or.inl rfl) (v_callK k_sums_at hr (va_cons (v_var (pv 0)) (va_cons (v_var (pv 1)) va_nil))))) (vssx_cons (vsx_s (vs_if (t_pw (t_or (t_not (t_val (v_isi (T := "tuple") (hB _ (by decide +kernel)) (hB _ (by decide +kernel)) (v_var (pv 2))))) (t_or (t_cmp (o_notIn hr.r) (v_callB c_len (hB _ (by decide +kernel)) (va_cons (v_var (pv 2)) va_nil)) (v_tup (va_cons v_int (va_cons (v_gint i_THREE_webs ⟨_, rfl⟩) va_nil))) (by with_unfolding_all rfl)) (t_or1 (t_not (t_val (v_isi (T := "str") (hB _ (by decide +kernel)) (hB _ (by decide +kernel)) (v_ix (v_var (pv 2)) v_int)))))))) (vss_one (vs_ret v_bl)) vss_nil)) (vssx_cons (vsx_s (vs_if (t_cmp (o_eq hr.r) (v_callB c_len (hB _ (by decide +kernel)) (va_cons (v_var (pv 2)) va_nil)) v_int (nomark _)) (vss_one (vs_ret (v_and (v_cmp (o_eq hr.r) (v_ix (v_var (pv 2)) v_int) (v_gstr i_SUM ⟨_, rfl⟩) (nomark _)) (v_and (v_callK k_is_integer hr (va_cons (v_ix (v_var (pv 2)) v_int) va_nil)) (v_one (v_callB (c_all rfl) (hB _ (by decide +kernel)) (va_cons (v_lc (own := [("one", 4)]) rfl S.nd (vi_seq (v_var (pv 3))) (blkOk_by (by first | rfl | kernel_rfl)) (lcg_name (fun _ _ _ _ _ => pg_name (i := 4) S.nd rfl (by first | exact Or.inl rfl | exact Or.inr rfl))) (fun _ _ _ _ _ => vts_nil) (fun _ _ _ _ _ => (v_cmp (o_eq hr.r) (v_var (pv 4)) (v_ix (v_var (pv 2)) v_int) (nomark _)))) va_nil))))))) vss_nil)) (vssx_cons (vsx_s (vs_if (t_pw (t_or (t_cmp (o_ne hr.r) (v_ix (v_var (pv 2)) v_int) (v_gstr i_ROOMS ⟨_, rfl⟩) (nomark _)) (t_or1 (t_not (t_val (v_callK k_are_between hr (va_cons (v_sl (v_var (pv 2)) (vo_some v_int) vo_none) (va_cons v_int (va_cons (v_op o_sub (v_ix (v_var (pv 0)) v_int) v_int) va_nil))))))))) (vss_one (vs_ret v_bl)) vss_nil)) (vssx_one (vsx_s (vs_ret (v_cmp (o_ne hr.r) (v_ix (v_var (pv 3)) (v_ix (v_var (pv 2)) v_int)) (v_ix (v_var (pv 3)) (v_ix (v_var (pv 2)) v_int)) (nomark _)))))))))), ?_⟩
  clear hr S
  rintro _ M Q E' ⟨x0, x1, x2, rfl, h⟩
  rw [show vstart N_shows_alike.length [x0, x1, x2] = [some x0, some x1, some x2, none, none] from rfl]
  obtain ⟨oka, okb, h⟩ := h
  refine sx_hide fun R1 hR1 => ?_
  simp
  refine prx2_at.mpr ⟨oka, okb, fun e => ?_, fun e1 e2 => ?_, fun e1 e2 => ?_⟩
  · rcases h with ⟨_, h⟩ | ⟨h, _⟩
    · exact h
    · rw [e] at h; cases h
  · rcases h with ⟨h, _⟩ | ⟨_, _, h⟩
    · rw [e1] at h; cases h
    · exact h
  · rcases h with ⟨h, _⟩ | ⟨_, h, _⟩
    · rw [e1] at h; cases h
    · rw [e2] at h; cases h
def pe_is_factor (K : PySem.W.Frag) : VSpX := prx2 fun a b M Q E' => badW K a M E'
abbrev px_is_factor (K : PySem.W.Frag) : VSpX := por p_is_factor (pe_is_factor K)
theorem okx_is_factor {P : Program} {w : World} {K : PySem.W.Frag} {mg : Str → Option Value} {base : Heap} (hD : Df K mg "is_factor" s_is_factor) (hB : Fr mg bl) (kx_check_web : KnX P w K mg base 5 "check_web" P_check_web (px_check_web K)) (k_is_factor_of : Kn P w K mg base 4 "is_factor_of" P_is_factor_of p_is_factor_of) (k_is_factor : Kn P w K mg base 6 "is_factor" P_is_factor p_is_factor) : KnX P w K mg base 6 "is_factor" P_is_factor (px_is_factor K) := by
  have S := sc_is_factor
  refine kn_ofOr (φ := p_is_factor) (ψ := pe_is_factor K) k_is_factor (by decide) hD sc_is_factor (fun _ _ _ _ _ _ us hl => match us, hl with | [_, _], _ => rfl) prx2_len ?_
  intro f cdv A outer s H E hr
  refine ⟨_, (vssx_cons (vsx_expr (vx_callK kx_check_web hr (passes_call (takes_of rfl rfl rfl rfl) (fun _ _ _ _ h => h)) (va_cons (v_var (pv 0)) va_nil))) (vssx_one (vsx_s (vs_ret (v_callK k_is_factor_of hr (va_cons (v_var (pv 0)) (va_cons (v_var (pv 1)) va_nil))))))), ?_⟩
  clear hr S
  rintro _ M Q E' ⟨x0, x1, rfl, h⟩
  rw [show vstart N_is_factor.length [x0, x1] = [some x0, some x1] from rfl]
  obtain ⟨ok, e, h⟩ := h
  refine sx_hide fun R1 hR1 => ?_
  simp
  exact prx1_at.mpr ⟨ok, fun c => (by rw [e] at c; cases c), fun _ => h⟩
def pe_factors (K : PySem.W.Frag) : VSpX := prx1 fun a M Q E' => badW K a M E'
abbrev px_factors (K : PySem.W.Frag) : VSpX := por p_factors (pe_factors K)
theorem okx_factors {P : Program} {w : World} {K : PySem.W.Frag} {mg : Str → Option Value} {base : Heap} (hD : Df K mg "factors" s_factors) (hB : Fr mg bl) (kx_check_web : KnX P w K mg base 5 "check_web" P_check_web (px_check_web K)) (k_factors_of : Kn P w K mg base 3 "factors_of" P_factors_of p_factors_of) (k_factors : Kn P w K mg base 6 "factors" P_factors p_factors) : KnX P w K mg base 6 "factors" P_factors (px_factors K) := by
  have S := sc_factors
  refine kn_ofOr (φ := p_factors) (ψ := pe_factors K) k_factors (by decide) hD sc_factors (fun _ _ _ _ _ _ us hl => match us, hl with | [_], _ => rfl) prx1_len ?_
  intro f cdv A outer s H E hr
  refine ⟨_, (vssx_cons (vsx_expr (vx_callK kx_check_web hr (passes_call (takes_of rfl rfl rfl rfl) (fun _ _ _ _ h => h)) (va_cons (v_var (pv 0)) va_nil))) (vssx_one (vsx_s (vs_ret (v_callTy c_tuple (hB _ (by decide +kernel)) (va_cons (v_callK k_factors_of hr (va_cons (v_var (pv 0)) va_nil)) va_nil)))))), ?_⟩
  clear hr S
  rintro _ M Q E' ⟨x0, rfl, h⟩
  rw [show vstart N_factors.length [x0] = [some x0] from rfl]
  obtain ⟨ok, e, h⟩ := h
  refine sx_hide fun R1 hR1 => ?_
  simp
  exact prx1_at.mpr ⟨ok, fun c => (by rw [e] at c; cases c), fun _ => h⟩
def pe_web_told (K : PySem.W.Frag) : VSpX := prx1 fun a M Q E' => badW K a M E'
abbrev px_web_told (K : PySem.W.Frag) : VSpX := por p_web_told (pe_web_told K)
theorem okx_web_told {P : Program} {w : World} {K : PySem.W.Frag} {mg : Str → Option Value} {base : Heap} (hD : Df K mg "web_told" s_web_told) (hB : Fr mg bl) (kx_check_web : KnX P w K mg base 5 "check_web" P_check_web (px_check_web K)) {t_DOOR : Tok} (i_DOOR : mg "DOOR" = some (.str "door" t_DOOR)) {t_TWO : Tok} (i_TWO : mg "TWO" = some (.str "two" t_TWO)) {t_NUMBERS : Tok} (i_NUMBERS : mg "NUMBERS" = some (.str "numbers" t_NUMBERS)) (k_rows_of : Kn P w K mg base 4 "rows_of" P_rows_of p_rows_of) (k_bare_doors : Kn P w K mg base 1 "bare_doors" P_bare_doors p_bare_doors) (k_like_doors : Kn P w K mg base 2 "like_doors" P_like_doors p_like_doors) (k_summed : Kn P w K mg base 1 "summed" P_summed p_summed) (k_enough : Kn P w K mg base 2 "enough" P_enough p_enough) (k_web_told : Kn P w K mg base 6 "web_told" P_web_told p_web_told) : KnX P w K mg base 6 "web_told" P_web_told (px_web_told K) := by
  have S := sc_web_told
  refine kn_ofOr (φ := p_web_told) (ψ := pe_web_told K) k_web_told (by decide) hD sc_web_told (fun _ _ _ _ _ _ us hl => match us, hl with | [_], _ => rfl) prx1_len ?_
  intro f cdv A outer s H E hr
  refine ⟨_, (vssx_cons (vsx_expr (vx_callK kx_check_web hr (passes_call (takes_of rfl rfl rfl rfl) (fun _ _ _ _ h => h)) (va_cons (v_var (pv 0)) va_nil))) (vssx_cons (vsx_s (vs_set (i := 1) S.nd rfl (Or.inl rfl) (v_callK k_rows_of hr (va_cons (v_var (pv 0)) va_nil)))) (vssx_cons (vsx_s (vs_par (i := 2) (j := 3) rfl S.nd rfl rfl (by decide) rfl rfl (va_cons (v_callK k_bare_doors hr (va_cons (v_var (pv 0)) (va_cons (v_var (pv 1)) va_nil))) (va_cons (v_callK k_like_doors hr (va_cons (v_var (pv 0)) (va_cons (v_var (pv 1)) va_nil))) va_nil)) (by rfl))) (vssx_cons (vsx_s (vs_if (t_cmp (o_ne hr.r) (v_var (pv 2)) (v_lst va_nil) (nomark _)) (vss_one (vs_ret (v_tup (va_cons (v_gstr i_DOOR ⟨_, rfl⟩) (va_cons (v_ix (v_var (pv 2)) v_int) va_nil))))) vss_nil)) (vssx_cons (vsx_s (vs_if (t_cmp (o_ne hr.r) (v_var (pv 3)) (v_lst va_nil) (nomark _)) (vss_one (vs_ret (v_tup (va_cons (v_gstr i_TWO ⟨_, rfl⟩) (va_cons (v_ix (v_ix (v_var (pv 3)) v_int) v_int) (va_cons (v_ix (v_ix (v_var (pv 3)) v_int) v_int) va_nil)))))) vss_nil)) (vssx_one (vsx_s (vs_ret (v_tup (va_cons (v_gstr i_NUMBERS ⟨_, rfl⟩) (va_cons (v_callTy c_tuple (hB _ (by decide +kernel)) (va_cons (v_callK k_summed hr (va_cons (v_var (pv 0)) (va_cons (v_callK k_enough hr (va_cons (v_var (pv 0)) (va_cons (v_var (pv 1)) va_nil))) va_nil))) va_nil)) va_nil))))))))))), ?_⟩
  clear hr S
  rintro _ M Q E' ⟨x0, rfl, h⟩
  rw [show vstart N_web_told.length [x0] = [some x0, none, none, none] from rfl]
  obtain ⟨ok, e, h⟩ := h
  refine sx_hide fun R1 hR1 => ?_
  simp
  exact prx1_at.mpr ⟨ok, fun c => (by rw [e] at c; cases c), fun _ => h⟩
def pe_shows_web (K : PySem.W.Frag) : VSpX := prx2 fun a b M Q E' => badW K a M E'
abbrev px_shows_web (K : PySem.W.Frag) : VSpX := por p_shows_web (pe_shows_web K)
theorem okx_shows_web {P : Program} {w : World} {K : PySem.W.Frag} {mg : Str → Option Value} {base : Heap} (hD : Df K mg "shows_web" s_shows_web) (hB : Fr mg bl) (kx_check_web : KnX P w K mg base 5 "check_web" P_check_web (px_check_web K)) {t_THREE_doors : Tok} (i_THREE_doors : mg "THREE_doors" = some (.int 3 t_THREE_doors)) {t_TWO : Tok} (i_TWO : mg "TWO" = some (.str "two" t_TWO)) {t_NUMBERS : Tok} (i_NUMBERS : mg "NUMBERS" = some (.str "numbers" t_NUMBERS)) (k_rows_of : Kn P w K mg base 4 "rows_of" P_rows_of p_rows_of) (k_is_integer : Kn P w K mg base 1 "is_integer" P_is_integer p_is_integer) (k_like_doors : Kn P w K mg base 2 "like_doors" P_like_doors p_like_doors) (k_are_numbers : Kn P w K mg base 2 "are_numbers" P_are_numbers p_are_numbers) (k_is_bar : Kn P w K mg base 3 "is_bar" P_is_bar p_is_bar) (k_shows_web : Kn P w K mg base 6 "shows_web" P_shows_web p_shows_web) : KnX P w K mg base 6 "shows_web" P_shows_web (px_shows_web K) := by
  have S := sc_shows_web
  refine kn_ofOr (φ := p_shows_web) (ψ := pe_shows_web K) k_shows_web (by decide) hD sc_shows_web (fun _ _ _ _ _ _ us hl => match us, hl with | [_, _], _ => rfl) prx2_len ?_
  intro f cdv A outer s H E hr
  refine ⟨_, (vssx_cons (vsx_expr (vx_callK kx_check_web hr (passes_call (takes_of rfl rfl rfl rfl) (fun _ _ _ _ h => h)) (va_cons (v_var (pv 0)) va_nil))) (vssx_cons (vsx_s (vs_set (i := 2) S.nd rfl (Or.inl rfl) (v_callK k_rows_of hr (va_cons (v_var (pv 0)) va_nil)))) (vssx_cons (vsx_s (vs_if (t_pw (t_or (t_not (t_val (v_isi (T := "tuple") (hB _ (by decide +kernel)) (hB _ (by decide +kernel)) (v_var (pv 1))))) (t_or (t_cmp (o_notIn hr.r) (v_callB c_len (hB _ (by decide +kernel)) (va_cons (v_var (pv 1)) va_nil)) (v_tup (va_cons v_int (va_cons (v_gint i_THREE_doors ⟨_, rfl⟩) va_nil))) (by with_unfolding_all rfl)) (t_or1 (t_not (t_val (v_isi (T := "str") (hB _ (by decide +kernel)) (hB _ (by decide +kernel)) (v_ix (v_var (pv 1)) v_int)))))))) (vss_one (vs_ret v_bl)) vss_nil)) (vssx_cons (vsx_s (vs_if (t_cmp (o_eq hr.r) (v_callB c_len (hB _ (by decide +kernel)) (va_cons (v_var (pv 1)) va_nil)) (v_gint i_THREE_doors ⟨_, rfl⟩) (nomark _)) (vss_one (vs_ret (v_and (v_cmp (o_eq hr.r) (v_ix (v_var (pv 1)) v_int) (v_gstr i_TWO ⟨_, rfl⟩) (nomark _)) (v_and (v_callB (c_all rfl) (hB _ (by decide +kernel)) (va_cons (v_lc (own := [("door", 3)]) rfl S.nd (vi_seq (v_sl (v_var (pv 1)) (vo_some v_int) vo_none)) (blkOk_by (by first | rfl | kernel_rfl)) (lcg_name (fun _ _ _ _ _ => pg_name (i := 3) S.nd rfl (by first | exact Or.inl rfl | exact Or.inr rfl))) (fun _ _ _ _ _ => vts_nil) (fun _ _ _ _ _ => (v_callK k_is_integer hr (va_cons (v_var (pv 3)) va_nil)))) va_nil)) (v_one (v_cmp (o_in hr.r) (v_sl (v_var (pv 1)) (vo_some v_int) vo_none) (v_callK k_like_doors hr (va_cons (v_var (pv 0)) (va_cons (v_var (pv 2)) va_nil))) (by with_unfolding_all rfl))))))) vss_nil)) (vssx_cons (vsx_s (vs_if (t_cmp (o_eq hr.r) (v_ix (v_var (pv 1)) v_int) (v_gstr i_NUMBERS ⟨_, rfl⟩) (nomark _)) (vss_one (vs_ret (v_and (v_callK k_are_numbers hr (va_cons (v_var (pv 0)) (va_cons (v_ix (v_var (pv 1)) v_int) va_nil))) (v_one (v_cmp (o_eq hr.r) (v_lenSetI rfl (hB _ (by decide +kernel)) (hB _ (by decide +kernel)) (v_ix (v_var (pv 1)) v_int)) (v_callB c_len (hB _ (by decide +kernel)) (va_cons (v_ix (v_var (pv 1)) v_int) va_nil)) (nomark _)))))) vss_nil)) (vssx_one (vsx_s (vs_ret (v_callK k_is_bar hr (va_cons (v_var (pv 0)) (va_cons (v_var (pv 2)) (va_cons (v_var (pv 1)) va_nil)))))))))))), ?_⟩
  clear hr S
  rintro _ M Q E' ⟨x0, x1, rfl, h⟩
  rw [show vstart N_shows_web.length [x0, x1] = [some x0, some x1, none, none] from rfl]
  obtain ⟨ok, e, h⟩ := h
  refine sx_hide fun R1 hR1 => ?_
  simp
  exact prx1_at.mpr ⟨ok, fun c => (by rw [e] at c; cases c), fun _ => h⟩
def pe_even_told (K : PySem.W.Frag) : VSpX := prx1 fun a M Q E' => badW K a M E'
abbrev px_even_told (K : PySem.W.Frag) : VSpX := por p_even_told (pe_even_told K)
theorem okx_even_told {P : Program} {w : World} {K : PySem.W.Frag} {mg : Str → Option Value} {base : Heap} (hD : Df K mg "even_told" s_even_told) (hB : Fr mg bl) (kx_check_web : KnX P w K mg base 5 "check_web" P_check_web (px_check_web K)) {t_DOOR : Tok} (i_DOOR : mg "DOOR" = some (.str "door" t_DOOR)) {t_NUMBERS : Tok} (i_NUMBERS : mg "NUMBERS" = some (.str "numbers" t_NUMBERS)) (k_rows_of : Kn P w K mg base 4 "rows_of" P_rows_of p_rows_of) (k_bare_doors : Kn P w K mg base 1 "bare_doors" P_bare_doors p_bare_doors) (k_summed : Kn P w K mg base 1 "summed" P_summed p_summed) (k_even_told : Kn P w K mg base 6 "even_told" P_even_told p_even_told) : KnX P w K mg base 6 "even_told" P_even_told (px_even_told K) := by
  have S := sc_even_told
  refine kn_ofOr (φ := p_even_told) (ψ := pe_even_told K) k_even_told (by decide) hD sc_even_told (fun _ _ _ _ _ _ us hl => match us, hl with | [_], _ => rfl) prx1_len ?_
  intro f cdv A outer s H E hr
  refine ⟨_, (vssx_cons (vsx_expr (vx_callK kx_check_web hr (passes_call (takes_of rfl rfl rfl rfl) (fun _ _ _ _ h => h)) (va_cons (v_var (pv 0)) va_nil))) (vssx_cons (vsx_s (vs_set (i := 1) S.nd rfl (Or.inl rfl) (v_callK k_rows_of hr (va_cons (v_var (pv 0)) va_nil)))) (vssx_cons (vsx_s (vs_set (i := 2) S.nd rfl (Or.inl rfl) (v_callK k_bare_doors hr (va_cons (v_var (pv 0)) (va_cons (v_var (pv 1)) va_nil))))) (vssx_one (vsx_s (vs_ret (v_if (t_cmp (o_ne hr.r) (v_var (pv 2)) (v_lst va_nil) (nomark _)) (v_tup (va_cons (v_gstr i_DOOR ⟨_, rfl⟩) (va_cons (v_ix (v_var (pv 2)) v_int) va_nil))) (v_tup (va_cons (v_gstr i_NUMBERS ⟨_, rfl⟩) (va_cons (v_callTy c_tuple (hB _ (by decide +kernel)) (va_cons (v_callK k_summed hr (va_cons (v_var (pv 0)) (va_cons (v_var (pv 1)) va_nil))) va_nil)) va_nil)))))))))), ?_⟩
  clear hr S
  rintro _ M Q E' ⟨x0, rfl, h⟩
  rw [show vstart N_even_told.length [x0] = [some x0, none, none] from rfl]
  obtain ⟨ok, e, h⟩ := h
  refine sx_hide fun R1 hR1 => ?_
  simp
  exact prx1_at.mpr ⟨ok, fun c => (by rw [e] at c; cases c), fun _ => h⟩
def pe_shows_even (K : PySem.W.Frag) : VSpX := prx2 fun a b M Q E' => badW K a M E'
abbrev px_shows_even (K : PySem.W.Frag) : VSpX := por p_shows_even (pe_shows_even K)
theorem okx_shows_even {P : Program} {w : World} {K : PySem.W.Frag} {mg : Str → Option Value} {base : Heap} (hD : Df K mg "shows_even" s_shows_even) (hB : Fr mg bl) (kx_check_web : KnX P w K mg base 5 "check_web" P_check_web (px_check_web K)) {t_NUMBERS : Tok} (i_NUMBERS : mg "NUMBERS" = some (.str "numbers" t_NUMBERS)) (k_rows_of : Kn P w K mg base 4 "rows_of" P_rows_of p_rows_of) (k_are_numbers : Kn P w K mg base 2 "are_numbers" P_are_numbers p_are_numbers) (k_is_bar : Kn P w K mg base 3 "is_bar" P_is_bar p_is_bar) (k_shows_even : Kn P w K mg base 6 "shows_even" P_shows_even p_shows_even) : KnX P w K mg base 6 "shows_even" P_shows_even (px_shows_even K) := by
  have S := sc_shows_even
  refine kn_ofOr (φ := p_shows_even) (ψ := pe_shows_even K) k_shows_even (by decide) hD sc_shows_even (fun _ _ _ _ _ _ us hl => match us, hl with | [_, _], _ => rfl) prx2_len ?_
  intro f cdv A outer s H E hr
  refine ⟨_, (vssx_cons (vsx_expr (vx_callK kx_check_web hr (passes_call (takes_of rfl rfl rfl rfl) (fun _ _ _ _ h => h)) (va_cons (v_var (pv 0)) va_nil))) (vssx_cons (vsx_s (vs_set (i := 2) S.nd rfl (Or.inl rfl) (v_callK k_rows_of hr (va_cons (v_var (pv 0)) va_nil)))) (vssx_cons (vsx_s (vs_if (t_pw (t_or (t_not (t_val (v_isi (T := "tuple") (hB _ (by decide +kernel)) (hB _ (by decide +kernel)) (v_var (pv 1))))) (t_or (t_cmp (o_ne hr.r) (v_callB c_len (hB _ (by decide +kernel)) (va_cons (v_var (pv 1)) va_nil)) v_int (nomark _)) (t_or1 (t_not (t_val (v_isi (T := "str") (hB _ (by decide +kernel)) (hB _ (by decide +kernel)) (v_ix (v_var (pv 1)) v_int)))))))) (vss_one (vs_ret v_bl)) vss_nil)) (vssx_one (vsx_s (vs_ret (v_if (t_cmp (o_eq hr.r) (v_ix (v_var (pv 1)) v_int) (v_gstr i_NUMBERS ⟨_, rfl⟩) (nomark _)) (v_callK k_are_numbers hr (va_cons (v_var (pv 0)) (va_cons (v_ix (v_var (pv 1)) v_int) va_nil))) (v_callK k_is_bar hr (va_cons (v_var (pv 0)) (va_cons (v_var (pv 2)) (va_cons (v_var (pv 1)) va_nil))))))))))), ?_⟩
  clear hr S
  rintro _ M Q E' ⟨x0, x1, rfl, h⟩
  rw [show vstart N_shows_even.length [x0, x1] = [some x0, some x1, none] from rfl]
  obtain ⟨ok, e, h⟩ := h
  refine sx_hide fun R1 hR1 => ?_
  simp
  exact prx1_at.mpr ⟨ok, fun c => (by rw [e] at c; cases c), fun _ => h⟩
def pe_space (K : PySem.W.Frag) : VSpX := prx1 fun a M Q E' => badW K a M E'
abbrev px_space (K : PySem.W.Frag) : VSpX := por p_space (pe_space K)
theorem okx_space {P : Program} {w : World} {K : PySem.W.Frag} {mg : Str → Option Value} {base : Heap} (hD : Df K mg "space" s_space) (hB : Fr mg bl) (kx_check_web : KnX P w K mg base 5 "check_web" P_check_web (px_check_web K)) (k_rank_of : Kn P w K mg base 2 "rank_of" P_rank_of p_rank_of) (k_space : Kn P w K mg base 6 "space" P_space p_space) : KnX P w K mg base 6 "space" P_space (px_space K) := by
  have S := sc_space
  refine kn_ofOr (φ := p_space) (ψ := pe_space K) k_space (by decide) hD sc_space (fun _ _ _ _ _ _ us hl => match us, hl with | [_], _ => rfl) prx1_len ?_
  intro f cdv A outer s H E hr
  refine ⟨_, (vssx_cons (vsx_expr (vx_callK kx_check_web hr (passes_call (takes_of rfl rfl rfl rfl) (fun _ _ _ _ h => h)) (va_cons (v_var (pv 0)) va_nil))) (vssx_cons (vsx_s (vs_set (i := 1) S.nd rfl (Or.inr rfl) (v_lc (own := [("room", 3)]) rfl S.nd (vi_range1 (hB _ (by decide +kernel)) (va_cons (v_ix (v_var (pv 0)) v_int) va_nil)) (blkOk_by (by first | rfl | kernel_rfl)) (lcg_name (fun _ _ _ _ _ => pg_name (i := 3) S.nd rfl (by first | exact Or.inl rfl | exact Or.inr rfl))) (fun _ _ _ _ _ => vts_nil) (fun _ _ _ _ _ => (v_lc (own := [("door", 4)]) rfl S.nd (vi_seq (v_ix (v_var (pv 0)) v_int)) (blkOk_by (by first | rfl | kernel_rfl)) (lcg_name (fun _ _ _ _ _ => pg_name (i := 4) S.nd rfl (by first | exact Or.inl rfl | exact Or.inr rfl))) (fun _ _ _ _ _ => vts_nil) (fun _ _ _ _ _ => (v_callTy c_int (hB _ (by decide +kernel)) (va_cons (v_cmp (o_in hr.r) (v_var (pv 3)) (v_var (pv 4)) (by with_unfolding_all rfl)) va_nil)))))))) (vssx_cons (vsx_s (vs_setLc (i := 2) (hc := rfl) (hN := S.nd) (hy := rfl) (hyl := rfl) (hsw := sw_true rfl rfl rfl (by decide +kernel))  (own := [("row", 5)]) (vi_seq (v_sl (v_var (pv 1)) (vo_some v_int) vo_none)) (blkOk_by (by first | rfl | kernel_rfl)) (lcg_name (fun _ _ _ _ _ => pg_name (i := 5) S.nd rfl (by first | exact Or.inl rfl | exact Or.inr rfl))) (fun _ _ _ _ _ => vts_nil) (fun _ _ _ _ _ => (v_lc (own := [("here", 6), ("first", 7)]) rfl S.nd (vi_zip (hB _ (by decide +kernel)) (va_cons (v_var (pv 5)) (va_cons (v_ix (v_var (pv 1)) v_int) va_nil))) (blkOk_by (by first | rfl | kernel_rfl)) (lcg_tup (n := 2) rfl (lcgs_cons (lcg_name (fun _ _ _ _ _ => pg_name (i := 6) S.nd rfl (by first | exact Or.inl rfl | exact Or.inr rfl))) (lcgs_cons (lcg_name (fun _ _ _ _ _ => pg_name (i := 7) S.nd rfl (by first | exact Or.inl rfl | exact Or.inr rfl))) lcgs_nil))) (fun _ _ _ _ _ => vts_nil) (fun _ _ _ _ _ => (v_op o_sub (v_var (pv 6)) (v_var (pv 7)))))))) (vssx_one (vsx_s (vs_ret (v_op o_sub (v_callB c_len (hB _ (by decide +kernel)) (va_cons (v_ix (v_var (pv 0)) v_int) va_nil)) (v_callK k_rank_of hr (va_cons (v_var (pv 2)) va_nil))))))))), ?_⟩
  clear hr S
  rintro _ M Q E' ⟨x0, rfl, h⟩
  rw [show vstart N_space.length [x0] = [some x0, none, none, none, none, none, none, none] from rfl]
  obtain ⟨ok, e, h⟩ := h
  refine sx_hide fun R1 hR1 => ?_
  simp
  exact prx1_at.mpr ⟨ok, fun c => (by rw [e] at c; cases c), fun _ => h⟩
def px_factor_numbers (K : PySem.W.Frag) : VSpX := prx2 fun a b M Q E' => Okv M a ∧ Okv M b ∧ (webB a = false → E' (He.ga K "BadWeb") a M) ∧ (∀ n ds, a = webD n ds → WebOk n ds → facB n ds b = false ∧ E' (He.ga K "BadFactor") b M)
theorem okx_factor_numbers {P : Program} {w : World} {K : PySem.W.Frag} {mg : Str → Option Value} {base : Heap} (hD : Df K mg "factor_numbers" s_factor_numbers) (hB : Fr mg bl) (xt : ExT P w K mg base exs) (kx_check_web : KnX P w K mg base 5 "check_web" P_check_web (px_check_web K)) (k_is_factor_of : Kn P w K mg base 4 "is_factor_of" P_is_factor_of p_is_factor_of) (k_numbers_by : Kn P w K mg base 1 "numbers_by" P_numbers_by p_numbers_by) : KnX P w K mg base 6 "factor_numbers" P_factor_numbers (px_factor_numbers K) := by
  have S := sc_factor_numbers
  refine kn_ofX hD sc_factor_numbers (fun _ _ _ _ _ _ us hl => match us, hl with | [_, _], _ => rfl) prx2_len ?_
  intro f cdv A outer s H E hr
  refine ⟨_, (vssx_cons (vsx_expr (vx_callK kx_check_web hr (passes_call (takes_of rfl rfl rfl rfl) (fun _ _ _ _ h => h)) (va_cons (v_var (pv 0)) va_nil))) (vssx_cons (vsx_if (t_not (t_val (v_callK k_is_factor_of hr (va_cons (v_var (pv 0)) (va_cons (v_var (pv 1)) va_nil))))) (vssx_one (vsx_raise (xt.xc "BadFactor" (by decide +kernel)) hr (by decide) rfl (takes_of rfl rfl rfl rfl) (v_var (pv 1)))) vssx_nil) (vssx_one (vsx_s (vs_ret (v_callTy c_tuple (hB _ (by decide +kernel)) (va_cons (v_callK k_numbers_by hr (va_cons (v_var (pv 0)) (va_cons (v_var (pv 1)) va_nil))) va_nil))))))), ?_⟩
  clear hr S
  rintro _ M Q E' ⟨x0, x1, rfl, h⟩
  rw [show vstart N_factor_numbers.length [x0, x1] = [some x0, some x1] from rfl]
  obtain ⟨oka, okb, h1, h2⟩ := h
  refine sx_hide fun R1 hR1 => ?_
  simp
  refine prx1_at.mpr ⟨oka, fun wt => ?_, h1⟩
  obtain ⟨n, ds, rfl, ok⟩ := web_ex wt
  obtain ⟨fb, h⟩ := h2 n ds rfl ok
  show R1 _ _ _ _
  subst hR1
  simp
  refine pr2_at.mpr ⟨n, ds, rfl, ok, okb, ?_⟩
  rw [fb]
  exact .inl ⟨rfl, h⟩
end K53
namespace K53
open PySem PySem.Spec L2 VL
def six : List (Str × Str) := [("web", "BadWeb"), ("numbers", "BadNumbers"), ("factor", "BadFactor")]
theorem isX_at {K : PySem.W.Frag} {T C : Addr} {i : Nat} {e : VEnv} {M : Mem} {Q : VL.VK} {v : D} {b : Bool} (he : e[i]? = some (some (.exc C v))) (hC : ExcC K C) (hk : PySem.W.kitOne K (.ref C) (.ref T) = some b) (q : Q (.bl b) M) : vIsX K T (vVar i) e M Q := ⟨_, he, hC, b, hk, q⟩
abbrev N__law_word_of : List Str := ["caught", "kinds", "words", "word", "is_it"]
abbrev P__law_word_of : List Str := ["caught"]
theorem sc__law_word_of : FnScope N__law_word_of P__law_word_of (defScope s__law_word_of) := ⟨rfl, rfl, rfl, by decide +kernel, rfl, by decide +kernel, by decide +kernel⟩
def p__law_word_of (K : PySem.W.Frag) : VSp := pr1 fun a M Q => ∃ (z : Str × Str) (v : D), z ∈ six ∧ a = .exc (He.ga K z.2) v ∧ Q (.str z.1) M
theorem ok__law_word_of {P : Program} {w : World} {K : PySem.W.Frag} {mg : Str → Option Value} {base : Heap} (hD : Df K mg "_law_word_of" s__law_word_of) (hB : Fr mg bl) (xt : ExT P w K mg base exs) : Kn P w K mg base 1 "_law_word_of" P__law_word_of (p__law_word_of K) := by
  have S := sc__law_word_of
  refine kn_of hD sc__law_word_of (fun _ _ _ _ _ _ us hl => match us, hl with | [_], _ => rfl) pr1_len ?_
  intro f cdv A outer s H E hr
  refine ⟨_, (vss_cons (vs_set (i := 1) S.nd rfl (Or.inl rfl) (v_lst (va_cons (v_tup (va_cons v_str (va_cons (v_isX (hB _ (by decide +kernel)) (xt.glo "BadWeb" (by decide +kernel)) (v_var (pv 0))) va_nil))) (va_cons (v_tup (va_cons v_str (va_cons (v_isX (hB _ (by decide +kernel)) (xt.glo "BadNumbers" (by decide +kernel)) (v_var (pv 0))) va_nil))) (va_cons (v_tup (va_cons v_str (va_cons (v_isX (hB _ (by decide +kernel)) (xt.glo "BadFactor" (by decide +kernel)) (v_var (pv 0))) va_nil))) va_nil))))) (vss_cons (vs_setLc (i := 2) (hc := rfl) (hN := S.nd) (hy := rfl) (hyl := rfl) (hsw := sw_true rfl rfl rfl (by decide +kernel))  (own := [("word", 3), ("is_it", 4)]) (vi_seq (v_var (pv 1))) (blkOk_by (by first | rfl | kernel_rfl)) (lcg_tup (n := 2) rfl (lcgs_cons (lcg_name (fun _ _ _ _ _ => pg_name (i := 3) S.nd rfl (by first | exact Or.inl rfl | exact Or.inr rfl))) (lcgs_cons (lcg_name (fun _ _ _ _ _ => pg_name (i := 4) S.nd rfl (by first | exact Or.inl rfl | exact Or.inr rfl))) lcgs_nil))) (fun _ _ _ _ _ => (vts_one (t_val (v_var (pv 4))))) (fun _ _ _ _ _ => (v_var (pv 3)))) (vss_one (vs_ret (v_if (t_cmp (o_eq hr.r) (v_callB c_len (hB _ (by decide +kernel)) (va_cons (v_var (pv 2)) va_nil)) v_int (nomark _)) (v_ix (v_var (pv 2)) v_int) v_str))))), ?_⟩
  clear hr S
  rintro _ M Q ⟨x0, rfl, h⟩
  rw [show vstart N__law_word_of.length [x0] = [some x0, none, none, none, none] from rfl]
  obtain ⟨z, v, hz, rfl, h⟩ := h
  have hz2 : z.2 ∈ exs := by
    simp only [six, List.mem_cons, List.not_mem_nil, or_false] at hz
    rcases hz with rfl | rfl | rfl <;> decide +kernel
  have ex := xt.cls z.2 hz2
  have is_ := fun y hy => xt.isx z.2 hz2 y hy
  dsimp only [cxOf]
  have k1 := is_ "BadWeb" (by decide +kernel)
  have k2 := is_ "BadNumbers" (by decide +kernel)
  have k3 := is_ "BadFactor" (by decide +kernel)
  clear is_
  have s16 := size16
  refine s_hide fun R1 hR1 => ?_
  simp only [six, List.mem_cons, List.not_mem_nil, or_false] at hz
  rcases hz with rfl | rfl | rfl
  · rw [show decide ((("web", "BadWeb") : Str × Str).2 = (("BadWeb" : Str))) = true by decide +kernel] at k1; rw [show decide ((("web", "BadWeb") : Str × Str).2 = (("BadNumbers" : Str))) = false by decide +kernel] at k2; rw [show decide ((("web", "BadWeb") : Str × Str).2 = (("BadFactor" : Str))) = false by decide +kernel] at k3
    simp [vIsX, ex, k1, k2, k3]
    subst hR1
    refine s_hide fun R2 hR2 => ?_
    simp only [sSeq, sAsg]
    refine vLc_alF ([("web", true), ("numbers", false), ("factor", false)] : List (Str × Bool)) (fun q => .tup [.str q.1, .bl q.2]) (fun q => q.2) (fun q => .str q.1) (w := ⟨([("web", true), ("numbers", false), ("factor", false)] : List (Str × Bool)).map (fun q => .tup [.str q.1, .bl q.2]), fun M' => True⟩) (fun R r => ?_) rfl trivial (by show 3 < sizeLine; omega) (fun q hq A B hA hB => ?_) ?_
    · simpa [asI] using r
    · simp [vwipe]
      cases e : q.2 with
      | true => exact .inr ⟨rfl, hA e⟩
      | false => exact .inl ⟨rfl, hB e⟩
    · subst hR2
      simp
      exact h
  · rw [show decide ((("numbers", "BadNumbers") : Str × Str).2 = (("BadWeb" : Str))) = false by decide +kernel] at k1; rw [show decide ((("numbers", "BadNumbers") : Str × Str).2 = (("BadNumbers" : Str))) = true by decide +kernel] at k2; rw [show decide ((("numbers", "BadNumbers") : Str × Str).2 = (("BadFactor" : Str))) = false by decide +kernel] at k3
    simp [vIsX, ex, k1, k2, k3]
    subst hR1
    refine s_hide fun R2 hR2 => ?_
    simp only [sSeq, sAsg]
    refine vLc_alF ([("web", false), ("numbers", true), ("factor", false)] : List (Str × Bool)) (fun q => .tup [.str q.1, .bl q.2]) (fun q => q.2) (fun q => .str q.1) (w := ⟨([("web", false), ("numbers", true), ("factor", false)] : List (Str × Bool)).map (fun q => .tup [.str q.1, .bl q.2]), fun M' => True⟩) (fun R r => ?_) rfl trivial (by show 3 < sizeLine; omega) (fun q hq A B hA hB => ?_) ?_
    · simpa [asI] using r
    · simp [vwipe]
      cases e : q.2 with
      | true => exact .inr ⟨rfl, hA e⟩
      | false => exact .inl ⟨rfl, hB e⟩
    · subst hR2
      simp
      exact h
  · rw [show decide ((("factor", "BadFactor") : Str × Str).2 = (("BadWeb" : Str))) = false by decide +kernel] at k1; rw [show decide ((("factor", "BadFactor") : Str × Str).2 = (("BadNumbers" : Str))) = false by decide +kernel] at k2; rw [show decide ((("factor", "BadFactor") : Str × Str).2 = (("BadFactor" : Str))) = true by decide +kernel] at k3
    simp [vIsX, ex, k1, k2, k3]
    subst hR1
    refine s_hide fun R2 hR2 => ?_
    simp only [sSeq, sAsg]
    refine vLc_alF ([("web", false), ("numbers", false), ("factor", true)] : List (Str × Bool)) (fun q => .tup [.str q.1, .bl q.2]) (fun q => q.2) (fun q => .str q.1) (w := ⟨([("web", false), ("numbers", false), ("factor", true)] : List (Str × Bool)).map (fun q => .tup [.str q.1, .bl q.2]), fun M' => True⟩) (fun R r => ?_) rfl trivial (by show 3 < sizeLine; omega) (fun q hq A B hA hB => ?_) ?_
    · simpa [asI] using r
    · simp [vwipe]
      cases e : q.2 with
      | true => exact .inr ⟨rfl, hA e⟩
      | false => exact .inl ⟨rfl, hB e⟩
    · subst hR2
      simp
      exact h
end K53
namespace K53
open PySem PySem.Spec L2 VL
abbrev N__law_caught : List Str := ["look", "caught", "back", "error"]
abbrev P__law_caught : List Str := ["look"]
theorem sc__law_caught : FnScope N__law_caught P__law_caught (defScope s__law_caught) := ⟨rfl, rfl, rfl, by decide +kernel, rfl, by decide +kernel, by decide +kernel⟩
theorem ct__law_caught : CatchT "_law_caught" "look" "caught" "back" "error" "SquareError" s__law_caught :=
  ⟨sc__law_caught, (fun _ _ _ _ _ _ us hl => match us, hl with | [_], _ => rfl), rfl, rfl, rfl, rfl, rfl, by decide, by decide, by decide, by decide, by decide, by decide, by decide, by decide, by decide,
   ⟨_, _, _, _, _, _, _, _, _, _, _, _, _, _, _, _, _, _, _, _, _, _, _, _, _, _, rfl, (fun _ _ _ => rfl), (fun _ _ _ => rfl), (fun _ _ _ => rfl), (fun _ _ _ => rfl)⟩⟩
abbrev N__law_is_due : List Str := ["look", "dues", "caught", "wrong", "kind", "value", "is_right"]
abbrev P__law_is_due : List Str := ["look", "dues"]
theorem sc__law_is_due : FnScope N__law_is_due P__law_is_due (defScope s__law_is_due) := ⟨rfl, rfl, rfl, by decide +kernel, rfl, by decide +kernel, by decide +kernel⟩
abbrev rest__law_is_due : List Stmt := (defBody s__law_is_due).tail
theorem dt__law_is_due : DueT "_law_is_due" "_law_caught" "look" "dues" "caught" s__law_is_due N__law_is_due rest__law_is_due :=
  ⟨sc__law_is_due, (fun _ _ _ _ _ _ us hl => match us, hl with | [_, _], _ => rfl), rfl, rfl, rfl, rfl, rfl, by decide, by decide, by decide, fun _ _ _ => rfl,
   ⟨_, _, _, _, _, _, _, _, rfl, (fun _ _ _ => rfl), (fun _ _ _ => rfl), (fun _ _ _ => rfl)⟩⟩
/-- what is asked: a word, a value, whether it is right -/
abbrev Due := Str × D × Bool
def dueD (z : Due) : D := .tup [.str z.1, z.2.1, .bl z.2.2]
def fw (ds : List Due) : Option Due := ds.find? fun z => !z.2.2
/-- a due that can be shown -/
def Fine (z : Due) : Prop := (∀ M : Mem, fz M (.tup [.str z.1, z.2.1]) = .tup [.str z.1, z.2.1]) ∧ Sh 29 (.tup [.str z.1, z.2.1]) ∧ (py (.tup [.str z.1, z.2.1])).showable = true ∧ (py (.tup [.str z.1, z.2.1])).shown.length ≤ 16000000
theorem repr_fine {z : Due} (h : Fine z) {M : Mem} {Q : VL.VK} (q : Q (.str (py (.tup [.str z.1, z.2.1])).shown) M) : rRepr [.tup [.str z.1, z.2.1]] M Q := by
  show Sh 30 (fz M (.tup [.str z.1, z.2.1])) ∧ _ ∧ _ ∧ _
  rw [h.1 M]
  exact ⟨Sh.up _ _ _ (by decide) h.2.1, h.2.2.1, h.2.2.2, q⟩
def ps__law_is_due (K : PySem.W.Frag) : VSp := pr3 fun a b c M Q => ∃ ds : List Due, asI M b = some (ds.map dueD) ∧ ds.length ≤ 100 ∧ (∀ z ∈ ds, Fine z) ∧ Q (.bl true) M ∧ match fw ds with
  | none => c = .non
  | some z => ∃ u ∈ six, u.1 = z.1 ∧ c = .exc (He.ga K u.2) z.2.1
theorem kr__law_is_due {P : Program} {w : World} {K : PySem.W.Frag} {mg : Str → Option Value} {base : Heap} (hB : Fr mg bl) (xt : ExT P w K mg base exs) (k__law_word_of : Kn P w K mg base 1 "_law_word_of" P__law_word_of (p__law_word_of K)) : KnRest P w K mg base 9 "_law_is_due" s__law_is_due N__law_is_due rest__law_is_due (ps__law_is_due K) := by
  have S := sc__law_is_due
  refine ⟨fun f cdv A outer s H hr => ⟨_, (vss_cons (vs_setLc (i := 3) (hc := rfl) (hN := S.nd) (hy := rfl) (hyl := rfl) (hsw := sw_true rfl rfl rfl (by decide +kernel))  (own := [("kind", 4), ("value", 5), ("is_right", 6)]) (vi_seq (v_var (pv 1))) (blkOk_by (by first | rfl | kernel_rfl)) (lcg_tup (n := 3) rfl (lcgs_cons (lcg_name (fun _ _ _ _ _ => pg_name (i := 4) S.nd rfl (by first | exact Or.inl rfl | exact Or.inr rfl))) (lcgs_cons (lcg_name (fun _ _ _ _ _ => pg_name (i := 5) S.nd rfl (by first | exact Or.inl rfl | exact Or.inr rfl))) (lcgs_cons (lcg_name (fun _ _ _ _ _ => pg_name (i := 6) S.nd rfl (by first | exact Or.inl rfl | exact Or.inr rfl))) lcgs_nil)))) (fun _ _ _ _ _ => (vts_one (t_not (t_val (v_var (pv 6)))))) (fun _ _ _ _ _ => (v_tup (va_cons (v_var (pv 4)) (va_cons (v_var (pv 5)) va_nil))))) (vss_cons (vs_if (t_cmp (o_eq hr.r) (v_var (pv 3)) (v_lst va_nil) (nomark _)) (vss_one (vs_ret (v_cmp o_is (v_var (pv 2)) v_non (nomark _)))) vss_nil) (vss_one (vs_ret (v_and (v_cmp o_isNot (v_var (pv 2)) v_non (nomark _)) (v_one (v_cmp (o_eq hr.r) (v_callB (c_repr hr) (hB _ (by decide +kernel)) (va_cons (v_tup (va_cons (v_callK k__law_word_of hr (va_cons (v_var (pv 2)) va_nil)) (va_cons (v_val (v_var (pv 2))) va_nil))) va_nil)) (v_callB (c_repr hr) (hB _ (by decide +kernel)) (va_cons (v_ix (v_var (pv 3)) v_int) va_nil)) (nomark _)))))))), ?_⟩⟩
  clear hr S
  rintro _ M Q ⟨x0, x1, x2, rfl, h⟩
  rw [show vstart N__law_is_due.length [x0, x1, x2] = [some x0, some x1, some x2, none, none, none, none] from rfl]
  obtain ⟨ds, hb, hl, hf, q, h⟩ := h
  have sz := size1000
  refine s_hide fun R1 hR1 => ?_
  simp
  refine vLc_alF ds dueD (fun z => !z.2.2) (fun z => .tup [.str z.1, z.2.1]) (w := ⟨ds.map dueD, fun M' => asI M' x1 = some (ds.map dueD)⟩) (fun R r => ⟨_, rfl, _, hb, r⟩) rfl hb (by omega) (fun z hz A B hA hB => ?_) ?_
  · simp [vwipe, dueD]
    cases e : z.2.2 with
    | true => exact .inr ⟨rfl, hB (by simp [e])⟩
    | false => exact .inl ⟨rfl, hA (by simp [e])⟩
  · have hd : fw ds = (ds.filter fun z => !z.2.2).head? := by unfold fw; rw [List.head?_filter]
    have hin : ∀ z ∈ ds.filter (fun z => !z.2.2), Fine z := fun z hz => hf z (List.mem_filter.mp hz).1
    rw [hd] at h
    generalize ds.filter (fun z => !z.2.2) = ws at h hin ⊢
    have shw : ∀ x ∈ ws.map (fun z : Due => D.tup [D.str z.1, z.2.1]), Sh 29 x := fun x hx => by
      obtain ⟨z, hz, rfl⟩ := List.mem_map.mp hx
      exact (hin z hz).2.1
    subst hR1
    refine s_hide fun R1 hR1 => ?_
    have eqn : ∀ (xs : List D) (A : VL.VK), (∀ x ∈ xs, Sh 29 x) → A (.bl xs.isEmpty) M → oEq (.lst xs) (.lst []) M A := fun xs A hx q => by
      refine .inr ⟨sh_lst hx, sh_lst (fun _ z => nomatch z), ?_⟩
      rw [fz_lst, fz_lst, eqD_lst, eqDs_nil_iff]
      exact q
    simp
    cases ws with
    | nil =>
      simp only [List.head?_nil] at h
      subst h
      refine eqn _ _ shw (.inr ⟨rfl, q⟩)
    | cons z ws =>
      simp only [List.head?_cons] at h
      obtain ⟨u, hu, hz, rfl⟩ := h
      refine eqn _ _ shw (.inl ⟨rfl, ?_⟩)
      subst hR1
      have fz := hin z List.mem_cons_self
      have hu2 : u.2 ∈ exs := by
        simp only [six, List.mem_cons, List.not_mem_nil, or_false] at hu
        rcases hu with rfl | rfl | rfl <;> decide +kernel
      simp
      refine pr1_at.mpr ⟨u, z.2.1, hu, rfl, _, _, ⟨rfl, rfl⟩, xt.xf _ hu2, xt.no _ hu2, ?_⟩
      rw [hz]
      refine repr_fine fz (repr_fine fz (.inl ⟨_, _, rfl, rfl, ?_⟩))
      rw [decide_eq_true rfl]
      exact q
end K53
namespace K53
open PySem PySem.Spec L2 VL
/-- the looks: a lambda's place, what it is, what is due (as it is kept, what it holds) -/
abbrev Look := Addr × LamT × D × List Due
def lkD (z : Look) : D := .tup [.obj z.1, z.2.2.1]
def LSt (LM : LamT → Addr → MO) (nm : Str) (M : Mem) (P q : Addr) (zs : List Look) (N : Mem) : Prop := VL.Sub M N ∧ N P = some (.tb (lamQ nm)) ∧ N q = some (.lst (zs.map lkD)) ∧ M q = none ∧ ∀ z ∈ zs, N z.1 = some (LM z.2.1 z.1) ∧ z.1 ≠ q ∧ asI N z.2.2.1 = some (z.2.2.2.map dueD) ∧ z.2.2.1 ≠ .obj q
theorem LSt.keepI {LM : LamT → Addr → MO} {nm : Str} {M N : Mem} {P q f : Addr} {zs : List Look} (h : LSt LM nm M P q zs N) (hf : N f = none) {o u : MO} {d : D} {xs : List D} (hd : asI N d = some xs) (hq : d ≠ .obj q) : asI (mupd (mupd N f o) q u) d = some xs := by
  cases d with
  | obj a =>
    have aq : a ≠ q := fun e => hq (by rw [e])
    have af : a ≠ f := fun e => by
      rw [e] at hd
      simp [asI, asL, hf] at hd
    simp only [asI, asL] at hd ⊢
    rw [mupd_ne aq, mupd_ne af]
    exact hd
  | _ => exact hd
theorem LSt.add {LM : LamT → Addr → MO} {nm : Str} {M N : Mem} {P q f : Addr} {zs : List Look} {w : LamT} {d : D} {ds : List Due} (h : LSt LM nm M P q zs N) (hf : N f = none) (hd : asI N d = some (ds.map dueD)) (hq : d ≠ .obj q) : LSt LM nm M P q (zs ++ [(f, w, d, ds)]) (mupd (mupd N f (LM w f)) q (.lst (zs.map lkD ++ [lkD (f, w, d, ds)]))) := by
  have ki := fun {d : D} {xs : List D} (hd : asI N d = some xs) (hq : d ≠ .obj q) => h.keepI hf (o := LM w f) (u := .lst (zs.map lkD ++ [lkD (f, w, d, ds)])) hd hq
  obtain ⟨h1, h2, h3, h4, h5⟩ := id h
  have fq : f ≠ q := fun e => by rw [e, h3] at hf; cases hf
  have fP : P ≠ f := fun e => by rw [← e, h2] at hf; cases hf
  have qP : P ≠ q := fun e => by rw [e, h3] at h2; cases h2
  refine ⟨fun a o ha => ?_, by rw [mupd_ne qP, mupd_ne fP]; exact h2, by rw [mupd_same]; simp, h4, fun z hz => ?_⟩
  · have aq : a ≠ q := fun e => by rw [e, h4] at ha; cases ha
    have af : a ≠ f := fun e => by rw [e] at ha; rw [h1 f o ha] at hf; cases hf
    rw [mupd_ne aq, mupd_ne af]
    exact h1 a o ha
  · rcases List.mem_append.mp hz with hz | hz
    · obtain ⟨e1, e2, e3, e4⟩ := h5 z hz
      have zf : z.1 ≠ f := fun e => by rw [e, hf] at e1; cases e1
      exact ⟨by rw [mupd_ne e2, mupd_ne zf]; exact e1, e2, h.keepI hf e3 e4, e4⟩
    · rw [List.mem_singleton.mp hz]
      exact ⟨by rw [mupd_ne fq, mupd_same], fq, h.keepI hf hd hq, hq⟩
theorem LSt.ext {LM : LamT → Addr → MO} {nm : Str} {M N N' : Mem} {P q : Addr} {zs : List Look} (h : LSt LM nm M P q zs N) (s : VL.Sub N N') : LSt LM nm M P q zs N' :=
  ⟨h.1.trans s, s _ _ h.2.1, s _ _ h.2.2.1, h.2.2.2.1, fun z hz => ⟨s _ _ (h.2.2.2.2 z hz).1, (h.2.2.2.2 z hz).2.1, asI_sub s (h.2.2.2.2 z hz).2.2.1, (h.2.2.2.2 z hz).2.2.2⟩⟩
/-- what a look's lambda does -/
def Tok (K : PySem.W.Frag) (e : VEnv) (z : Look) : Prop := z.2.2.2.length ≤ 100 ∧ (∀ d ∈ z.2.2.2, Fine d ∧ ∃ u ∈ six, u.1 = d.1) ∧ ∀ (N : Mem) (ok : Mem → Prop) (er : VXK), (fw z.2.2.2 = none → ∀ N', VL.Sub N N' → ok N') → (∀ d, fw z.2.2.2 = some d → ∀ u ∈ six, u.1 = d.1 → er (He.ga K u.2) d.2.1 N) → z.2.1.t e N (fun _ M' => ok M') er
theorem fw_mem {ds : List Due} {d : Due} (h : fw ds = some d) : d ∈ ds := List.mem_of_find?_eq_some h
/-- one look more -/
theorem look_add {LM : LamT → Addr → MO} {nm : Str} {M N : Mem} {P q : Addr} {zs : List Look} {w : LamT} {d : D} {ds : List Due} {j : Nat} {e : VEnv} {A : VL.VK} {t : VTE} (hl : zs.length ≤ 50) (hj : e[j]? = some (some (.obj q))) (h : LSt LM nm M P q zs N) (hd : asI N d = some (ds.map dueD)) (hq : d ≠ .obj q) (ht : ∀ (N' : Mem) (R : VL.VK), R d N' → t e N' R) (go : ∀ f N', LSt LM nm M P q (zs ++ [(f, w, d, ds)]) N' → A .non N') :
    vMtL rApp (vVar j) (vaCons (vTup (vaCons (fun _ M Q => M P = some (.tb (lamQ nm)) ∧ ∀ f, M f = none → Q (.obj f) (mupd M f (LM w f))) (vaCons t vaNil))) vaNil) e N A := by
  have sz := size1000
  refine ⟨_, hj, q, _, rfl, h.2.2.1, h.2.1, fun f hf => ht _ _ ⟨(show 2 ≤ sizeLine by omega), ?_⟩⟩
  have fq : q ≠ f := fun e => by rw [← e, h.2.2.1] at hf; cases hf
  exact ⟨_, _, rfl, by rw [mupd_ne fq]; exact h.2.2.1, by rw [List.length_map]; omega, go f _ (h.add hf hd hq)⟩
def w1 : D := webD 2 [(0, 1)]
def w2 : D := webD 3 [(0, 1), (0, 2)]
def websL : List D := [w1, w2, .tup [.int 1, .tup []], .tup [.int 9, .tup [dD (0, 1)]], .tup [.int 2, .tup []], webD 2 [(1, 0)], webD 3 [(0, 2), (0, 1)], webD 3 [(0, 1), (0, 1)], webD 3 [(0, 3)], .lst [.int 2, .tup [dD (0, 1)]], .non, .tup [.bl true, .tup [dD (0, 1)]], .tup [.int 8, .tup (List.replicate 17 (dD (0, 1)))]]
def numsL : List D := [.tup [.int 1], .tup [.int 1, .int 2], .tup [.int 0, .int (-5)], .tup [], .tup [.int 1000000001], .lst [.int 1], .non, .tup [.bl true], .tup [.str "1"]]
def facsL : List D := [.tup [.tup [.int 0], .tup []], .tup [.tup [], .tup [.int 0]], .tup [.tup [], .tup []], .tup [.tup [.int 0, .int 0], .tup []], .tup [.tup [.int 1], .tup []], .lst [.tup [.int 0], .tup []], .non, .tup [.tup [.bl true], .tup []]]
/-- by looking -/
def okB : Nat → D → Bool
  | _, .non => true
  | _, .bl _ => true
  | _, .int _ => true
  | _, .str w => PyData.strOk w
  | n + 1, .lst xs => decide (xs.length ≤ 100) && xs.all (okB n)
  | n + 1, .tup xs => decide (xs.length ≤ 100) && xs.all (okB n)
  | _, _ => false
theorem okB_okv {M : Mem} : ∀ {n : Nat} {d : D}, okB n d = true → Okv M d
  | n, .non, _ => by unfold Okv; trivial
  | n, .bl _, _ => by unfold Okv; trivial
  | n, .int _, _ => by unfold Okv; trivial
  | n, .str _, _ => by unfold Okv; trivial
  | n, .lst _, _ => by unfold Okv; trivial
  | 0, .tup _, h => by simp [okB] at h
  | n + 1, .tup xs, h => by
    simp only [okB, Bool.and_eq_true, decide_eq_true_eq, List.all_eq_true] at h
    unfold Okv
    exact ⟨by omega, okvs_of fun x hx => okB_okv (h.2 x hx)⟩
  | n, .obj _, h => by cases n <;> simp [okB] at h
  | n, .rd _, h => by cases n <;> simp [okB] at h
  | n, .exc _ _, h => by cases n <;> simp [okB] at h
theorem okB_sh : ∀ {n : Nat} {d : D}, okB n d = true → Sh n d
  | n, .non, _ => by cases n <;> trivial
  | n, .bl _, _ => by cases n <;> trivial
  | n, .int _, _ => by cases n <;> trivial
  | n, .str w, h => by
    have : PyData.strOk w = true := by cases n <;> simpa [okB] using h
    cases n <;> exact this
  | 0, .lst _, h => by simp [okB] at h
  | 0, .tup _, h => by simp [okB] at h
  | n + 1, .lst xs, h => by
    simp only [okB, Bool.and_eq_true, decide_eq_true_eq, List.all_eq_true] at h
    exact fun x hx => okB_sh (h.2 x hx)
  | n + 1, .tup xs, h => by
    simp only [okB, Bool.and_eq_true, decide_eq_true_eq, List.all_eq_true] at h
    exact fun x hx => okB_sh (h.2 x hx)
  | n, .obj _, h => by cases n <;> simp [okB] at h
  | n, .rd _, h => by cases n <;> simp [okB] at h
  | n, .exc _ _, h => by cases n <;> simp [okB] at h
def finB (w : Str) (d : D) : Bool := okB 20 (.tup [.str w, d]) && (py (.tup [.str w, d])).showable && decide ((py (.tup [.str w, d])).shown.length ≤ 1000)
theorem webs_fin : ∀ d ∈ websL, okB 19 d = true ∧ finB "web" d = true ∧ (py d).showable = true ∧ (py d).shown.length ≤ 1000 := by decide +kernel
theorem nums_fin : ∀ d ∈ numsL, okB 19 d = true ∧ finB "numbers" d = true := by decide +kernel
theorem facs_fin : ∀ d ∈ facsL, okB 19 d = true ∧ finB "factor" d = true ∧ (py d).showable = true ∧ (py d).shown.length ≤ 1000 := by decide +kernel
theorem fine_of {w : Str} {d : D} {b : Bool} (h : finB w d = true) : Fine (w, d, b) := by
  unfold finB at h
  rw [Bool.and_eq_true, Bool.and_eq_true, decide_eq_true_eq] at h
  exact ⟨fun _ => rfl, Sh.up _ _ _ (by decide) (okB_sh h.1.1), h.1.2, Nat.le_trans h.2 (by decide)⟩
theorem webs_rest : ∀ d ∈ websL.drop 2, webB d = false := by decide +kernel
theorem webs_two : ∀ d ∈ websL, webB d = true → d = w1 ∨ d = w2 := fun d hd h => by
  have : d = w1 ∨ d = w2 ∨ d ∈ websL.drop 2 := by
    rw [show websL = w1 :: w2 :: websL.drop 2 from rfl] at hd
    simpa only [List.mem_cons] using hd
  rcases this with e | e | e
  · exact .inl e
  · exact .inr e
  · rw [webs_rest d e] at h
    cases h
def many (a : D) : Nat := if webB a = true then lenW a else 1
def facL (a c : D) : Bool := decide ((py c).shown = "((0,), ())") && decide ((py a).shown = "(2, ((0, 1),))")
def dH (a : D) : List Due := [("web", a, webB a)]
def dN (a b : D) : List Due := dH a ++ ([("numbers", b, numB (many a) b)] : List Due)
def dF (a c : D) : List Due := dH a ++ ([("factor", c, facL a c)] : List Due)
theorem facs_w1 : ∀ c ∈ facsL, (facL w1 c || !facB 2 [(0, 1)] c) = true := by decide +kernel
theorem facs_w2 : ∀ c ∈ facsL, (!facL w2 c && !facB 3 [(0, 1), (0, 2)] c) = true := by decide +kernel
theorem webD_inj {n n' : Int} {ds ds' : List (Int × Int)} (h : webD n ds = webD n' ds') : n = n' ∧ ds = ds' := by
  unfold webD at h
  simp only [D.tup.injEq, List.cons.injEq, D.int.injEq, and_true] at h
  refine ⟨h.1, ?_⟩
  have := congrArg (List.map uD) h.2
  rw [List.map_map, List.map_map, show uD ∘ dD = id from funext uD_dD, List.map_id, List.map_id] at this
  exact this
theorem web_two {a : D} (ha : a ∈ websL) (h : webB a = true) : ∃ (n : Nat) (ds : List (Int × Int)) (rows : List (List Int)), a = webD n ds ∧ Two n ds rows := by
  rcases webs_two a ha h with rfl | rfl
  · exact ⟨2, [(0, 1)], [[2]], rfl, .inl ⟨rfl, rfl, rfl⟩⟩
  · exact ⟨3, [(0, 1), (0, 2)], [], rfl, .inr ⟨rfl, rfl, rfl⟩⟩
theorem num_ex {m : Nat} {b : D} (h : numB m b = true) : ∃ ns : List Int, b = .tup (ns.map D.int) ∧ Nums m ns := by
  unfold numB at h
  rw [Bool.and_eq_true, decide_eq_true_eq] at h
  obtain ⟨e, hb⟩ := areB_ex h.1
  refine ⟨uL b, e, ?_, hb⟩
  have := h.2
  rw [e] at this
  simpa [lenT] using this
theorem fin_H {a : D} (ha : a ∈ websL) : ∀ d ∈ dH a, Fine d ∧ ∃ u ∈ six, u.1 = d.1 := fun d hd => by
  unfold dH at hd
  rw [List.mem_singleton.mp hd]
  exact ⟨fine_of (webs_fin a ha).2.1, ("web", "BadWeb"), by simp [six], rfl⟩
theorem fin_N {a b : D} (ha : a ∈ websL) (hb : b ∈ numsL) : ∀ d ∈ dN a b, Fine d ∧ ∃ u ∈ six, u.1 = d.1 := fun d hd => by
  unfold dN at hd
  rcases List.mem_append.mp hd with hd | hd
  · exact fin_H ha d hd
  · rw [List.mem_singleton.mp hd]
    exact ⟨fine_of (nums_fin b hb).2, ("numbers", "BadNumbers"), by simp [six], rfl⟩
theorem fin_F {a c : D} (ha : a ∈ websL) (hc : c ∈ facsL) : ∀ d ∈ dF a c, Fine d ∧ ∃ u ∈ six, u.1 = d.1 := fun d hd => by
  unfold dF at hd
  rcases List.mem_append.mp hd with hd | hd
  · exact fin_H ha d hd
  · rw [List.mem_singleton.mp hd]
    exact ⟨fine_of (facs_fin c hc).2.1, ("factor", "BadFactor"), by simp [six], rfl⟩
theorem repr_small {d : D} {M : Mem} {Q : VL.VK} (h1 : okB 19 d = true) (h2 : (py d).showable = true ∧ (py d).shown.length ≤ 1000) (q : Q (.str (py d).shown) M) : rRepr [d] M Q := by
  have e : fz M d = d := by cases d <;> first | rfl | simp [okB] at h1
  show Sh 30 (fz M d) ∧ _ ∧ _ ∧ _
  rw [e]
  exact ⟨Sh.up _ _ _ (by decide) (okB_sh h1), h2.1, Nat.le_trans h2.2 (by decide), q⟩
/-- what the lambdas do: web alone; web and numbers -/
theorem tH {K : PySem.W.Frag} {a : D} {N : Mem} {ok : Mem → Prop} {er : VXK} (ha : a ∈ websL) (h0 : fw (dH a) = none → ok N) (h1 : ∀ d, fw (dH a) = some d → ∀ u ∈ six, u.1 = d.1 → er (He.ga K u.2) d.2.1 N) : (∃ (n : Nat) (ds : List (Int × Int)) (rows : List (List Int)), a = webD n ds ∧ Two n ds rows ∧ ok N) ∨ badW K a N er := by
  cases e : webB a with
  | true =>
    obtain ⟨n, ds, rows, ea, tw⟩ := web_two ha e
    exact .inl ⟨n, ds, rows, ea, tw, h0 (by simp [fw, dH, e])⟩
  | false => exact .inr ⟨okB_okv (webs_fin a ha).1, e, h1 ("web", a, false) (by simp [fw, dH, e]) ("web", "BadWeb") (by simp [six]) rfl⟩
theorem tN {K : PySem.W.Frag} {a b : D} {N : Mem} {ok : Mem → Prop} {er : VXK} (ha : a ∈ websL) (hb : b ∈ numsL) (h0 : fw (dN a b) = none → ok N) (h1 : ∀ d, fw (dN a b) = some d → ∀ u ∈ six, u.1 = d.1 → er (He.ga K u.2) d.2.1 N) : (∃ n ds ns, a = webD n ds ∧ b = .tup (ns.map D.int) ∧ WebOk n ds ∧ Nums ds.length ns ∧ ok N) ∨ badN K a b N er := by
  have oka := okB_okv (M := N) (webs_fin a ha).1
  have okb := okB_okv (M := N) (nums_fin b hb).1
  cases e : webB a with
  | true =>
    have em : many a = lenW a := by unfold many; rw [if_pos e]
    cases e2 : numB (lenW a) b with
    | true =>
      obtain ⟨n, ds, rfl, ok'⟩ := web_ex e
      rw [lenW_web] at e2
      obtain ⟨ns, eb, hn⟩ := num_ex e2
      refine .inl ⟨n, ds, ns, rfl, eb, ok', hn, h0 ?_⟩
      simp [fw, dN, dH, e, em, lenW_web, e2]
    | false => exact .inr ⟨oka, okb, .inr ⟨e, e2, h1 ("numbers", b, false) (by simp [fw, dN, dH, e, em, e2]) ("numbers", "BadNumbers") (by simp [six]) rfl⟩⟩
  | false => exact .inr ⟨oka, okb, .inl ⟨e, h1 ("web", a, false) (by simp [fw, dN, dH, e]) ("web", "BadWeb") (by simp [six]) rfl⟩⟩
end K53
namespace K53
open PySem PySem.Spec L2 VL
abbrev N__law_are_right : List Str := ["web", "numbers", "factor", "is_web_v", "head", "many", "are_numbers_v", "numbered", "factored", "looks", "number", "word", "value", "right", "look", "due"]
abbrev P__law_are_right : List Str := ["web", "numbers", "factor"]
theorem sc__law_are_right : FnScope N__law_are_right P__law_are_right (defScope s__law_are_right) := ⟨rfl, rfl, rfl, by decide +kernel, rfl, by decide +kernel, by decide +kernel⟩
def lam0__law_are_right (K : PySem.W.Frag) : LamT := lamZ (xFn (px_factor_numbers K) (vaCons (vVar 0) (vaCons (vVar 2) vaNil))) (exN (subE (exN (subE (exN (subE (ifC (stN (defBody s__law_are_right) 5))) 1)) 0)) 0)
def lam1__law_are_right (K : PySem.W.Frag) : LamT := lamZ (xFn (px_room_sums K) (vaCons (vVar 0) (vaCons (vVar 1) vaNil))) (exN (subE (exN (subE (valE (stN (defBody s__law_are_right) 7))) 0)) 0)
def lam2__law_are_right (K : PySem.W.Frag) : LamT := lamZ (xFn (px_alike_told K) (vaCons (vVar 0) (vaCons (vVar 1) vaNil))) (exN (subE (exN (subE (valE (stN (defBody s__law_are_right) 8))) 0)) 0)
def lam3__law_are_right (K : PySem.W.Frag) : LamT := lamZ (xFn (px_shows_alike K) (vaCons (vVar 0) (vaCons (vVar 1) (vaCons (vC D.non) vaNil)))) (exN (subE (exN (subE (valE (stN (defBody s__law_are_right) 9))) 0)) 0)
def lam4__law_are_right (K : PySem.W.Frag) : LamT := lamZ (xFn (px_is_factor K) (vaCons (vVar 0) (vaCons (vC D.non) vaNil))) (exN (subE (exN (subE (valE (stN (defBody s__law_are_right) 10))) 0)) 0)
def lam5__law_are_right (K : PySem.W.Frag) : LamT := lamZ (xFn (px_factors K) (vaCons (vVar 0) vaNil)) (exN (subE (exN (subE (valE (stN (defBody s__law_are_right) 11))) 0)) 0)
def lam6__law_are_right (K : PySem.W.Frag) : LamT := lamZ (xFn (px_web_told K) (vaCons (vVar 0) vaNil)) (exN (subE (exN (subE (valE (stN (defBody s__law_are_right) 12))) 0)) 0)
def lam7__law_are_right (K : PySem.W.Frag) : LamT := lamZ (xFn (px_shows_web K) (vaCons (vVar 0) (vaCons (vC D.non) vaNil))) (exN (subE (exN (subE (valE (stN (defBody s__law_are_right) 13))) 0)) 0)
def lam8__law_are_right (K : PySem.W.Frag) : LamT := lamZ (xFn (px_even_told K) (vaCons (vVar 0) vaNil)) (exN (subE (exN (subE (valE (stN (defBody s__law_are_right) 14))) 0)) 0)
def lam9__law_are_right (K : PySem.W.Frag) : LamT := lamZ (xFn (px_shows_even K) (vaCons (vVar 0) (vaCons (vC D.non) vaNil))) (exN (subE (exN (subE (valE (stN (defBody s__law_are_right) 15))) 0)) 0)
def lam10__law_are_right (K : PySem.W.Frag) : LamT := lamZ (xFn (px_space K) (vaCons (vVar 0) vaNil)) (exN (subE (exN (subE (valE (stN (defBody s__law_are_right) 16))) 0)) 0)
abbrev lams__law_are_right (K : PySem.W.Frag) : List LamT := [lam0__law_are_right K, lam1__law_are_right K, lam2__law_are_right K, lam3__law_are_right K, lam4__law_are_right K, lam5__law_are_right K, lam6__law_are_right K, lam7__law_are_right K, lam8__law_are_right K, lam9__law_are_right K, lam10__law_are_right K]
def p__law_are_right (K : PySem.W.Frag) : VSp := pr3 fun a b c M Q => a ∈ websL ∧ b ∈ numsL ∧ c ∈ facsL ∧ M (tA K "_law_are_right") = some (.tb (lamQ "_law_are_right")) ∧ Q (.bl true) M
theorem ok__law_are_right {P : Program} {w : World} {K : PySem.W.Frag} {mg : Str → Option Value} {base : Heap} (hD : DfT K mg base "_law_are_right" s__law_are_right) (hB : Fr mg bl) (xt : ExT P w K mg base exs) (D__law_caught : Df K mg "_law_caught" s__law_caught) (D__law_is_due : Df K mg "_law_is_due" s__law_is_due) (kr__law_is_due : KnRest P w K mg base 9 "_law_is_due" s__law_is_due N__law_is_due rest__law_is_due (ps__law_is_due K)) (kx_space : KnX P w K mg base 6 "space" P_space (px_space K)) (kx_shows_even : KnX P w K mg base 6 "shows_even" P_shows_even (px_shows_even K)) (kx_even_told : KnX P w K mg base 6 "even_told" P_even_told (px_even_told K)) (kx_shows_web : KnX P w K mg base 6 "shows_web" P_shows_web (px_shows_web K)) (kx_web_told : KnX P w K mg base 6 "web_told" P_web_told (px_web_told K)) (kx_factors : KnX P w K mg base 6 "factors" P_factors (px_factors K)) (kx_is_factor : KnX P w K mg base 6 "is_factor" P_is_factor (px_is_factor K)) (kx_shows_alike : KnX P w K mg base 7 "shows_alike" P_shows_alike (px_shows_alike K)) (kx_alike_told : KnX P w K mg base 7 "alike_told" P_alike_told (px_alike_told K)) (kx_room_sums : KnX P w K mg base 7 "room_sums" P_room_sums (px_room_sums K)) (kx_factor_numbers : KnX P w K mg base 6 "factor_numbers" P_factor_numbers (px_factor_numbers K)) (k__law_is_web : Kn P w K mg base 2 "_law_is_web" P__law_is_web p__law_is_web) (k__law_is_int : Kn P w K mg base 1 "_law_is_int" P__law_is_int p__law_is_int) : Kn P w K mg base 12 "_law_are_right" P__law_are_right (p__law_are_right K) := by
  have S := sc__law_are_right
  refine kn_ofL hD sc__law_are_right (fun _ _ _ _ _ _ us hl => match us, hl with | [_, _, _], _ => rfl) pr3_len ?_
  intro f c A outer s H E TB hr
  refine ex_LM fun LM hLM => ?_
  refine ⟨_, (vss_cons (vs_set (i := 3) S.nd rfl (Or.inl rfl) (v_callK k__law_is_web hr (va_cons (v_var (pv 0)) va_nil))) (vss_cons (vs_par (i := 4) (j := 5) rfl S.nd rfl rfl (by decide) rfl rfl (va_cons (v_lst (va_cons (v_tup (va_cons v_str (va_cons (v_var (pv 0)) (va_cons (v_var (pv 3)) va_nil)))) va_nil)) (va_cons (v_if (t_val (v_var (pv 3))) (v_callB c_len (hB _ (by decide +kernel)) (va_cons (v_ix (v_var (pv 0)) v_int) va_nil)) v_int) va_nil)) (by rfl)) (vss_cons (vs_set (i := 6) S.nd rfl (Or.inl rfl) (v_and (v_isi (T := "tuple") (hB _ (by decide +kernel)) (hB _ (by decide +kernel)) (v_var (pv 1))) (v_and (v_cmp (o_eq hr.r) (v_callB c_len (hB _ (by decide +kernel)) (va_cons (v_var (pv 1)) va_nil)) (v_var (pv 5)) (nomark _)) (v_one (v_callB (c_all rfl) (hB _ (by decide +kernel)) (va_cons (v_lc (own := [("number", 10)]) rfl S.nd (vi_seq (v_var (pv 1))) (blkOk_by (by first | rfl | kernel_rfl)) (lcg_name (fun _ _ _ _ _ => pg_name (i := 10) S.nd rfl (by first | exact Or.inl rfl | exact Or.inr rfl))) (fun _ _ _ _ _ => vts_nil) (fun _ _ _ _ _ => (v_callK k__law_is_int hr (va_cons (v_var (pv 10)) (va_cons (v_un o_neg (v_op o_pow v_int v_int)) (va_cons (v_op o_pow v_int v_int) va_nil)))))) va_nil)))))) (vss_cons (vs_set (i := 7) S.nd rfl (Or.inl rfl) (v_op o_add (v_var (pv 4)) (v_lst (va_cons (v_tup (va_cons v_str (va_cons (v_var (pv 1)) (va_cons (v_var (pv 6)) va_nil)))) va_nil)))) (vss_cons (vs_set (i := 8) S.nd rfl (Or.inl rfl) (v_op o_add (v_var (pv 4)) (v_lst (va_cons (v_tup (va_cons v_str (va_cons (v_var (pv 2)) (va_cons (v_and (v_cmp (o_eq hr.r) (v_callB (c_repr hr) (hB _ (by decide +kernel)) (va_cons (v_var (pv 2)) va_nil)) v_str (nomark _)) (v_one (v_cmp (o_eq hr.r) (v_callB (c_repr hr) (hB _ (by decide +kernel)) (va_cons (v_var (pv 0)) va_nil)) v_str (nomark _)))) va_nil)))) va_nil)))) (vss_cons (vs_if (t_pw (t_and (t_not (t_val (v_callB (c_all rfl) (hB _ (by decide +kernel)) (va_cons (v_lc (own := [("word", 11), ("value", 12), ("right", 13)]) rfl S.nd (vi_seq (v_var (pv 8))) (blkOk_by (by first | rfl | kernel_rfl)) (lcg_tup (n := 3) rfl (lcgs_cons (lcg_name (fun _ _ _ _ _ => pg_name (i := 11) S.nd rfl (by first | exact Or.inl rfl | exact Or.inr rfl))) (lcgs_cons (lcg_name (fun _ _ _ _ _ => pg_name (i := 12) S.nd rfl (by first | exact Or.inl rfl | exact Or.inr rfl))) (lcgs_cons (lcg_name (fun _ _ _ _ _ => pg_name (i := 13) S.nd rfl (by first | exact Or.inl rfl | exact Or.inr rfl))) lcgs_nil)))) (fun _ _ _ _ _ => vts_nil) (fun _ _ _ _ _ => (v_var (pv 13)))) va_nil)))) (t_and1 (t_not (t_val (v_due (k := 7) hLM D__law_is_due dt__law_is_due D__law_caught ct__law_caught xt.err kr__law_is_due (zs := (lams__law_are_right K)) (lams_cons ⟨LamX.lamS_by (sc := defScope s__law_are_right) (by kernel_rfl), (fun _ _ _ _ _ => rfl), fun A outer s H E f c1 hr => (vx_callK kx_factor_numbers hr (passes_call (takes_of rfl rfl rfl rfl) (fun _ _ _ _ h => h)) (va_cons (v_var (pv 0)) (va_cons (v_var (pv 2)) va_nil)))⟩ (lams_cons ⟨LamX.lamS_by (sc := defScope s__law_are_right) (by kernel_rfl), (fun _ _ _ _ _ => rfl), fun A outer s H E f c1 hr => (vx_callK kx_room_sums hr (passes_call (takes_of rfl rfl rfl rfl) (fun _ _ _ _ h => h)) (va_cons (v_var (pv 0)) (va_cons (v_var (pv 1)) va_nil)))⟩ (lams_cons ⟨LamX.lamS_by (sc := defScope s__law_are_right) (by kernel_rfl), (fun _ _ _ _ _ => rfl), fun A outer s H E f c1 hr => (vx_callK kx_alike_told hr (passes_call (takes_of rfl rfl rfl rfl) (fun _ _ _ _ h => h)) (va_cons (v_var (pv 0)) (va_cons (v_var (pv 1)) va_nil)))⟩ (lams_cons ⟨LamX.lamS_by (sc := defScope s__law_are_right) (by kernel_rfl), (fun _ _ _ _ _ => rfl), fun A outer s H E f c1 hr => (vx_callK kx_shows_alike hr (passes_call (takes_of rfl rfl rfl rfl) (fun _ _ _ _ h => h)) (va_cons (v_var (pv 0)) (va_cons (v_var (pv 1)) (va_cons v_non va_nil))))⟩ (lams_cons ⟨LamX.lamS_by (sc := defScope s__law_are_right) (by kernel_rfl), (fun _ _ _ _ _ => rfl), fun A outer s H E f c1 hr => (vx_callK kx_is_factor hr (passes_call (takes_of rfl rfl rfl rfl) (fun _ _ _ _ h => h)) (va_cons (v_var (pv 0)) (va_cons v_non va_nil)))⟩ (lams_cons ⟨LamX.lamS_by (sc := defScope s__law_are_right) (by kernel_rfl), (fun _ _ _ _ _ => rfl), fun A outer s H E f c1 hr => (vx_callK kx_factors hr (passes_call (takes_of rfl rfl rfl rfl) (fun _ _ _ _ h => h)) (va_cons (v_var (pv 0)) va_nil))⟩ (lams_cons ⟨LamX.lamS_by (sc := defScope s__law_are_right) (by kernel_rfl), (fun _ _ _ _ _ => rfl), fun A outer s H E f c1 hr => (vx_callK kx_web_told hr (passes_call (takes_of rfl rfl rfl rfl) (fun _ _ _ _ h => h)) (va_cons (v_var (pv 0)) va_nil))⟩ (lams_cons ⟨LamX.lamS_by (sc := defScope s__law_are_right) (by kernel_rfl), (fun _ _ _ _ _ => rfl), fun A outer s H E f c1 hr => (vx_callK kx_shows_web hr (passes_call (takes_of rfl rfl rfl rfl) (fun _ _ _ _ h => h)) (va_cons (v_var (pv 0)) (va_cons v_non va_nil)))⟩ (lams_cons ⟨LamX.lamS_by (sc := defScope s__law_are_right) (by kernel_rfl), (fun _ _ _ _ _ => rfl), fun A outer s H E f c1 hr => (vx_callK kx_even_told hr (passes_call (takes_of rfl rfl rfl rfl) (fun _ _ _ _ h => h)) (va_cons (v_var (pv 0)) va_nil))⟩ (lams_cons ⟨LamX.lamS_by (sc := defScope s__law_are_right) (by kernel_rfl), (fun _ _ _ _ _ => rfl), fun A outer s H E f c1 hr => (vx_callK kx_shows_even hr (passes_call (takes_of rfl rfl rfl rfl) (fun _ _ _ _ h => h)) (va_cons (v_var (pv 0)) (va_cons v_non va_nil)))⟩ (lams_cons ⟨LamX.lamS_by (sc := defScope s__law_are_right) (by kernel_rfl), (fun _ _ _ _ _ => rfl), fun A outer s H E f c1 hr => (vx_callK kx_space hr (passes_call (takes_of rfl rfl rfl rfl) (fun _ _ _ _ h => h)) (va_cons (v_var (pv 0)) va_nil))⟩ lams_nil))))))))))) (hr.mono (by decide)) (va_cons (v_lambdaZ hLM (lam0__law_are_right K) TB rfl (LamX.lamS_by (sc := defScope s__law_are_right) (by kernel_rfl)) rfl) (va_cons (v_var (pv 8)) va_nil)))))))) (vss_one (vs_ret v_bl)) vss_nil) (vss_cons (vs_set (i := 9) S.nd rfl (Or.inl rfl) (v_lstO va_nil)) (vss_cons (vs_expr (v_append (v_var (pv 9)) (va_cons (v_tup (va_cons (v_lambdaZ hLM (lam1__law_are_right K) TB rfl (LamX.lamS_by (sc := defScope s__law_are_right) (by kernel_rfl)) rfl) (va_cons (v_var (pv 7)) va_nil))) va_nil))) (vss_cons (vs_expr (v_append (v_var (pv 9)) (va_cons (v_tup (va_cons (v_lambdaZ hLM (lam2__law_are_right K) TB rfl (LamX.lamS_by (sc := defScope s__law_are_right) (by kernel_rfl)) rfl) (va_cons (v_var (pv 7)) va_nil))) va_nil))) (vss_cons (vs_expr (v_append (v_var (pv 9)) (va_cons (v_tup (va_cons (v_lambdaZ hLM (lam3__law_are_right K) TB rfl (LamX.lamS_by (sc := defScope s__law_are_right) (by kernel_rfl)) rfl) (va_cons (v_var (pv 7)) va_nil))) va_nil))) (vss_cons (vs_expr (v_append (v_var (pv 9)) (va_cons (v_tup (va_cons (v_lambdaZ hLM (lam4__law_are_right K) TB rfl (LamX.lamS_by (sc := defScope s__law_are_right) (by kernel_rfl)) rfl) (va_cons (v_var (pv 4)) va_nil))) va_nil))) (vss_cons (vs_expr (v_append (v_var (pv 9)) (va_cons (v_tup (va_cons (v_lambdaZ hLM (lam5__law_are_right K) TB rfl (LamX.lamS_by (sc := defScope s__law_are_right) (by kernel_rfl)) rfl) (va_cons (v_var (pv 4)) va_nil))) va_nil))) (vss_cons (vs_expr (v_append (v_var (pv 9)) (va_cons (v_tup (va_cons (v_lambdaZ hLM (lam6__law_are_right K) TB rfl (LamX.lamS_by (sc := defScope s__law_are_right) (by kernel_rfl)) rfl) (va_cons (v_var (pv 4)) va_nil))) va_nil))) (vss_cons (vs_expr (v_append (v_var (pv 9)) (va_cons (v_tup (va_cons (v_lambdaZ hLM (lam7__law_are_right K) TB rfl (LamX.lamS_by (sc := defScope s__law_are_right) (by kernel_rfl)) rfl) (va_cons (v_var (pv 4)) va_nil))) va_nil))) (vss_cons (vs_expr (v_append (v_var (pv 9)) (va_cons (v_tup (va_cons (v_lambdaZ hLM (lam8__law_are_right K) TB rfl (LamX.lamS_by (sc := defScope s__law_are_right) (by kernel_rfl)) rfl) (va_cons (v_var (pv 4)) va_nil))) va_nil))) (vss_cons (vs_expr (v_append (v_var (pv 9)) (va_cons (v_tup (va_cons (v_lambdaZ hLM (lam9__law_are_right K) TB rfl (LamX.lamS_by (sc := defScope s__law_are_right) (by kernel_rfl)) rfl) (va_cons (v_var (pv 4)) va_nil))) va_nil))) (vss_cons (vs_expr (v_append (v_var (pv 9)) (va_cons (v_tup (va_cons (v_lambdaZ hLM (lam10__law_are_right K) TB rfl (LamX.lamS_by (sc := defScope s__law_are_right) (by kernel_rfl)) rfl) (va_cons (v_var (pv 4)) va_nil))) va_nil))) (vss_one (vs_ret (v_callB (c_all rfl) (hB _ (by decide +kernel)) (va_cons (v_lcL (own := [("look", 14), ("due", 15)]) rfl S.nd (vi_seq (v_var (pv 9))) (blkOk_by (by first | rfl | kernel_rfl)) (lcg_tup (n := 2) rfl (lcgs_cons (lcg_name (fun _ _ _ _ _ => pg_name (i := 14) S.nd rfl (by first | exact Or.inl rfl | exact Or.inr rfl))) (lcgs_cons (lcg_name (fun _ _ _ _ _ => pg_name (i := 15) S.nd rfl (by first | exact Or.inl rfl | exact Or.inr rfl))) lcgs_nil))) (fun s0 K0 C cl its pins σ F0 e I others sr => (vf_due (k := 7) hLM D__law_is_due dt__law_is_due D__law_caught ct__law_caught xt.err kr__law_is_due (zs := (lams__law_are_right K)) (lams_cons ⟨LamX.lamS_by (sc := defScope s__law_are_right) (by kernel_rfl), (fun _ _ _ _ _ => rfl), fun A outer s H E f c1 hr => (vx_callK kx_factor_numbers hr (passes_call (takes_of rfl rfl rfl rfl) (fun _ _ _ _ h => h)) (va_cons (v_var (pv 0)) (va_cons (v_var (pv 2)) va_nil)))⟩ (lams_cons ⟨LamX.lamS_by (sc := defScope s__law_are_right) (by kernel_rfl), (fun _ _ _ _ _ => rfl), fun A outer s H E f c1 hr => (vx_callK kx_room_sums hr (passes_call (takes_of rfl rfl rfl rfl) (fun _ _ _ _ h => h)) (va_cons (v_var (pv 0)) (va_cons (v_var (pv 1)) va_nil)))⟩ (lams_cons ⟨LamX.lamS_by (sc := defScope s__law_are_right) (by kernel_rfl), (fun _ _ _ _ _ => rfl), fun A outer s H E f c1 hr => (vx_callK kx_alike_told hr (passes_call (takes_of rfl rfl rfl rfl) (fun _ _ _ _ h => h)) (va_cons (v_var (pv 0)) (va_cons (v_var (pv 1)) va_nil)))⟩ (lams_cons ⟨LamX.lamS_by (sc := defScope s__law_are_right) (by kernel_rfl), (fun _ _ _ _ _ => rfl), fun A outer s H E f c1 hr => (vx_callK kx_shows_alike hr (passes_call (takes_of rfl rfl rfl rfl) (fun _ _ _ _ h => h)) (va_cons (v_var (pv 0)) (va_cons (v_var (pv 1)) (va_cons v_non va_nil))))⟩ (lams_cons ⟨LamX.lamS_by (sc := defScope s__law_are_right) (by kernel_rfl), (fun _ _ _ _ _ => rfl), fun A outer s H E f c1 hr => (vx_callK kx_is_factor hr (passes_call (takes_of rfl rfl rfl rfl) (fun _ _ _ _ h => h)) (va_cons (v_var (pv 0)) (va_cons v_non va_nil)))⟩ (lams_cons ⟨LamX.lamS_by (sc := defScope s__law_are_right) (by kernel_rfl), (fun _ _ _ _ _ => rfl), fun A outer s H E f c1 hr => (vx_callK kx_factors hr (passes_call (takes_of rfl rfl rfl rfl) (fun _ _ _ _ h => h)) (va_cons (v_var (pv 0)) va_nil))⟩ (lams_cons ⟨LamX.lamS_by (sc := defScope s__law_are_right) (by kernel_rfl), (fun _ _ _ _ _ => rfl), fun A outer s H E f c1 hr => (vx_callK kx_web_told hr (passes_call (takes_of rfl rfl rfl rfl) (fun _ _ _ _ h => h)) (va_cons (v_var (pv 0)) va_nil))⟩ (lams_cons ⟨LamX.lamS_by (sc := defScope s__law_are_right) (by kernel_rfl), (fun _ _ _ _ _ => rfl), fun A outer s H E f c1 hr => (vx_callK kx_shows_web hr (passes_call (takes_of rfl rfl rfl rfl) (fun _ _ _ _ h => h)) (va_cons (v_var (pv 0)) (va_cons v_non va_nil)))⟩ (lams_cons ⟨LamX.lamS_by (sc := defScope s__law_are_right) (by kernel_rfl), (fun _ _ _ _ _ => rfl), fun A outer s H E f c1 hr => (vx_callK kx_even_told hr (passes_call (takes_of rfl rfl rfl rfl) (fun _ _ _ _ h => h)) (va_cons (v_var (pv 0)) va_nil))⟩ (lams_cons ⟨LamX.lamS_by (sc := defScope s__law_are_right) (by kernel_rfl), (fun _ _ _ _ _ => rfl), fun A outer s H E f c1 hr => (vx_callK kx_shows_even hr (passes_call (takes_of rfl rfl rfl rfl) (fun _ _ _ _ h => h)) (va_cons (v_var (pv 0)) (va_cons v_non va_nil)))⟩ (lams_cons ⟨LamX.lamS_by (sc := defScope s__law_are_right) (by kernel_rfl), (fun _ _ _ _ _ => rfl), fun A outer s H E f c1 hr => (vx_callK kx_space hr (passes_call (takes_of rfl rfl rfl rfl) (fun _ _ _ _ h => h)) (va_cons (v_var (pv 0)) va_nil))⟩ lams_nil))))))))))) (hr.mono (by decide)) I others sr (va_cons (v_var (pv 14)) (va_cons (v_var (pv 15)) va_nil)))) iSeq_mono) va_nil))))))))))))))))))))), ?_⟩
  clear hLM hr S
  rintro _ M Q ⟨x0, x1, x2, rfl, h⟩
  rw [show vstart N__law_are_right.length [x0, x1, x2] = [some x0, some x1, some x2, none, none, none, none, none, none, none, none, none, none, none, none, none] from rfl]
  obtain ⟨ha, hb, hc, hT, h⟩ := h
  have sz := size1000
  have s16 := size16
  have wf := webs_fin x0 ha
  have nf := nums_fin x1 hb
  have cf := facs_fin x2 hc
  have oka := okB_okv (M := M) wf.1
  have okb := okB_okv (M := M) nf.1
  have okc := okB_okv (M := M) cf.1
  refine s_hide fun R1 hR1 => ?_
  simp
  refine pr1_at.mpr ⟨oka, ?_⟩
  show R1 _ _ _
  subst hR1
  refine s_hide fun R1 hR1 => ?_
  simp only [sSeq, sPar]
  refine va_pure (d := .lst ((dH x0).map dueD)) (fun Q q => by simp [dH, dueD] at q ⊢; exact q) ?_
  refine va_pure (d := .int (many x0)) (fun Q q => ?_) ?_
  · cases e : webB x0 with
    | false =>
      have em : many x0 = 1 := by unfold many; rw [e]; rfl
      rw [em] at q
      simp [e]
      exact q
    | true =>
      obtain ⟨n, ds, ea, _⟩ := web_ex e
      have em : many x0 = ds.length := by unfold many; rw [if_pos e, ea, lenW_web]
      rw [em] at q
      simp [e, ea, webD]
      exact q
  simp only [vaNil]
  refine ⟨_, _, rfl, ?_⟩
  show R1 _ [some x0, some x1, some x2, some (.bl (webB x0)), some (.lst ((dH x0).map dueD)), some (.int (many x0)), none, none, none, none, none, none, none, none, none, none] M
  subst hR1
  refine s_hide fun R1 hR1 => ?_
  have go1 : R1 { nx := fun x M' => ∃ M'', VL.Sub M'' M' ∧ Q D.non M'', rt := fun d M' => ∃ M'', VL.Sub M'' M' ∧ Q d M'' } [some x0, some x1, some x2, some (.bl (webB x0)), some (.lst ((dH x0).map dueD)), some (.int (many x0)), some (.bl (numB (many x0) x1)), none, none, none, none, none, none, none, none, none] M := by
    subst hR1
    refine s_hide fun R1 hR1 => ?_
    simp
    refine ⟨(by simp [dH] <;> omega), ?_⟩
    show R1 _ [some x0, some x1, some x2, some (.bl (webB x0)), some (.lst ((dH x0).map dueD)), some (.int (many x0)), some (.bl (numB (many x0) x1)), some (.lst ((dN x0 x1).map dueD)), none, none, none, none, none, none, none, none] M
    subst hR1
    refine s_hide fun R1 hR1 => ?_
    have go2 : R1 { nx := fun x M' => ∃ M'', VL.Sub M'' M' ∧ Q D.non M'', rt := fun d M' => ∃ M'', VL.Sub M'' M' ∧ Q d M'' } [some x0, some x1, some x2, some (.bl (webB x0)), some (.lst ((dH x0).map dueD)), some (.int (many x0)), some (.bl (numB (many x0) x1)), some (.lst ((dN x0 x1).map dueD)), some (.lst ((dF x0 x2).map dueD)), none, none, none, none, none, none, none] M := by
      subst hR1
      refine s_hideIf fun b1 hb1 R1 hR1 => ?_
      have go3 : ∀ N : Mem, VL.Sub M N → R1 { nx := fun x M' => ∃ M'', VL.Sub M'' M' ∧ Q D.non M'', rt := fun d M' => ∃ M'', VL.Sub M'' M' ∧ Q d M'' } [some x0, some x1, some x2, some (.bl (webB x0)), some (.lst ((dH x0).map dueD)), some (.int (many x0)), some (.bl (numB (many x0) x1)), some (.lst ((dN x0 x1).map dueD)), some (.lst ((dF x0 x2).map dueD)), none, none, none, none, none, none, none] N := fun N hN => by
        subst hR1
        refine s_hide fun R1 hR1 => ?_
        simp
        intro q hqn
        have qM : M q = none := by
          cases e : M q with
          | none => rfl
          | some o => rw [hN q o e] at hqn; cases hqn
        have qP : tA K "_law_are_right" ≠ q := fun e => by rw [← e, hN _ _ hT] at hqn; cases hqn
        have st : LSt LM "_law_are_right" M (tA K "_law_are_right") q [] (mupd N q (.lst [])) := ⟨fun a o ha => by rw [mupd_ne (fun e => by rw [e, qM] at ha; cases ha)]; exact hN a o ha, by rw [mupd_ne qP]; exact hN _ _ hT, mupd_same, qM, fun z hz => nomatch hz⟩
        show R1 _ [some x0, some x1, some x2, some (.bl (webB x0)), some (.lst ((dH x0).map dueD)), some (.int (many x0)), some (.bl (numB (many x0) x1)), some (.lst ((dN x0 x1).map dueD)), some (.lst ((dF x0 x2).map dueD)), some (.obj q), none, none, none, none, none, none] _
        generalize mupd N q (.lst []) = N at st ⊢
        clear hqn
        subst hR1
        refine s_hide fun R1 hR1 => ?_
        simp only [sSeq, sDrop]
        refine look_add (j := 9) (w := lam1__law_are_right K) (d := (.lst ((dN x0 x1).map dueD))) (ds := (dN x0 x1)) (by simp) rfl st rfl (fun e => by cases e) (fun N' R r => ⟨_, rfl, r⟩) fun f1 N1 st => ?_
        show R1 _ _ _
        subst hR1
        refine s_hide fun R1 hR1 => ?_
        simp only [sSeq, sDrop]
        refine look_add (j := 9) (w := lam2__law_are_right K) (d := (.lst ((dN x0 x1).map dueD))) (ds := (dN x0 x1)) (by simp) rfl st rfl (fun e => by cases e) (fun N' R r => ⟨_, rfl, r⟩) fun f2 N2 st => ?_
        show R1 _ _ _
        subst hR1
        refine s_hide fun R1 hR1 => ?_
        simp only [sSeq, sDrop]
        refine look_add (j := 9) (w := lam3__law_are_right K) (d := (.lst ((dN x0 x1).map dueD))) (ds := (dN x0 x1)) (by simp) rfl st rfl (fun e => by cases e) (fun N' R r => ⟨_, rfl, r⟩) fun f3 N3 st => ?_
        show R1 _ _ _
        subst hR1
        refine s_hide fun R1 hR1 => ?_
        simp only [sSeq, sDrop]
        refine look_add (j := 9) (w := lam4__law_are_right K) (d := (.lst ((dH x0).map dueD))) (ds := (dH x0)) (by simp) rfl st rfl (fun e => by cases e) (fun N' R r => ⟨_, rfl, r⟩) fun f4 N4 st => ?_
        show R1 _ _ _
        subst hR1
        refine s_hide fun R1 hR1 => ?_
        simp only [sSeq, sDrop]
        refine look_add (j := 9) (w := lam5__law_are_right K) (d := (.lst ((dH x0).map dueD))) (ds := (dH x0)) (by simp) rfl st rfl (fun e => by cases e) (fun N' R r => ⟨_, rfl, r⟩) fun f5 N5 st => ?_
        show R1 _ _ _
        subst hR1
        refine s_hide fun R1 hR1 => ?_
        simp only [sSeq, sDrop]
        refine look_add (j := 9) (w := lam6__law_are_right K) (d := (.lst ((dH x0).map dueD))) (ds := (dH x0)) (by simp) rfl st rfl (fun e => by cases e) (fun N' R r => ⟨_, rfl, r⟩) fun f6 N6 st => ?_
        show R1 _ _ _
        subst hR1
        refine s_hide fun R1 hR1 => ?_
        simp only [sSeq, sDrop]
        refine look_add (j := 9) (w := lam7__law_are_right K) (d := (.lst ((dH x0).map dueD))) (ds := (dH x0)) (by simp) rfl st rfl (fun e => by cases e) (fun N' R r => ⟨_, rfl, r⟩) fun f7 N7 st => ?_
        show R1 _ _ _
        subst hR1
        refine s_hide fun R1 hR1 => ?_
        simp only [sSeq, sDrop]
        refine look_add (j := 9) (w := lam8__law_are_right K) (d := (.lst ((dH x0).map dueD))) (ds := (dH x0)) (by simp) rfl st rfl (fun e => by cases e) (fun N' R r => ⟨_, rfl, r⟩) fun f8 N8 st => ?_
        show R1 _ _ _
        subst hR1
        refine s_hide fun R1 hR1 => ?_
        simp only [sSeq, sDrop]
        refine look_add (j := 9) (w := lam9__law_are_right K) (d := (.lst ((dH x0).map dueD))) (ds := (dH x0)) (by simp) rfl st rfl (fun e => by cases e) (fun N' R r => ⟨_, rfl, r⟩) fun f9 N9 st => ?_
        show R1 _ _ _
        subst hR1
        refine s_hide fun R1 hR1 => ?_
        simp only [sSeq, sDrop]
        refine look_add (j := 9) (w := lam10__law_are_right K) (d := (.lst ((dH x0).map dueD))) (ds := (dH x0)) (by simp) rfl st rfl (fun e => by cases e) (fun N' R r => ⟨_, rfl, r⟩) fun f10 N10 st => ?_
        show R1 _ _ _
        subst hR1
        simp only [List.nil_append, List.cons_append] at st
        simp
        obtain ⟨zs, hzs⟩ : ∃ zs : List Look, zs = [(f1, lam1__law_are_right K, (.lst ((dN x0 x1).map dueD)), (dN x0 x1)), (f2, lam2__law_are_right K, (.lst ((dN x0 x1).map dueD)), (dN x0 x1)), (f3, lam3__law_are_right K, (.lst ((dN x0 x1).map dueD)), (dN x0 x1)), (f4, lam4__law_are_right K, (.lst ((dH x0).map dueD)), (dH x0)), (f5, lam5__law_are_right K, (.lst ((dH x0).map dueD)), (dH x0)), (f6, lam6__law_are_right K, (.lst ((dH x0).map dueD)), (dH x0)), (f7, lam7__law_are_right K, (.lst ((dH x0).map dueD)), (dH x0)), (f8, lam8__law_are_right K, (.lst ((dH x0).map dueD)), (dH x0)), (f9, lam9__law_are_right K, (.lst ((dH x0).map dueD)), (dH x0)), (f10, lam10__law_are_right K, (.lst ((dH x0).map dueD)), (dH x0))] := ⟨_, rfl⟩
        have zl : zs.length = 10 := by rw [hzs]; rfl
        have zin : ∀ z ∈ zs, z.2.1 ∈ lams__law_are_right K := fun z hz => by
          rw [hzs] at hz
          simp only [List.mem_cons, List.not_mem_nil, or_false] at hz ⊢
          rcases hz with rfl | rfl | rfl | rfl | rfl | rfl | rfl | rfl | rfl | rfl <;> simp
        rw [← hzs] at st
        obtain ⟨e0, he0⟩ : ∃ e0 : VEnv, e0 = [some x0, some x1, some x2, some (.bl (webB x0)), some (.lst ((dH x0).map dueD)), some (.int (many x0)), some (.bl (numB (many x0) x1)), some (.lst ((dN x0 x1).map dueD)), some (.lst ((dF x0 x2).map dueD)), some (.obj q), none, none, none, none, none, none] := ⟨_, rfl⟩
        have tok : ∀ z ∈ zs, Tok K e0 z := by
          intro z hz
          rw [hzs] at hz
          simp only [List.mem_cons, List.not_mem_nil, or_false] at hz
          rcases hz with rfl | rfl | rfl | rfl | rfl | rfl | rfl | rfl | rfl | rfl
          · refine ⟨by simp [dN, dH], (fin_N ha hb), fun N ok er h0 h1 => ?_⟩
            unfold lam1__law_are_right
            dsimp only
            rw [lamZ_t, he0]
            refine ⟨_, rfl, _, rfl, (show px_room_sums K [x0, x1] N (fun _ M' => ok M') er from ?_)⟩
            rcases tN (K := K) (N := N) (ok := ok) (er := er) ha hb (fun e => h0 e N Sub.refl) h1 with ⟨n, ds, ns, e1, e2, wok, hn, o⟩ | bad
            · exact por_l (pr2_at.mpr ⟨n, ds, ns, e1, e2, wok, hn, o⟩)
            · exact por_r (prx2_at.mpr bad)
          · refine ⟨by simp [dN, dH], (fin_N ha hb), fun N ok er h0 h1 => ?_⟩
            unfold lam2__law_are_right
            dsimp only
            rw [lamZ_t, he0]
            refine ⟨_, rfl, _, rfl, (show px_alike_told K [x0, x1] N (fun _ M' => ok M') er from ?_)⟩
            rcases tN (K := K) (N := N) (ok := ok) (er := er) ha hb (fun e => h0 e N Sub.refl) h1 with ⟨n, ds, ns, e1, e2, wok, hn, o⟩ | bad
            · exact por_l (pr2_at.mpr ⟨n, ds, ns, e1, e2, wok, hn, o⟩)
            · exact por_r (prx2_at.mpr bad)
          · refine ⟨by simp [dN, dH], (fin_N ha hb), fun N ok er h0 h1 => ?_⟩
            unfold lam3__law_are_right
            dsimp only
            rw [lamZ_t, he0]
            refine ⟨_, rfl, _, rfl, (show px_shows_alike K [x0, x1, .non] N (fun _ M' => ok M') er from ?_)⟩
            rcases tN (K := K) (N := N) (ok := ok) (er := er) ha hb (fun e => h0 e N Sub.refl) h1 with ⟨n, ds, ns, e1, e2, wok, hn, o⟩ | bad
            · exact por_l (pr3_at.mpr ⟨n, ds, ns, e1, e2, rfl, wok, hn, o⟩)
            · exact por_r (prx3_at.mpr bad)
          · refine ⟨by simp [dN, dH], (fin_H ha), fun N ok er h0 h1 => ?_⟩
            unfold lam4__law_are_right
            dsimp only
            rw [lamZ_t, he0]
            refine ⟨_, rfl, (show px_is_factor K [x0, .non] N (fun _ M' => ok M') er from ?_)⟩
            rcases tH (K := K) (N := N) (ok := ok) (er := er) ha (fun e => h0 e N Sub.refl) h1 with ⟨n, ds, rows, e1, tw, o⟩ | bad
            · exact por_l (pr2_at.mpr ⟨n, ds, e1, (two_ok tw).1, by unfold Okv; trivial, o⟩)
            · exact por_r (prx2_at.mpr bad)
          · refine ⟨by simp [dN, dH], (fin_H ha), fun N ok er h0 h1 => ?_⟩
            unfold lam5__law_are_right
            dsimp only
            rw [lamZ_t, he0]
            refine ⟨_, rfl, (show px_factors K [x0] N (fun _ M' => ok M') er from ?_)⟩
            rcases tH (K := K) (N := N) (ok := ok) (er := er) ha (fun e => h0 e N Sub.refl) h1 with ⟨n, ds, rows, e1, tw, o⟩ | bad
            · exact por_l (pr1_at.mpr ⟨n, ds, e1, (two_ok tw).1, by have := (two_ok tw).2; omega, o⟩)
            · exact por_r (prx1_at.mpr bad)
          · refine ⟨by simp [dN, dH], (fin_H ha), fun N ok er h0 h1 => ?_⟩
            unfold lam6__law_are_right
            dsimp only
            rw [lamZ_t, he0]
            refine ⟨_, rfl, (show px_web_told K [x0] N (fun _ M' => ok M') er from ?_)⟩
            rcases tH (K := K) (N := N) (ok := ok) (er := er) ha (fun e => h0 e N Sub.refl) h1 with ⟨n, ds, rows, e1, tw, o⟩ | bad
            · exact por_l (pr1_at.mpr ⟨n, ds, rows, e1, tw, fun _ => o⟩)
            · exact por_r (prx1_at.mpr bad)
          · refine ⟨by simp [dN, dH], (fin_H ha), fun N ok er h0 h1 => ?_⟩
            unfold lam7__law_are_right
            dsimp only
            rw [lamZ_t, he0]
            refine ⟨_, rfl, (show px_shows_web K [x0, .non] N (fun _ M' => ok M') er from ?_)⟩
            rcases tH (K := K) (N := N) (ok := ok) (er := er) ha (fun e => h0 e N Sub.refl) h1 with ⟨n, ds, rows, e1, tw, o⟩ | bad
            · exact por_l (pr2_at.mpr ⟨n, ds, rows, e1, rfl, tw, fun _ => o⟩)
            · exact por_r (prx2_at.mpr bad)
          · refine ⟨by simp [dN, dH], (fin_H ha), fun N ok er h0 h1 => ?_⟩
            unfold lam8__law_are_right
            dsimp only
            rw [lamZ_t, he0]
            refine ⟨_, rfl, (show px_even_told K [x0] N (fun _ M' => ok M') er from ?_)⟩
            rcases tH (K := K) (N := N) (ok := ok) (er := er) ha (fun e => h0 e N Sub.refl) h1 with ⟨n, ds, rows, e1, tw, o⟩ | bad
            · exact por_l (pr1_at.mpr ⟨n, ds, rows, e1, tw, fun _ => o⟩)
            · exact por_r (prx1_at.mpr bad)
          · refine ⟨by simp [dN, dH], (fin_H ha), fun N ok er h0 h1 => ?_⟩
            unfold lam9__law_are_right
            dsimp only
            rw [lamZ_t, he0]
            refine ⟨_, rfl, (show px_shows_even K [x0, .non] N (fun _ M' => ok M') er from ?_)⟩
            rcases tH (K := K) (N := N) (ok := ok) (er := er) ha (fun e => h0 e N Sub.refl) h1 with ⟨n, ds, rows, e1, tw, o⟩ | bad
            · exact por_l (pr2_at.mpr ⟨n, ds, rows, e1, rfl, tw, fun _ => o⟩)
            · exact por_r (prx2_at.mpr bad)
          · refine ⟨by simp [dN, dH], (fin_H ha), fun N ok er h0 h1 => ?_⟩
            unfold lam10__law_are_right
            dsimp only
            rw [lamZ_t, he0]
            refine ⟨_, rfl, (show px_space K [x0] N (fun _ M' => ok M') er from ?_)⟩
            rcases tH (K := K) (N := N) (ok := ok) (er := er) ha (fun e => h0 e N Sub.refl) h1 with ⟨n, ds, rows, e1, tw, o⟩ | bad
            · exact por_l (pr1_at.mpr ⟨n, ds, e1, (two_ok tw).1, o⟩)
            · exact por_r (prx1_at.mpr bad)
        rw [← he0]
        show vLc _ _ _ _ _ _ _ _
        refine vLc_run zs lkD (fun i acc N => LSt LM "_law_are_right" M (tA K "_law_are_right") q zs N ∧ acc = List.replicate i (.bl true)) (w := ⟨zs.map lkD, fun N => asI N (.obj q) = some (zs.map lkD)⟩) (fun R r => ?_) rfl (by omega) (fun i acc N hp => by simp [asI, asL_obj hp.1.2.2.1]) ⟨st, rfl⟩ (fun i z acc N hz hi hacc ⟨stN, ha⟩ A hA => ?_) (fun acc N hacc ⟨stN, ha⟩ => ?_)
        · rw [he0]
          exact ⟨_, rfl, _, by simp [asI, asL_obj st.2.2.1], r⟩
        · obtain ⟨t1, t2, t3⟩ := tok z (List.mem_of_getElem? hz)
          have sz3 := stN.2.2.2.2 z (List.mem_of_getElem? hz)
          rw [he0]
          simp [vwipe, lkD]
          rw [← he0]
          refine ⟨_, rfl, _, rfl, z.1, _, z.2.1, rfl, zin z (List.mem_of_getElem? hz), sz3.1, ?_⟩
          have fin : ∀ N', VL.Sub N N' → A (.bl true) N' := fun N' hs => hA _ _ ⟨stN.ext hs, by rw [ha, List.replicate_succ']⟩
          refine t3 N _ _ (fun hf N' hs => ?_) (fun d hd u hu hud => ?_)
          · refine pr3_at.mpr ⟨z.2.2.2, asI_sub hs sz3.2.2.1, t1, fun d hd => (t2 d hd).1, fin N' hs, ?_⟩
            rw [hf]
          · have hu2 : u.2 ∈ exs := by
              simp only [six, List.mem_cons, List.not_mem_nil, or_false] at hu
              rcases hu with rfl | rfl | rfl <;> decide +kernel
            refine ⟨xt.exm _ hu2, pr3_at.mpr ⟨z.2.2.2, sz3.2.2.1, t1, fun d hd => (t2 d hd).1, fin N Sub.refl, ?_⟩⟩
            rw [hd]
            exact ⟨u, hu, hud, rfl⟩
        · rw [ha]
          simp only [VL.rAll]
          refine ⟨List.replicate zs.length true, by simp [asL], ?_⟩
          simp
          exact ⟨M, stN.1, h⟩
      simp only [sSeq, sIf, vAndT, vNotT, vTest, vCall, vaCons, vaNil]

      refine vLc_al (dF x0 x2) dueD (fun z => .bl z.2.2) (w := ⟨(dF x0 x2).map dueD, fun _ => True⟩) (fun R r => ?_) rfl trivial (by simp [dF, dH]; omega) (fun z hz A hA => ?_) ?_
      · simpa [asI] using r
      · simp [vwipe, dueD]
        exact hA
      refine (show rAll _ _ _ from ⟨(dF x0 x2).map fun z => z.2.2, by simp [asL, Function.comp_def], ?_⟩)
      rw [show ((dF x0 x2).map fun z : Due => z.2.2).all id = (webB x0 && facL x0 x2) by simp [dF, dH]]
      refine ⟨_, rfl, ?_⟩
      cases eb : webB x0 && facL x0 x2 with
      | true => exact go3 M VL.Sub.refl
      | false =>
        rw [if_pos (by rfl)]
        refine ⟨hT, fun f hf => ⟨_, rfl, f, _, lam0__law_are_right K, rfl, by simp, mupd_same, ?_⟩⟩
        have hN2 : VL.Sub M (mupd M f (LM (lam0__law_are_right K) f)) := VL.Sub.new hf
        generalize mupd M f (LM (lam0__law_are_right K) f) = N2 at hN2 ⊢
        unfold lam0__law_are_right
        rw [lamZ_t]
        have done : ∀ z, fw (dF x0 x2) = some z → (∃ u ∈ six, u.1 = z.1) → True := fun _ _ _ => trivial
        have due : ∀ (u : Str × Str) (v : D), u ∈ six → fw (dF x0 x2) = some (u.1, v, false) → PySem.W.exmOne K (.ref (He.ga K u.2)) (.ref (dE K)) = some true ∧ ps__law_is_due K [.obj f, .lst ((dF x0 x2).map dueD), .exc (He.ga K u.2) v] N2 fun d M' => ∃ k, d = D.bl k ∧ (if (!k) = true then b1 { nx := R1 { nx := fun x M' => ∃ M'', VL.Sub M'' M' ∧ Q D.non M'', rt := fun d M' => ∃ M'', VL.Sub M'' M' ∧ Q d M'' }, rt := fun d M' => ∃ M'', VL.Sub M'' M' ∧ Q d M'' } [some x0, some x1, some x2, some (.bl (webB x0)), some (.lst ((dH x0).map dueD)), some (.int (many x0)), some (.bl (numB (many x0) x1)), some (.lst ((dN x0 x1).map dueD)), some (.lst ((dF x0 x2).map dueD)), none, none, none, none, none, none, none] M' else sNext { nx := R1 { nx := fun x M' => ∃ M'', VL.Sub M'' M' ∧ Q D.non M'', rt := fun d M' => ∃ M'', VL.Sub M'' M' ∧ Q d M'' }, rt := fun d M' => ∃ M'', VL.Sub M'' M' ∧ Q d M'' } [some x0, some x1, some x2, some (.bl (webB x0)), some (.lst ((dH x0).map dueD)), some (.int (many x0)), some (.bl (numB (many x0) x1)), some (.lst ((dN x0 x1).map dueD)), some (.lst ((dF x0 x2).map dueD)), none, none, none, none, none, none, none] M') := fun u v hu hfw => by
          have hu2 : u.2 ∈ exs := by
            simp only [six, List.mem_cons, List.not_mem_nil, or_false] at hu
            rcases hu with rfl | rfl | rfl <;> decide +kernel
          refine ⟨xt.exm _ hu2, pr3_at.mpr ⟨dF x0 x2, rfl, by simp [dF, dH], fun d hd => (fin_F ha hc d hd).1, ⟨_, rfl, go3 _ hN2⟩, ?_⟩⟩
          rw [hfw]
          exact ⟨u, hu, rfl, rfl⟩
        refine ⟨_, rfl, _, rfl, (show px_factor_numbers K [x0, x2] N2 _ _ from prx2_at.mpr ⟨okB_okv wf.1, okB_okv cf.1, fun e => ?_, fun n ds e1 wok => ?_⟩)⟩
        · exact due ("web", "BadWeb") x0 (by simp [six]) (by simp [fw, dF, dH, e])
        · have wt : webB x0 = true := by rw [e1]; exact web_iff.mpr wok
          have ef : facL x0 x2 = false := by rw [wt, Bool.true_and] at eb; exact eb
          refine ⟨?_, due ("factor", "BadFactor") x2 (by simp [six]) (by simp [fw, dF, dH, wt, ef])⟩
          rcases webs_two x0 ha wt with e2 | e2
          · rw [e2] at e1 ef
            obtain ⟨rfl, rfl⟩ := webD_inj e1
            have := facs_w1 x2 hc
            rw [ef, Bool.false_or, Bool.not_eq_true'] at this
            exact this
          · rw [e2] at e1
            obtain ⟨rfl, rfl⟩ := webD_inj e1
            have := facs_w2 x2 hc
            rw [Bool.and_eq_true, Bool.not_eq_true', Bool.not_eq_true'] at this
            exact this.2
    simp
    have edF : (dF x0 x2).map dueD = (dH x0).map dueD ++ [.tup [.str "factor", x2, .bl (facL x0 x2)]] := by simp [dF, dueD]
    refine repr_small cf.1 cf.2.2 (.inl ⟨_, _, rfl, rfl, ?_⟩)
    cases e1 : decide ((py x2).shown = "((0,), ())") with
    | false =>
      have ef : facL x0 x2 = false := by unfold facL; rw [e1]; rfl
      rw [edF, ef] at go2
      exact .inl ⟨rfl, (by simp [dH] <;> omega), go2⟩
    | true =>
      have ef : facL x0 x2 = decide ((py x0).shown = "(2, ((0, 1),))") := by unfold facL; rw [e1, Bool.true_and]
      rw [edF, ef] at go2
      exact .inr ⟨rfl, repr_small wf.1 wf.2.2 (.inl ⟨_, _, rfl, rfl, (by simp [dH] <;> omega), go2⟩)⟩
  simp only [sSeq, sAsg, vAnd]
  refine isi_tuple x1 (fun R r => ⟨_, rfl, r⟩) okb ⟨_, rfl, ?_⟩
  have bad : numB (many x0) x1 = false → R1 { nx := fun x M' => ∃ M'', VL.Sub M'' M' ∧ Q D.non M'', rt := fun d M' => ∃ M'', VL.Sub M'' M' ∧ Q d M'' } [some x0, some x1, some x2, some (.bl (webB x0)), some (.lst ((dH x0).map dueD)), some (.int (many x0)), some (.bl false), none, none, none, none, none, none, none, none, none] M := fun e => by rw [e] at go1; exact go1
  cases x1 with
  | tup xs =>
    have en : numB (many x0) (.tup xs) = ((xs.all (btw (-1000000000) 1000000000)) && decide (xs.length = many x0)) := rfl
    have okx := okvs_mem (by unfold Okv at okb; exact okb.2 : Okvs M xs)
    have xl : xs.length ≤ 1000 := by unfold Okv at okb; have := okb.1; omega
    simp [isTuple]
    by_cases e : xs.length = many x0
    · refine .inr ⟨by omega, ?_⟩
      refine vLc_al xs (fun d => d) (fun d => .bl (btw (-1000000000) 1000000000 d)) (w := ⟨xs, fun _ => True⟩) (fun R r => by simpa [asI] using r) (by simp) trivial (by omega) (fun d hd A hA => ?_) ?_
      · have p9 : PowOk 10 9 := by unfold PowOk; decide +kernel
        simp [vwipe]
        exact ⟨p9, pr3_at.mpr ⟨-1000000000, 1000000000, okx d hd, rfl, rfl, hA⟩⟩
      · refine (show rAll _ _ _ from ⟨xs.map (btw (-1000000000) 1000000000), by simp [asL, Function.comp_def], ?_⟩)
        rw [List.all_map, show (id ∘ btw (-1000000000) 1000000000) = btw (-1000000000) 1000000000 from rfl]
        rw [en, decide_eq_true e, Bool.and_true] at go1
        exact go1
    · refine .inl ⟨by omega, bad ?_⟩
      rw [en, decide_eq_false e, Bool.and_false]
  | _ =>
    simp [isTuple]
    exact bad rfl
end K53
namespace K53
open PySem PySem.Spec L2 VL
abbrev N__law_right : List Str := ["pot", "lap", "webs", "web", "numbers", "factor"]
abbrev P__law_right : List Str := ["pot"]
theorem sc__law_right : FnScope N__law_right P__law_right (defScope s__law_right) := ⟨rfl, rfl, rfl, by decide +kernel, rfl, by decide +kernel, by decide +kernel⟩
def p__law_right (K : PySem.W.Frag) : VSp := pr1 fun a M Q => ∃ (p : Addr) (l : List D) (B : Nat), a = .obj p ∧ M p = some (.lst l) ∧ Pot B l ∧ B < 700000 ∧ M (tA K "_law_are_right") = some (.tb (lamQ "_law_are_right")) ∧
  ∀ l', Pot (B + 30) l' → Q (.bl true) (mupd M p (.lst l'))
theorem ok__law_right {P : Program} {w : World} {K : PySem.W.Frag} {mg : Str → Option Value} {base : Heap} (hD : Df K mg "_law_right" s__law_right) (hB : Fr mg bl) (k__law_of : Kn P w K mg base 2 "_law_of" P__law_of p__law_of) (k__law_are_right : Kn P w K mg base 12 "_law_are_right" P__law_are_right (p__law_are_right K)) : Kn P w K mg base 13 "_law_right" P__law_right (p__law_right K) := by
  have S := sc__law_right
  refine kn_of hD sc__law_right (fun _ _ _ _ _ _ us hl => match us, hl with | [_], _ => rfl) pr1_len ?_
  intro f cdv A outer s H E hr
  refine ⟨_, (vss_cons (vs_for PassesOwn.never rfl (vi_range1 (hB _ (by decide +kernel)) (va_cons v_int va_nil)) (vg_name (pg_name (i := 1) S.nd rfl (by first | exact Or.inl rfl | exact Or.inr rfl))) (vss_cons (vs_set (i := 2) S.nd rfl (Or.inl rfl) (v_lst (va_cons (v_tup (va_cons v_int (va_cons (v_tup (va_cons (v_tup (va_cons v_int (va_cons v_int va_nil))) va_nil)) va_nil))) (va_cons (v_tup (va_cons v_int (va_cons (v_tup (va_cons (v_tup (va_cons v_int (va_cons v_int va_nil))) (va_cons (v_tup (va_cons v_int (va_cons v_int va_nil))) va_nil))) va_nil))) (va_cons (v_tup (va_cons v_int (va_cons (v_tup va_nil) va_nil))) (va_cons (v_tup (va_cons v_int (va_cons (v_tup (va_cons (v_tup (va_cons v_int (va_cons v_int va_nil))) va_nil)) va_nil))) (va_cons (v_tup (va_cons v_int (va_cons (v_tup va_nil) va_nil))) (va_cons (v_tup (va_cons v_int (va_cons (v_tup (va_cons (v_tup (va_cons v_int (va_cons v_int va_nil))) va_nil)) va_nil))) (va_cons (v_tup (va_cons v_int (va_cons (v_tup (va_cons (v_tup (va_cons v_int (va_cons v_int va_nil))) (va_cons (v_tup (va_cons v_int (va_cons v_int va_nil))) va_nil))) va_nil))) (va_cons (v_tup (va_cons v_int (va_cons (v_tup (va_cons (v_tup (va_cons v_int (va_cons v_int va_nil))) (va_cons (v_tup (va_cons v_int (va_cons v_int va_nil))) va_nil))) va_nil))) va_nil)))))))))) (vss_cons (vs_set (i := 3) S.nd rfl (Or.inl rfl) (v_callK k__law_of hr (va_cons (v_var (pv 0)) (va_cons (v_op o_add (v_var (pv 2)) (v_lst (va_cons (v_tup (va_cons v_int (va_cons (v_tup (va_cons (v_tup (va_cons v_int (va_cons v_int va_nil))) va_nil)) va_nil))) (va_cons (v_lst (va_cons v_int (va_cons (v_tup (va_cons (v_tup (va_cons v_int (va_cons v_int va_nil))) va_nil)) va_nil))) (va_cons v_non (va_cons (v_tup (va_cons v_bl (va_cons (v_tup (va_cons (v_tup (va_cons v_int (va_cons v_int va_nil))) va_nil)) va_nil))) (va_cons (v_tup (va_cons v_int (va_cons (v_callTy c_tuple (hB _ (by decide +kernel)) (va_cons (v_op o_rep (v_lst (va_cons (v_tup (va_cons v_int (va_cons v_int va_nil))) va_nil)) v_int) va_nil)) va_nil))) va_nil))))))) va_nil)))) (vss_cons (vs_set (i := 4) S.nd rfl (Or.inl rfl) (v_callK k__law_of hr (va_cons (v_var (pv 0)) (va_cons (v_lst (va_cons (v_tup (va_cons v_int va_nil)) (va_cons (v_tup (va_cons v_int (va_cons v_int va_nil))) (va_cons (v_tup (va_cons v_int (va_cons (v_un o_neg v_int) va_nil))) (va_cons (v_tup va_nil) (va_cons (v_tup (va_cons (v_op o_add (v_op o_pow v_int v_int) v_int) va_nil)) (va_cons (v_lst (va_cons v_int va_nil)) (va_cons v_non (va_cons (v_tup (va_cons v_bl va_nil)) (va_cons (v_tup (va_cons v_str va_nil)) va_nil)))))))))) va_nil)))) (vss_cons (vs_set (i := 5) S.nd rfl (Or.inl rfl) (v_callK k__law_of hr (va_cons (v_var (pv 0)) (va_cons (v_lst (va_cons (v_tup (va_cons (v_tup (va_cons v_int va_nil)) (va_cons (v_tup va_nil) va_nil))) (va_cons (v_tup (va_cons (v_tup va_nil) (va_cons (v_tup (va_cons v_int va_nil)) va_nil))) (va_cons (v_tup (va_cons (v_tup va_nil) (va_cons (v_tup va_nil) va_nil))) (va_cons (v_tup (va_cons (v_tup (va_cons v_int (va_cons v_int va_nil))) (va_cons (v_tup va_nil) va_nil))) (va_cons (v_tup (va_cons (v_tup (va_cons v_int va_nil)) (va_cons (v_tup va_nil) va_nil))) (va_cons (v_lst (va_cons (v_tup (va_cons v_int va_nil)) (va_cons (v_tup va_nil) va_nil))) (va_cons v_non (va_cons (v_tup (va_cons (v_tup (va_cons v_bl va_nil)) (va_cons (v_tup va_nil) va_nil))) va_nil))))))))) va_nil)))) (vss_one (vs_if (t_not (t_val (v_callK k__law_are_right hr (va_cons (v_var (pv 3)) (va_cons (v_var (pv 4)) (va_cons (v_var (pv 5)) va_nil)))))) (vss_one (vs_ret v_bl)) vss_nil))))))) (vss_one (vs_ret v_bl))), ?_⟩
  clear hr S
  rintro _ M Q ⟨x0, rfl, h⟩
  rw [show vstart N__law_right.length [x0] = [some x0, none, none, none, none, none] from rfl]
  obtain ⟨p, l, B, rfl, hM, hl, hB, hT, h⟩ := h
  have sz := size1000
  have s16 := size16
  have np : tA K "_law_are_right" ≠ p := fun e => by rw [e, hM] at hT; cases hT
  refine s_hide fun R1 hR1 => ?_
  refine sFor_al (List.range 10) (fun i : Nat => .int (0 + ((i : Nat) : Int))) (fun i e N => ∃ l', N = mupd M p (.lst l') ∧ Pot (B + 3 * i) l' ∧ ∃ d1 d2 d3 d4 d5, e = [some (.obj p), d1, d2, d3, d4, d5]) (w := ⟨rgD 0 10, fun _ => True⟩) (fun R r => ?_) rfl ⟨l, (mupd_self hM).symm, hl, _, _, _, _, _, rfl⟩ (fun _ _ _ _ _ => trivial) (fun i x e N hx hi ⟨l', hN, hl', d1, d2, d3, d4, d5, he⟩ => ?_) (fun e N ⟨l', hN, hl', d1, d2, d3, d4, d5, he⟩ => ?_)
  · simpa using r
  · subst hN he
    have hi' : i < 10 := by simpa using hi
    have Np : mupd M p (.lst l') p = some (.lst l') := mupd_same
    have NT : ∀ l, mupd M p (.lst l) (tA K "_law_are_right") = some (.tb (lamQ "_law_are_right")) := fun l => by rw [mupd_ne np]; exact hT
    have p9 : PowOk 10 9 := by unfold PowOk; decide +kernel
    have draw : ∀ (l0 : List D) (Bk : Nat) (xs : List D) (A : VL.VK), Pot Bk l0 → Bk < 800000 → 0 < xs.length → xs.length ≤ 100 → (∀ d ∈ xs, ∀ l', Pot (Bk + 1) l' → A d (mupd M p (.lst l'))) → p__law_of [.obj p, .lst xs] (mupd M p (.lst l0)) A := fun l0 Bk xs A h1 h2 h3 h4 h5 =>
      pr2_at.mpr ⟨p, l0, xs, Bk, rfl, mupd_same, fun _ => ⟨rfl, fun _ => rfl⟩, h1, by omega, h3, by omega, fun d l' hd hl' => by rw [mupd_mupd]; exact h5 d hd l' hl'⟩
    refine g_hide fun R2 hR2 => ?_
    simp
    show R2 _ [some (.obj p), some (.int x), some (.lst (websL.take 8)), d3, d4, d5] (mupd M p (.lst l'))
    subst hR2
    refine s_hide fun R2 hR2 => ?_
    simp only [sSeq, sAsg, vFn]
    refine va_pure (d := .obj p) (fun Q q => ⟨_, rfl, q⟩) ?_
    refine va_pure (d := .lst websL) (fun Q q => ?_) ?_
    · simp [websL]
      refine (show oRep _ _ _ _ from ⟨[.tup [.int 0, .int 1]], 17, rfl, rfl, by decide, by decide, by decide, ?_⟩)
      refine (show rTuple _ _ _ from ⟨_, rfl, ?_⟩)
      exact ⟨by omega, q⟩
    simp only [vaNil]
    refine draw _ _ websL _ hl' (by omega) (by decide) (by decide) fun we hwe l1 hl1 => ?_
    show R2 _ _ _
    subst hR2
    refine s_hide fun R2 hR2 => ?_
    simp only [sSeq, sAsg, vFn]
    refine va_pure (d := .obj p) (fun Q q => ⟨_, rfl, q⟩) ?_
    refine va_pure (d := .lst numsL) (fun Q q => ?_) ?_
    · simp
      exact ⟨p9, q⟩
    simp only [vaNil]
    refine draw _ _ numsL _ hl1 (by omega) (by decide) (by decide) fun nu hnu l2 hl2 => ?_
    show R2 _ _ _
    subst hR2
    refine s_hide fun R2 hR2 => ?_
    simp only [sSeq, sAsg, vFn]
    refine va_pure (d := .obj p) (fun Q q => ⟨_, rfl, q⟩) ?_
    refine va_pure (d := .lst facsL) (fun Q q => ?_) ?_
    · simp
      exact q
    simp only [vaNil]
    refine draw _ _ facsL _ hl2 (by omega) (by decide) (by decide) fun fa hfa l3 hl3 => ?_
    show R2 _ _ _
    subst hR2
    simp
    refine pr3_at.mpr ⟨hwe, hnu, hfa, NT _, ?_⟩
    simp
    exact ⟨l3, rfl, by rw [show B + 3 * (i + 1) = B + 3 * i + 1 + 1 + 1 by omega]; exact hl3⟩
  · subst hN he
    subst hR1
    simp
    exact h l' (potUp hl' (by rw [List.length_range]; omega))
end K53
namespace K53
open PySem PySem.Spec L2 VL
abbrev N_law : List Str := ["script", "place"]
abbrev P_law : List Str := ["script"]
theorem sc_law : FnScope N_law P_law (defScope s_law) := ⟨rfl, rfl, rfl, by decide +kernel, rfl, by decide +kernel, by decide +kernel⟩
def p_law (K : PySem.W.Frag) : VSp := pr1 fun a M Q => ∃ (ns : List Int), a = .rd (ns.map D.int) ∧ ns.length ≤ 1000 ∧ M (tA K "_law_are_right") = some (.tb (lamQ "_law_are_right")) ∧ Q (.bl true) M
theorem ok_law {P : Program} {w : World} {K : PySem.W.Frag} {mg : Str → Option Value} {base : Heap} (hD : Df K mg "law" s_law) (hB : Fr mg bl) (k__law_cells : Kn P w K mg base 1 "_law_cells" P__law_cells p__law_cells) (k__law_right : Kn P w K mg base 13 "_law_right" P__law_right (p__law_right K)) (k__law_pot : Kn P w K mg base 1 "_law_pot" P__law_pot p__law_pot) : Kn P w K mg base 14 "law" P_law (p_law K) := by
  have S := sc_law
  refine kn_ofD hD sc_law (fun _ _ _ _ _ _ us hl => match us, hl with | [_], _ => rfl) pr1_len ?_
  intro f cdv A outer s H E hr
  refine ⟨_, (vss_one (vs_ret (v_callB (c_all rfl) (hB _ (by decide +kernel)) (va_cons (v_lc (own := [("place", 1)]) rfl S.nd (vi_seq (v_callK k__law_cells hr (va_cons (v_var (pv 0)) (va_cons v_int va_nil)))) (blkOk_by (by first | rfl | kernel_rfl)) (lcg_name (fun _ _ _ _ _ => pg_name (i := 1) S.nd rfl (by first | exact Or.inl rfl | exact Or.inr rfl))) (fun _ _ _ _ _ => vts_nil) (fun _ _ _ _ _ => (v_callK k__law_right hr (va_cons (v_callK k__law_pot hr (va_cons (v_var (pv 0)) (va_cons (v_var (pv 1)) va_nil))) va_nil)))) va_nil)))), ?_⟩
  clear hr S
  rintro _ M Q ⟨x0, rfl, h⟩
  rw [show vstart N_law.length [x0] = [some x0, none] from rfl]
  obtain ⟨ns, rfl, hl, hT, h⟩ := h
  have sz := size1000
  simp
  refine vLc_of ?_
  simp only [iSeq, vFn, vaCons, vaNil, vVar]
  simp
  refine pr2_at.mpr ⟨ns, 3, rfl, rfl, by decide, fun n hn1 hn2 => ?_⟩
  refine ⟨rgD 0 n, rfl, ?_⟩
  refine ⟨fun i acc N => VL.Sub M N ∧ acc = List.replicate i (.bl true), ⟨Sub.refl, rfl⟩, fun _ _ _ _ _ => rfl, fun i d acc N hd ⟨hs, ha⟩ => ?_, fun acc N ⟨hs, ha⟩ => ?_⟩
  · dsimp only at hd
    have hi : i < n := by
      rcases Nat.lt_or_ge i n with q | q
      · exact q
      · rw [List.getElem?_eq_none (by rw [rgD_len]; exact q)] at hd; cases hd
    rw [rgD_get hi] at hd
    cases hd
    simp [vwipe]
    refine pr2_at.mpr ⟨ns, i, rfl, rfl, by omega, by omega, fun p l hp hl => ?_⟩
    refine pr1_at.mpr ⟨p, l, 0, rfl, mupd_same, hl, by omega, ?_, fun l' hl' => ?_⟩
    · have : tA K "_law_are_right" ≠ p := fun e => by rw [← e, hs _ _ hT] at hp; cases hp
      rw [mupd_ne this]
      exact hs _ _ hT
    · rw [mupd_mupd]
      exact ⟨by rw [ha, List.length_replicate]; omega, hs.trans (VL.Sub.new hp), by rw [ha, List.replicate_succ']⟩
  · dsimp only at ha
    rw [ha]
    simp only [VL.rAll]
    refine ⟨List.replicate n true, by simp [asL, rgD_len], ?_⟩
    simp
    exact ⟨M, hs, h⟩
end K53
namespace K53
open PySem PySem.Spec L2 VL
theorem phi_ok (K : PySem.W.Frag) (ns : List Int) (h : ns.length ≤ 63) (M : Mem) (hT : ∀ x ∈ tf, M (tA K x) = some (.tb (lamQ x))) : p_law K [.rd (ns.map D.int)] M fun d _ => d = .bl true :=
  pr1_at.mpr ⟨ns, rfl, by omega, hT _ (by decide +kernel), rfl⟩
theorem fr_ok {K : PySem.W.Frag} {h : Heap} {mg : Str → Option Value} (X : K.In h) (G : h.Ns mainGlobals mg) (c : He.SaysD fa fn K) : Fr mg bl := fun x hx => by
  have m : He.Fa.free x ∈ fa := by
    have e : fa = (fa.take 47) ++ (bl.map He.Fa.free ++ fa.drop 68) := rfl
    rw [e]
    exact List.mem_append_right _ (List.mem_append_left _ (List.mem_map_of_mem hx))
  obtain ⟨i, hi, e⟩ := List.getElem_of_mem m
  exact He.free_ok X G (c.fact i (f := .free x) (by rw [List.getElem?_eq_getElem hi, e]))
theorem xt_ok {w : World} {K : PySem.W.Frag} {h : Heap} {mg : Str → Option Value} {base : Heap} (X : K.In h) (G : h.Ns mainGlobals mg) (sw : supW K = supV s_init) (sb : supB K (PySem.W.OpenLaw.row PySem.Challenge.rw_everyrowalike_k53_webs_and_numbers_refus).prog.main.file = true) (ex : exsB K exs = true) : ExT (PySem.W.OpenLaw.row PySem.Challenge.rw_everyrowalike_k53_webs_and_numbers_refus).prog w K mg base exs := by
  obtain ⟨cc, ⟨n1, n2, n3, n4, n5, n6, n7⟩, oc, od, doc, pm, ctv, osl, T, lk, e1, e2, e3, e4, tI, sp, tk⟩ := sup_ok (P := (PySem.W.OpenLaw.row PySem.Challenge.rw_everyrowalike_k53_webs_and_numbers_refus).prog) X G sw sb (by kernel_rfl)
  dsimp only at e1 e2 e3 e4
  subst e1 e2 e3 e4
  exact ext_ok X G ex sp tk tI _ (.all fun us hl => match us, hl with | [_, _], _ => rfl) (init_ok T lk (NdefX.nscope_by (sc := defScope s_init) (by decide +kernel)) rfl ⟨_, rfl, rfl⟩ rfl _ (fun _ => rfl) (fun _ => rfl) (fun _ => rfl) (fun _ => rfl) (show ∀ y ∈ (["self", "value"] : List Str), (defScope s_init).names.lookup y = some .local by decide +kernel))
theorem law_ok {w : World} {K : PySem.W.Frag} {h h' : Heap} {mg : Str → Option Value} {base : Heap} (X : K.In h) (G : h.Ns mainGlobals mg) (c : SaysL ask h' K) (TBs : ∀ x ∈ tf, LamX.TabB base mg (He.cT K (x, none)).1 (tA K x)) : Kn (PySem.W.OpenLaw.row PySem.Challenge.rw_everyrowalike_k53_webs_and_numbers_refus).prog w K mg base 14 "law" P_law (p_law K) := by
  have hB := fr_ok X G c.d
  have xt : ExT (PySem.W.OpenLaw.row PySem.Challenge.rw_everyrowalike_k53_webs_and_numbers_refus).prog w K mg base exs := xt_ok X G c.sw c.sb c.ex
  obtain ⟨fd__law_cells, F__law_cells⟩ := c.d.def_ 38 (d := d__law_cells) rfl
  have G__law_cells := He.glo_ok X G (c.d.fact 38 (f := .glo "_law_cells") rfl)
  have D__law_cells : Df K mg "_law_cells" s__law_cells := ⟨_, fd__law_cells, G__law_cells, F__law_cells⟩
  have k__law_cells := ok__law_cells (P := (PySem.W.OpenLaw.row PySem.Challenge.rw_everyrowalike_k53_webs_and_numbers_refus).prog) (w := w) (base := base) D__law_cells hB
  obtain ⟨fd__law_take, F__law_take⟩ := c.d.def_ 36 (d := d__law_take) rfl
  have G__law_take := He.glo_ok X G (c.d.fact 36 (f := .glo "_law_take") rfl)
  have D__law_take : Df K mg "_law_take" s__law_take := ⟨_, fd__law_take, G__law_take, F__law_take⟩
  have k__law_take := ok__law_take (P := (PySem.W.OpenLaw.row PySem.Challenge.rw_everyrowalike_k53_webs_and_numbers_refus).prog) (w := w) (base := base) D__law_take hB
  obtain ⟨fd__law_of, F__law_of⟩ := c.d.def_ 37 (d := d__law_of) rfl
  have G__law_of := He.glo_ok X G (c.d.fact 37 (f := .glo "_law_of") rfl)
  have D__law_of : Df K mg "_law_of" s__law_of := ⟨_, fd__law_of, G__law_of, F__law_of⟩
  have k__law_of := ok__law_of (P := (PySem.W.OpenLaw.row PySem.Challenge.rw_everyrowalike_k53_webs_and_numbers_refus).prog) (w := w) (base := base) D__law_of hB k__law_take
  obtain ⟨fd__law_word_of, F__law_word_of⟩ := c.d.def_ 41 (d := d__law_word_of) rfl
  have G__law_word_of := He.glo_ok X G (c.d.fact 41 (f := .glo "_law_word_of") rfl)
  have D__law_word_of : Df K mg "_law_word_of" s__law_word_of := ⟨_, fd__law_word_of, G__law_word_of, F__law_word_of⟩
  have k__law_word_of := ok__law_word_of (P := (PySem.W.OpenLaw.row PySem.Challenge.rw_everyrowalike_k53_webs_and_numbers_refus).prog) (w := w) (base := base) D__law_word_of hB xt
  obtain ⟨fd__law_is_int, F__law_is_int⟩ := c.d.def_ 39 (d := d__law_is_int) rfl
  have G__law_is_int := He.glo_ok X G (c.d.fact 39 (f := .glo "_law_is_int") rfl)
  have D__law_is_int : Df K mg "_law_is_int" s__law_is_int := ⟨_, fd__law_is_int, G__law_is_int, F__law_is_int⟩
  have k__law_is_int := ok__law_is_int (P := (PySem.W.OpenLaw.row PySem.Challenge.rw_everyrowalike_k53_webs_and_numbers_refus).prog) (w := w) (base := base) D__law_is_int hB
  obtain ⟨fd__law_is_web, F__law_is_web⟩ := c.d.def_ 43 (d := d__law_is_web) rfl
  have G__law_is_web := He.glo_ok X G (c.d.fact 43 (f := .glo "_law_is_web") rfl)
  have D__law_is_web : Df K mg "_law_is_web" s__law_is_web := ⟨_, fd__law_is_web, G__law_is_web, F__law_is_web⟩
  have k__law_is_web := ok__law_is_web (P := (PySem.W.OpenLaw.row PySem.Challenge.rw_everyrowalike_k53_webs_and_numbers_refus).prog) (w := w) (base := base) D__law_is_web hB k__law_is_int
  obtain ⟨fd_without, F_without⟩ := c.d.def_ 32 (d := d_without) rfl
  have G_without := He.glo_ok X G (c.d.fact 32 (f := .glo "without") rfl)
  have D_without : Df K mg "without" s_without := ⟨_, fd_without, G_without, F_without⟩
  have k_without := ok_without (P := (PySem.W.OpenLaw.row PySem.Challenge.rw_everyrowalike_k53_webs_and_numbers_refus).prog) (w := w) (base := base) D_without hB
  obtain ⟨fd_rank_of, F_rank_of⟩ := c.d.def_ 33 (d := d_rank_of) rfl
  have G_rank_of := He.glo_ok X G (c.d.fact 33 (f := .glo "rank_of") rfl)
  have D_rank_of : Df K mg "rank_of" s_rank_of := ⟨_, fd_rank_of, G_rank_of, F_rank_of⟩
  have k_rank_of := ok_rank_of (P := (PySem.W.OpenLaw.row PySem.Challenge.rw_everyrowalike_k53_webs_and_numbers_refus).prog) (w := w) (base := base) D_rank_of hB k_without
  obtain ⟨fd_is_integer, F_is_integer⟩ := c.d.def_ 0 (d := d_is_integer) rfl
  have G_is_integer := He.glo_ok X G (c.d.fact 0 (f := .glo "is_integer") rfl)
  have D_is_integer : Df K mg "is_integer" s_is_integer := ⟨_, fd_is_integer, G_is_integer, F_is_integer⟩
  have k_is_integer := ok_is_integer (P := (PySem.W.OpenLaw.row PySem.Challenge.rw_everyrowalike_k53_webs_and_numbers_refus).prog) (w := w) (base := base) D_is_integer hB
  obtain ⟨fd_is_between, F_is_between⟩ := c.d.def_ 1 (d := d_is_between) rfl
  have G_is_between := He.glo_ok X G (c.d.fact 1 (f := .glo "is_between") rfl)
  have D_is_between : Df K mg "is_between" s_is_between := ⟨_, fd_is_between, G_is_between, F_is_between⟩
  have k_is_between := ok_is_between (P := (PySem.W.OpenLaw.row PySem.Challenge.rw_everyrowalike_k53_webs_and_numbers_refus).prog) (w := w) (base := base) D_is_between hB k_is_integer
  obtain ⟨fd_are_between, F_are_between⟩ := c.d.def_ 2 (d := d_are_between) rfl
  have G_are_between := He.glo_ok X G (c.d.fact 2 (f := .glo "are_between") rfl)
  have D_are_between : Df K mg "are_between" s_are_between := ⟨_, fd_are_between, G_are_between, F_are_between⟩
  have k_are_between := ok_are_between (P := (PySem.W.OpenLaw.row PySem.Challenge.rw_everyrowalike_k53_webs_and_numbers_refus).prog) (w := w) (base := base) D_are_between hB k_is_between
  obtain ⟨fd_is_ascending, F_is_ascending⟩ := c.d.def_ 3 (d := d_is_ascending) rfl
  have G_is_ascending := He.glo_ok X G (c.d.fact 3 (f := .glo "is_ascending") rfl)
  have D_is_ascending : Df K mg "is_ascending" s_is_ascending := ⟨_, fd_is_ascending, G_is_ascending, F_is_ascending⟩
  have k_is_ascending := ok_is_ascending (P := (PySem.W.OpenLaw.row PySem.Challenge.rw_everyrowalike_k53_webs_and_numbers_refus).prog) (w := w) (base := base) D_is_ascending hB
  obtain ⟨t_MOST_ROOMS, i_MOST_ROOMS⟩ := He.int_ok X G (c.d.fact 68 (f := .int "MOST_ROOMS" 8) rfl)
  obtain ⟨t_MOST_DOORS, i_MOST_DOORS⟩ := He.int_ok X G (c.d.fact 69 (f := .int "MOST_DOORS" 16) rfl)
  obtain ⟨fd_is_web, F_is_web⟩ := c.d.def_ 4 (d := d_is_web) rfl
  have G_is_web := He.glo_ok X G (c.d.fact 4 (f := .glo "is_web") rfl)
  have D_is_web : Df K mg "is_web" s_is_web := ⟨_, fd_is_web, G_is_web, F_is_web⟩
  have k_is_web := ok_is_web (P := (PySem.W.OpenLaw.row PySem.Challenge.rw_everyrowalike_k53_webs_and_numbers_refus).prog) (w := w) (base := base) D_is_web hB i_MOST_ROOMS i_MOST_DOORS k_is_between k_are_between k_is_ascending
  obtain ⟨fd_check_web, F_check_web⟩ := c.d.def_ 5 (d := d_check_web) rfl
  have G_check_web := He.glo_ok X G (c.d.fact 5 (f := .glo "check_web") rfl)
  have D_check_web : Df K mg "check_web" s_check_web := ⟨_, fd_check_web, G_check_web, F_check_web⟩
  have kx_check_web := okx_check_web (P := (PySem.W.OpenLaw.row PySem.Challenge.rw_everyrowalike_k53_webs_and_numbers_refus).prog) (w := w) (base := base) D_check_web hB xt k_is_web
  have k_check_web := ok_check_web (P := (PySem.W.OpenLaw.row PySem.Challenge.rw_everyrowalike_k53_webs_and_numbers_refus).prog) (w := w) (base := base) D_check_web hB k_is_web
  obtain ⟨fd_space, F_space⟩ := c.d.def_ 34 (d := d_space) rfl
  have G_space := He.glo_ok X G (c.d.fact 34 (f := .glo "space") rfl)
  have D_space : Df K mg "space" s_space := ⟨_, fd_space, G_space, F_space⟩
  have k_space := ok_space (P := (PySem.W.OpenLaw.row PySem.Challenge.rw_everyrowalike_k53_webs_and_numbers_refus).prog) (w := w) (base := base) D_space hB k_check_web k_rank_of
  have kx_space := okx_space (P := (PySem.W.OpenLaw.row PySem.Challenge.rw_everyrowalike_k53_webs_and_numbers_refus).prog) (w := w) (base := base) D_space hB kx_check_web k_rank_of k_space
  obtain ⟨fd_last_doors, F_last_doors⟩ := c.d.def_ 15 (d := d_last_doors) rfl
  have G_last_doors := He.glo_ok X G (c.d.fact 15 (f := .glo "last_doors") rfl)
  have D_last_doors : Df K mg "last_doors" s_last_doors := ⟨_, fd_last_doors, G_last_doors, F_last_doors⟩
  have k_last_doors := ok_last_doors (P := (PySem.W.OpenLaw.row PySem.Challenge.rw_everyrowalike_k53_webs_and_numbers_refus).prog) (w := w) (base := base) D_last_doors hB
  obtain ⟨fd_is_let, F_is_let⟩ := c.d.def_ 16 (d := d_is_let) rfl
  have G_is_let := He.glo_ok X G (c.d.fact 16 (f := .glo "is_let") rfl)
  have D_is_let : Df K mg "is_let" s_is_let := ⟨_, fd_is_let, G_is_let, F_is_let⟩
  have k_is_let := ok_is_let (P := (PySem.W.OpenLaw.row PySem.Challenge.rw_everyrowalike_k53_webs_and_numbers_refus).prog) (w := w) (base := base) D_is_let hB
  obtain ⟨fd_steps_on, F_steps_on⟩ := c.d.def_ 18 (d := d_steps_on) rfl
  have G_steps_on := He.glo_ok X G (c.d.fact 18 (f := .glo "steps_on") rfl)
  have D_steps_on : Df K mg "steps_on" s_steps_on := ⟨_, fd_steps_on, G_steps_on, F_steps_on⟩
  have k_steps_on := ok_steps_on (P := (PySem.W.OpenLaw.row PySem.Challenge.rw_everyrowalike_k53_webs_and_numbers_refus).prog) (w := w) (base := base) D_steps_on hB k_is_let
  obtain ⟨fd_factors_of, F_factors_of⟩ := c.d.def_ 17 (d := d_factors_of) rfl
  have G_factors_of := He.glo_ok X G (c.d.fact 17 (f := .glo "factors_of") rfl)
  have D_factors_of : Df K mg "factors_of" s_factors_of := ⟨_, fd_factors_of, G_factors_of, F_factors_of⟩
  have k_factors_of := ok_factors_of (P := (PySem.W.OpenLaw.row PySem.Challenge.rw_everyrowalike_k53_webs_and_numbers_refus).prog) (w := w) (base := base) D_factors_of hB k_last_doors k_steps_on
  obtain ⟨fd_numbers_by, F_numbers_by⟩ := c.d.def_ 13 (d := d_numbers_by) rfl
  have G_numbers_by := He.glo_ok X G (c.d.fact 13 (f := .glo "numbers_by") rfl)
  have D_numbers_by : Df K mg "numbers_by" s_numbers_by := ⟨_, fd_numbers_by, G_numbers_by, F_numbers_by⟩
  have k_numbers_by := ok_numbers_by (P := (PySem.W.OpenLaw.row PySem.Challenge.rw_everyrowalike_k53_webs_and_numbers_refus).prog) (w := w) (base := base) D_numbers_by hB
  obtain ⟨fd_rows_of, F_rows_of⟩ := c.d.def_ 20 (d := d_rows_of) rfl
  have G_rows_of := He.glo_ok X G (c.d.fact 20 (f := .glo "rows_of") rfl)
  have D_rows_of : Df K mg "rows_of" s_rows_of := ⟨_, fd_rows_of, G_rows_of, F_rows_of⟩
  have k_rows_of := ok_rows_of (P := (PySem.W.OpenLaw.row PySem.Challenge.rw_everyrowalike_k53_webs_and_numbers_refus).prog) (w := w) (base := base) D_rows_of hB k_factors_of k_numbers_by
  obtain ⟨fd_sums_at, F_sums_at⟩ := c.d.def_ 7 (d := d_sums_at) rfl
  have G_sums_at := He.glo_ok X G (c.d.fact 7 (f := .glo "sums_at") rfl)
  have D_sums_at : Df K mg "sums_at" s_sums_at := ⟨_, fd_sums_at, G_sums_at, F_sums_at⟩
  have k_sums_at := ok_sums_at (P := (PySem.W.OpenLaw.row PySem.Challenge.rw_everyrowalike_k53_webs_and_numbers_refus).prog) (w := w) (base := base) D_sums_at hB
  obtain ⟨fd_are_numbers, F_are_numbers⟩ := c.d.def_ 26 (d := d_are_numbers) rfl
  have G_are_numbers := He.glo_ok X G (c.d.fact 26 (f := .glo "are_numbers") rfl)
  have D_are_numbers : Df K mg "are_numbers" s_are_numbers := ⟨_, fd_are_numbers, G_are_numbers, F_are_numbers⟩
  have k_are_numbers := ok_are_numbers (P := (PySem.W.OpenLaw.row PySem.Challenge.rw_everyrowalike_k53_webs_and_numbers_refus).prog) (w := w) (base := base) D_are_numbers hB k_is_integer k_sums_at
  obtain ⟨fd_bare_doors, F_bare_doors⟩ := c.d.def_ 22 (d := d_bare_doors) rfl
  have G_bare_doors := He.glo_ok X G (c.d.fact 22 (f := .glo "bare_doors") rfl)
  have D_bare_doors : Df K mg "bare_doors" s_bare_doors := ⟨_, fd_bare_doors, G_bare_doors, F_bare_doors⟩
  have k_bare_doors := ok_bare_doors (P := (PySem.W.OpenLaw.row PySem.Challenge.rw_everyrowalike_k53_webs_and_numbers_refus).prog) (w := w) (base := base) D_bare_doors hB
  obtain ⟨t_DOOR, i_DOOR⟩ := He.str_ok X G (c.d.fact 76 (f := .str "DOOR" "door") rfl)
  obtain ⟨fd_is_bar, F_is_bar⟩ := c.d.def_ 28 (d := d_is_bar) rfl
  have G_is_bar := He.glo_ok X G (c.d.fact 28 (f := .glo "is_bar") rfl)
  have D_is_bar : Df K mg "is_bar" s_is_bar := ⟨_, fd_is_bar, G_is_bar, F_is_bar⟩
  have k_is_bar := ok_is_bar (P := (PySem.W.OpenLaw.row PySem.Challenge.rw_everyrowalike_k53_webs_and_numbers_refus).prog) (w := w) (base := base) D_is_bar hB i_DOOR k_is_between k_bare_doors
  obtain ⟨t_NUMBERS, i_NUMBERS⟩ := He.str_ok X G (c.d.fact 75 (f := .str "NUMBERS" "numbers") rfl)
  obtain ⟨fd_shows_even, F_shows_even⟩ := c.d.def_ 31 (d := d_shows_even) rfl
  have G_shows_even := He.glo_ok X G (c.d.fact 31 (f := .glo "shows_even") rfl)
  have D_shows_even : Df K mg "shows_even" s_shows_even := ⟨_, fd_shows_even, G_shows_even, F_shows_even⟩
  have k_shows_even := ok_shows_even (P := (PySem.W.OpenLaw.row PySem.Challenge.rw_everyrowalike_k53_webs_and_numbers_refus).prog) (w := w) (base := base) D_shows_even hB i_NUMBERS k_check_web k_rows_of k_are_numbers k_is_bar
  have kx_shows_even := okx_shows_even (P := (PySem.W.OpenLaw.row PySem.Challenge.rw_everyrowalike_k53_webs_and_numbers_refus).prog) (w := w) (base := base) D_shows_even hB kx_check_web i_NUMBERS k_rows_of k_are_numbers k_is_bar k_shows_even
  obtain ⟨t_THREE_doors, i_THREE_doors⟩ := He.int_ok X G (c.d.fact 74 (f := .int "THREE_doors" 3) rfl)
  obtain ⟨fd_summed, F_summed⟩ := c.d.def_ 25 (d := d_summed) rfl
  have G_summed := He.glo_ok X G (c.d.fact 25 (f := .glo "summed") rfl)
  have D_summed : Df K mg "summed" s_summed := ⟨_, fd_summed, G_summed, F_summed⟩
  have k_summed := ok_summed (P := (PySem.W.OpenLaw.row PySem.Challenge.rw_everyrowalike_k53_webs_and_numbers_refus).prog) (w := w) (base := base) D_summed hB i_THREE_doors
  obtain ⟨fd_even_told, F_even_told⟩ := c.d.def_ 30 (d := d_even_told) rfl
  have G_even_told := He.glo_ok X G (c.d.fact 30 (f := .glo "even_told") rfl)
  have D_even_told : Df K mg "even_told" s_even_told := ⟨_, fd_even_told, G_even_told, F_even_told⟩
  have k_even_told := ok_even_told (P := (PySem.W.OpenLaw.row PySem.Challenge.rw_everyrowalike_k53_webs_and_numbers_refus).prog) (w := w) (base := base) D_even_told hB i_DOOR i_NUMBERS k_check_web k_rows_of k_bare_doors k_summed
  have kx_even_told := okx_even_told (P := (PySem.W.OpenLaw.row PySem.Challenge.rw_everyrowalike_k53_webs_and_numbers_refus).prog) (w := w) (base := base) D_even_told hB kx_check_web i_DOOR i_NUMBERS k_rows_of k_bare_doors k_summed k_even_told
  obtain ⟨fd_at_door, F_at_door⟩ := c.d.def_ 21 (d := d_at_door) rfl
  have G_at_door := He.glo_ok X G (c.d.fact 21 (f := .glo "at_door") rfl)
  have D_at_door : Df K mg "at_door" s_at_door := ⟨_, fd_at_door, G_at_door, F_at_door⟩
  have k_at_door := ok_at_door (P := (PySem.W.OpenLaw.row PySem.Challenge.rw_everyrowalike_k53_webs_and_numbers_refus).prog) (w := w) (base := base) D_at_door hB
  obtain ⟨fd_like_doors, F_like_doors⟩ := c.d.def_ 23 (d := d_like_doors) rfl
  have G_like_doors := He.glo_ok X G (c.d.fact 23 (f := .glo "like_doors") rfl)
  have D_like_doors : Df K mg "like_doors" s_like_doors := ⟨_, fd_like_doors, G_like_doors, F_like_doors⟩
  have k_like_doors := ok_like_doors (P := (PySem.W.OpenLaw.row PySem.Challenge.rw_everyrowalike_k53_webs_and_numbers_refus).prog) (w := w) (base := base) D_like_doors hB k_at_door
  obtain ⟨t_TWO, i_TWO⟩ := He.str_ok X G (c.d.fact 77 (f := .str "TWO" "two") rfl)
  obtain ⟨fd_shows_web, F_shows_web⟩ := c.d.def_ 29 (d := d_shows_web) rfl
  have G_shows_web := He.glo_ok X G (c.d.fact 29 (f := .glo "shows_web") rfl)
  have D_shows_web : Df K mg "shows_web" s_shows_web := ⟨_, fd_shows_web, G_shows_web, F_shows_web⟩
  have k_shows_web := ok_shows_web (P := (PySem.W.OpenLaw.row PySem.Challenge.rw_everyrowalike_k53_webs_and_numbers_refus).prog) (w := w) (base := base) D_shows_web hB i_THREE_doors i_TWO i_NUMBERS k_check_web k_rows_of k_is_integer k_like_doors k_are_numbers k_is_bar
  have kx_shows_web := okx_shows_web (P := (PySem.W.OpenLaw.row PySem.Challenge.rw_everyrowalike_k53_webs_and_numbers_refus).prog) (w := w) (base := base) D_shows_web hB kx_check_web i_THREE_doors i_TWO i_NUMBERS k_rows_of k_is_integer k_like_doors k_are_numbers k_is_bar k_shows_web
  obtain ⟨fd_enough, F_enough⟩ := c.d.def_ 24 (d := d_enough) rfl
  have G_enough := He.glo_ok X G (c.d.fact 24 (f := .glo "enough") rfl)
  have D_enough : Df K mg "enough" s_enough := ⟨_, fd_enough, G_enough, F_enough⟩
  have k_enough := ok_enough (P := (PySem.W.OpenLaw.row PySem.Challenge.rw_everyrowalike_k53_webs_and_numbers_refus).prog) (w := w) (base := base) D_enough hB k_at_door
  obtain ⟨fd_web_told, F_web_told⟩ := c.d.def_ 27 (d := d_web_told) rfl
  have G_web_told := He.glo_ok X G (c.d.fact 27 (f := .glo "web_told") rfl)
  have D_web_told : Df K mg "web_told" s_web_told := ⟨_, fd_web_told, G_web_told, F_web_told⟩
  have k_web_told := ok_web_told (P := (PySem.W.OpenLaw.row PySem.Challenge.rw_everyrowalike_k53_webs_and_numbers_refus).prog) (w := w) (base := base) D_web_told hB i_DOOR i_TWO i_NUMBERS k_check_web k_rows_of k_bare_doors k_like_doors k_summed k_enough
  have kx_web_told := okx_web_told (P := (PySem.W.OpenLaw.row PySem.Challenge.rw_everyrowalike_k53_webs_and_numbers_refus).prog) (w := w) (base := base) D_web_told hB kx_check_web i_DOOR i_TWO i_NUMBERS k_rows_of k_bare_doors k_like_doors k_summed k_enough k_web_told
  obtain ⟨fd_factors, F_factors⟩ := c.d.def_ 19 (d := d_factors) rfl
  have G_factors := He.glo_ok X G (c.d.fact 19 (f := .glo "factors") rfl)
  have D_factors : Df K mg "factors" s_factors := ⟨_, fd_factors, G_factors, F_factors⟩
  have k_factors := ok_factors (P := (PySem.W.OpenLaw.row PySem.Challenge.rw_everyrowalike_k53_webs_and_numbers_refus).prog) (w := w) (base := base) D_factors hB k_check_web k_factors_of
  have kx_factors := okx_factors (P := (PySem.W.OpenLaw.row PySem.Challenge.rw_everyrowalike_k53_webs_and_numbers_refus).prog) (w := w) (base := base) D_factors hB kx_check_web k_factors_of k_factors
  obtain ⟨fd_is_factor_of, F_is_factor_of⟩ := c.d.def_ 11 (d := d_is_factor_of) rfl
  have G_is_factor_of := He.glo_ok X G (c.d.fact 11 (f := .glo "is_factor_of") rfl)
  have D_is_factor_of : Df K mg "is_factor_of" s_is_factor_of := ⟨_, fd_is_factor_of, G_is_factor_of, F_is_factor_of⟩
  have k_is_factor_of := ok_is_factor_of (P := (PySem.W.OpenLaw.row PySem.Challenge.rw_everyrowalike_k53_webs_and_numbers_refus).prog) (w := w) (base := base) D_is_factor_of hB k_are_between k_is_ascending
  obtain ⟨fd_is_factor, F_is_factor⟩ := c.d.def_ 12 (d := d_is_factor) rfl
  have G_is_factor := He.glo_ok X G (c.d.fact 12 (f := .glo "is_factor") rfl)
  have D_is_factor : Df K mg "is_factor" s_is_factor := ⟨_, fd_is_factor, G_is_factor, F_is_factor⟩
  have k_is_factor := ok_is_factor (P := (PySem.W.OpenLaw.row PySem.Challenge.rw_everyrowalike_k53_webs_and_numbers_refus).prog) (w := w) (base := base) D_is_factor hB k_check_web k_is_factor_of
  have kx_is_factor := okx_is_factor (P := (PySem.W.OpenLaw.row PySem.Challenge.rw_everyrowalike_k53_webs_and_numbers_refus).prog) (w := w) (base := base) D_is_factor hB kx_check_web k_is_factor_of k_is_factor
  obtain ⟨t_MOST_ENTRY, i_MOST_ENTRY⟩ := He.int_ok X G (c.d.fact 70 (f := .int "MOST_ENTRY" 1000000000) rfl)
  obtain ⟨fd_check_numbers, F_check_numbers⟩ := c.d.def_ 6 (d := d_check_numbers) rfl
  have G_check_numbers := He.glo_ok X G (c.d.fact 6 (f := .glo "check_numbers") rfl)
  have D_check_numbers : Df K mg "check_numbers" s_check_numbers := ⟨_, fd_check_numbers, G_check_numbers, F_check_numbers⟩
  have kx_check_numbers := okx_check_numbers (P := (PySem.W.OpenLaw.row PySem.Challenge.rw_everyrowalike_k53_webs_and_numbers_refus).prog) (w := w) (base := base) D_check_numbers hB xt kx_check_web i_MOST_ENTRY k_are_between
  have k_check_numbers := ok_check_numbers (P := (PySem.W.OpenLaw.row PySem.Challenge.rw_everyrowalike_k53_webs_and_numbers_refus).prog) (w := w) (base := base) D_check_numbers hB i_MOST_ENTRY k_check_web k_are_between
  obtain ⟨t_THREE_webs, i_THREE_webs⟩ := He.int_ok X G (c.d.fact 71 (f := .int "THREE_webs" 3) rfl)
  obtain ⟨t_SUM, i_SUM⟩ := He.str_ok X G (c.d.fact 72 (f := .str "SUM" "sum") rfl)
  obtain ⟨t_ROOMS, i_ROOMS⟩ := He.str_ok X G (c.d.fact 73 (f := .str "ROOMS" "rooms") rfl)
  obtain ⟨fd_shows_alike, F_shows_alike⟩ := c.d.def_ 10 (d := d_shows_alike) rfl
  have G_shows_alike := He.glo_ok X G (c.d.fact 10 (f := .glo "shows_alike") rfl)
  have D_shows_alike : Df K mg "shows_alike" s_shows_alike := ⟨_, fd_shows_alike, G_shows_alike, F_shows_alike⟩
  have k_shows_alike := ok_shows_alike (P := (PySem.W.OpenLaw.row PySem.Challenge.rw_everyrowalike_k53_webs_and_numbers_refus).prog) (w := w) (base := base) D_shows_alike hB i_THREE_webs i_SUM i_ROOMS k_check_numbers k_sums_at k_is_integer k_are_between
  have kx_shows_alike := okx_shows_alike (P := (PySem.W.OpenLaw.row PySem.Challenge.rw_everyrowalike_k53_webs_and_numbers_refus).prog) (w := w) (base := base) D_shows_alike hB kx_check_numbers i_THREE_webs i_SUM i_ROOMS k_sums_at k_is_integer k_are_between k_shows_alike
  obtain ⟨fd_alike_told, F_alike_told⟩ := c.d.def_ 9 (d := d_alike_told) rfl
  have G_alike_told := He.glo_ok X G (c.d.fact 9 (f := .glo "alike_told") rfl)
  have D_alike_told : Df K mg "alike_told" s_alike_told := ⟨_, fd_alike_told, G_alike_told, F_alike_told⟩
  have k_alike_told := ok_alike_told (P := (PySem.W.OpenLaw.row PySem.Challenge.rw_everyrowalike_k53_webs_and_numbers_refus).prog) (w := w) (base := base) D_alike_told hB i_ROOMS i_SUM k_check_numbers k_sums_at
  have kx_alike_told := okx_alike_told (P := (PySem.W.OpenLaw.row PySem.Challenge.rw_everyrowalike_k53_webs_and_numbers_refus).prog) (w := w) (base := base) D_alike_told hB kx_check_numbers i_ROOMS i_SUM k_sums_at k_alike_told
  obtain ⟨fd_room_sums, F_room_sums⟩ := c.d.def_ 8 (d := d_room_sums) rfl
  have G_room_sums := He.glo_ok X G (c.d.fact 8 (f := .glo "room_sums") rfl)
  have D_room_sums : Df K mg "room_sums" s_room_sums := ⟨_, fd_room_sums, G_room_sums, F_room_sums⟩
  have k_room_sums := ok_room_sums (P := (PySem.W.OpenLaw.row PySem.Challenge.rw_everyrowalike_k53_webs_and_numbers_refus).prog) (w := w) (base := base) D_room_sums hB k_check_numbers k_sums_at
  have kx_room_sums := okx_room_sums (P := (PySem.W.OpenLaw.row PySem.Challenge.rw_everyrowalike_k53_webs_and_numbers_refus).prog) (w := w) (base := base) D_room_sums hB kx_check_numbers k_sums_at k_room_sums
  obtain ⟨fd_factor_numbers, F_factor_numbers⟩ := c.d.def_ 14 (d := d_factor_numbers) rfl
  have G_factor_numbers := He.glo_ok X G (c.d.fact 14 (f := .glo "factor_numbers") rfl)
  have D_factor_numbers : Df K mg "factor_numbers" s_factor_numbers := ⟨_, fd_factor_numbers, G_factor_numbers, F_factor_numbers⟩
  have kx_factor_numbers := okx_factor_numbers (P := (PySem.W.OpenLaw.row PySem.Challenge.rw_everyrowalike_k53_webs_and_numbers_refus).prog) (w := w) (base := base) D_factor_numbers hB xt kx_check_web k_is_factor_of k_numbers_by
  obtain ⟨fd__law_are_right, F__law_are_right⟩ := c.d.def_ 44 (d := d__law_are_right) rfl
  have G__law_are_right := He.glo_ok X G (c.d.fact 44 (f := .glo "_law_are_right") rfl)
  have D__law_are_right : Df K mg "_law_are_right" s__law_are_right := ⟨_, fd__law_are_right, G__law_are_right, F__law_are_right⟩
  obtain ⟨fd__law_caught, F__law_caught⟩ := c.d.def_ 40 (d := d__law_caught) rfl
  have G__law_caught := He.glo_ok X G (c.d.fact 40 (f := .glo "_law_caught") rfl)
  have D__law_caught : Df K mg "_law_caught" s__law_caught := ⟨_, fd__law_caught, G__law_caught, F__law_caught⟩
  obtain ⟨fd__law_is_due, F__law_is_due⟩ := c.d.def_ 42 (d := d__law_is_due) rfl
  have G__law_is_due := He.glo_ok X G (c.d.fact 42 (f := .glo "_law_is_due") rfl)
  have D__law_is_due : Df K mg "_law_is_due" s__law_is_due := ⟨_, fd__law_is_due, G__law_is_due, F__law_is_due⟩
  have kr__law_is_due := kr__law_is_due (P := (PySem.W.OpenLaw.row PySem.Challenge.rw_everyrowalike_k53_webs_and_numbers_refus).prog) (w := w) (base := base) hB xt k__law_word_of
  have k__law_are_right := ok__law_are_right (P := (PySem.W.OpenLaw.row PySem.Challenge.rw_everyrowalike_k53_webs_and_numbers_refus).prog) (w := w) (base := base) (dfT_of (i := 0) (j := 0) c X G base F__law_are_right G__law_are_right (TBs _ (by decide +kernel))) hB xt D__law_caught D__law_is_due kr__law_is_due kx_space kx_shows_even kx_even_told kx_shows_web kx_web_told kx_factors kx_is_factor kx_shows_alike kx_alike_told kx_room_sums kx_factor_numbers k__law_is_web k__law_is_int
  obtain ⟨fd__law_right, F__law_right⟩ := c.d.def_ 45 (d := d__law_right) rfl
  have G__law_right := He.glo_ok X G (c.d.fact 45 (f := .glo "_law_right") rfl)
  have D__law_right : Df K mg "_law_right" s__law_right := ⟨_, fd__law_right, G__law_right, F__law_right⟩
  have k__law_right := ok__law_right (P := (PySem.W.OpenLaw.row PySem.Challenge.rw_everyrowalike_k53_webs_and_numbers_refus).prog) (w := w) (base := base) D__law_right hB k__law_of k__law_are_right
  obtain ⟨fd__law_pot, F__law_pot⟩ := c.d.def_ 35 (d := d__law_pot) rfl
  have G__law_pot := He.glo_ok X G (c.d.fact 35 (f := .glo "_law_pot") rfl)
  have D__law_pot : Df K mg "_law_pot" s__law_pot := ⟨_, fd__law_pot, G__law_pot, F__law_pot⟩
  have k__law_pot := ok__law_pot (P := (PySem.W.OpenLaw.row PySem.Challenge.rw_everyrowalike_k53_webs_and_numbers_refus).prog) (w := w) (base := base) D__law_pot hB
  obtain ⟨fd_law, F_law⟩ := c.d.def_ 46 (d := d_law) rfl
  have G_law := He.glo_ok X G (c.d.fact 46 (f := .glo "law") rfl)
  have D_law : Df K mg "law" s_law := ⟨_, fd_law, G_law, F_law⟩
  have k_law := ok_law (P := (PySem.W.OpenLaw.row PySem.Challenge.rw_everyrowalike_k53_webs_and_numbers_refus).prog) (w := w) (base := base) D_law hB k__law_cells k__law_right k__law_pot
  exact k_law
end K53
open PySem PySem.W PySem.Calls PyProof.Rows
theorem PySem.Challenge.cw_everyrowalike_k53_webs_and_numbers_refus_holds : PySem.Challenge.rw_everyrowalike_k53_webs_and_numbers_refus.Holds := by
  w_on; o_law
  refine HandSHeadRun.head_any (r := OpenLaw.row PySem.Challenge.rw_everyrowalike_k53_webs_and_numbers_refus) (q := view (PySem.W.OpenLaw.row PySem.Challenge.rw_everyrowalike_k53_webs_and_numbers_refus).prog [66]) (H := K53.hk) (ob := K53.ob) (M := 5000) (loose := K53.nm) (d := HandSHeadRun.topDef (PySem.W.OpenLaw.row PySem.Challenge.rw_everyrowalike_k53_webs_and_numbers_refus).prog 66) (kwd := []) K53.ob_eq
    (by kernel_rfl) (fun s => by kernel_rfl) K53.run (by kernel_rfl) (by kernel_rfl) (by kernel_rfl) (by rfl) (by first | assumption | decide +kernel) (by decide +kernel) ⟨rfl, rfl, rfl, rfl, rfl, by decide +kernel⟩ ?hw ?hc
  case hw => w_witness2
  case hc =>
    refine VL.walk_KT (l := PySem.Challenge.rw_everyrowalike_k53_webs_and_numbers_refus) (n := 63) (k := 14) (x := "script") (φ := K53.p_law) (tf := K53.tf) rfl (by decide) (by kernel_rfl) ⟨rfl, by decide, by decide⟩ K53.phi_ok ?F
    intro w mg h Y G
    obtain ⟨K, KX, c⟩ := Y
    refine ⟨K, KX, c.hd, c.out, c.emp, c.uni, fun base _ _ TBs => ?_⟩
    have e : (HandSHeadRun.topDef (PySem.W.OpenLaw.row PySem.Challenge.rw_everyrowalike_k53_webs_and_numbers_refus).prog 66).name = ("law" : PySem.Str) := by kernel_rfl
    rw [e]
    exact K53.law_ok KX G c TBs
