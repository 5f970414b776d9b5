import PyProof.Rows.All
import Wide.All
import OpenK.AllK
import Wide.FinOn
import HandS.ForMost
import HandS.TupSets
import HandS.Small
import HandS.Conv
import HandS.DictComp
import HandS.Exc
import HandS.TryOnly
import HandS.ExcOwn
import HandS.WordsExc
import HandS.Wide
import HandS.WideMore
import HandS.Flow
import HandS.SortInts
import HandS.TupAny
import HandS.Style
import HandS.Deep
import HandS.Comp
import HandS.Iter
import HandS.Walk
import HandS.Ends
import HandS.Set
import HandS.Strs
import HandS.SetFor
import HandS.SortOrd
import HandS.IsInst
import KE.GoesEnum
import KE.GoesMore
import HandS.SortRule
import KE.SortData
import KE.DataMinMax
import KE.DataCmp
import HandS.SetBool
import HandS.NoneIn
import PySem.Challenge.RW_rootsooth_k10_whole_matrices_that_keep_a
set_option Elab.async false
set_option linter.all false
set_option maxRecDepth 100000
set_option maxHeartbeats 4000000
namespace M
open PySem PySem.Spec PyProof.Rows L2
/-! ### dicts whose keys are tuples of ints, whatever the tuples are made of -/
theorem hash_any (P P' : Program) (w w' : World) (x : List Int × Addr × Value) : entryOfKey (tupleKind (intKind P w)) x = entryOfKey (tupleKind (intKind P' w')) x := rfl
abbrev DL := List (List Int × Addr × V)
def DPair (p : List Int × Addr × V) (q : List Int × Addr × Value) : Prop := p.1 = q.1 ∧ p.2.1 = q.2.1 ∧ RelV p.2.2 q.2.2
structure DT0 (h : Heap) (a : Addr) (L : DL) : Prop where
  len : L.length ≤ sizeLine
  sys : (a == sysModules) = false
  ex : ∃ xs : List (List Int × Addr × Value), Paired DPair L xs ∧ (∃ o es ep, h.get? a = some o ∧ o.ExactDict ∧ o.data = .dict es ep ∧ ∀ (P : Program) (w : World), es.toList = xs.map (entryOfKey (tupleKind (intKind P w)))) ∧ (xs.map (·.1)).Nodup
def DTO (a : Addr) (L : DL) : HO := .ext fun h => DT0 h a L
theorem dto_ok {P : Program} {w : World} {H : Hp} {h : Heap} {a : Addr} {L : DL} (R : DT0 h a L) : ObjOk P w H h a (DTO a L) := by
  obtain ⟨l, s, xs, pr, ⟨o, es, ep, ho, r⟩, nd⟩ := R
  refine ⟨⟨l, s, xs, pr, ⟨o, es, ep, ho, r⟩, nd⟩, ⟨o, ho⟩, fun h1 h2 p k => ?_⟩
  obtain ⟨l', s', xs', pr', ⟨o', es', ep', ho', r'⟩, nd'⟩ := p
  exact ⟨l', s', xs', pr', ⟨o', es', ep', k _ ho', r'⟩, nd'⟩
theorem dto_inj {a b : Addr} {L : DL} {H : Hp} {us : List V} (h : H a = some (DTO a L)) (h' : H b = some (.lst us)) : a ≠ b := ne_of h h' (by intro e; cases e)
/-- with the tuples at hand, the kit's description -/
theorem DT0.full {P : Program} {w : World} {h : Heap} {a : Addr} {L : DL} (R : DT0 h a L) (ht : ∀ p ∈ L, IsT P w h p.1 p.2.1) : ∃ xs, Paired DPair L xs ∧ h.DictOfH (tupleKind (intKind P w)) a xs := by
  obtain ⟨l, s, xs, pr, ⟨o, es, ep, ho, hx, hd, he⟩, nd⟩ := R
  refine ⟨xs, pr, o, es, ep, ho, hx, hd, he P w, fun x hx => ?_, nd⟩
  have all : ∀ {l : DL} {m : List (List Int × Addr × Value)}, Paired DPair l m → (∀ p ∈ l, IsT P w h p.1 p.2.1) → ∀ x ∈ m, IsT P w h x.1 x.2.1 := by
    intro l m q
    induction q with
    | nil => intro _ x hx; exact nomatch hx
    | @cons p q ps qs hq t ih =>
      intro hp x hx
      rcases List.mem_cons.mp hx with e | hx
      · subst e
        have := hp p (by simp)
        rw [hq.1, hq.2.1] at this
        exact this
      · exact ih (fun p' h' => hp p' (List.mem_cons_of_mem _ h')) x hx
  exact all pr ht x hx
theorem dt_of_full {P : Program} {w : World} {h : Heap} {a : Addr} {L : DL} {xs : List (List Int × Addr × Value)} (hl : L.length ≤ sizeLine) (hs : (a == sysModules) = false) (pr : Paired DPair L xs) (dd : h.DictOfH (tupleKind (intKind P w)) a xs) : DT0 h a L := by
  obtain ⟨o, es, ep, ho, hx, hd, he, _, nd⟩ := dd
  exact ⟨hl, hs, xs, pr, ⟨o, es, ep, ho, hx, hd, fun P' w' => by rw [he]; rfl⟩, nd⟩
/-- what the dict holds at a key -/
def atD (L : DL) (k : List Int) : Option V := (L.find? fun x => decide (x.1 = k)).map (·.2.2)
def putD0 (L : DL) (k : List Int) (b : Addr) (v : V) : DL := if (atD L k).isSome then L.map (fun x => if x.1 = k then (x.1, x.2.1, v) else x) else L ++ [(k, b, v)]
theorem at_pair {k : List Int} : ∀ {L : DL} {xs : List (List Int × Addr × Value)}, Paired DPair L xs → (atD L k = none ∧ atKey xs k = none) ∨ ∃ v p, atD L k = some v ∧ atKey xs k = some p ∧ RelV v p.2 := by
  intro L xs h
  induction h with
  | nil => exact .inl ⟨rfl, rfl⟩
  | @cons p q ps qs hq t ih =>
    unfold atD atKey
    by_cases c : p.1 = k
    · have c' : q.1 = k := by rw [← hq.1]; exact c
      right
      simp only [List.find?_cons, c, c', decide_true, Option.map_some]
      exact ⟨_, _, rfl, rfl, hq.2.2⟩
    · have c' : ¬ q.1 = k := by rw [← hq.1]; exact c
      simp only [List.find?_cons, c, c', decide_false]
      exact ih
theorem put_pair {k : List Int} {b : Addr} {v : V} {r : Value} (rv : RelV v r) {L : DL} {xs : List (List Int × Addr × Value)} (h : Paired DPair L xs) : Paired DPair (putD0 L k b v) (storedH xs k b r) := by
  have rep : ∀ {L : DL} {xs : List (List Int × Addr × Value)}, Paired DPair L xs → Paired DPair (L.map fun x => if x.1 = k then (x.1, x.2.1, v) else x) (xs.map (putAt k r)) := by
    intro L xs h
    induction h with
    | nil => exact .nil
    | @cons p q ps qs hq t ih =>
      refine .cons ?_ ih
      show DPair (if p.1 = k then (p.1, p.2.1, v) else p) (putAt k r q)
      unfold putAt
      by_cases c : p.1 = k
      · have c' : q.1 = k := by rw [← hq.1]; exact c
        rw [if_pos c, if_pos c']
        exact ⟨hq.1, hq.2.1, rv⟩
      · have c' : ¬ q.1 = k := by rw [← hq.1]; exact c
        rw [if_neg c, if_neg c']
        exact hq
  unfold putD0 storedH
  rcases at_pair (k := k) h with ⟨e1, e2⟩ | ⟨u, p, e1, e2, _⟩
  · rw [e1, e2]
    exact Paired.snoc h ⟨rfl, rfl, rv⟩
  · rw [e1, e2]
    exact rep h
theorem putD0_len (L : DL) (k : List Int) (b : Addr) (v : V) : (putD0 L k b v).length ≤ L.length + 1 := by
  unfold putD0
  split <;> simp
theorem putD0_mem {L : DL} {k : List Int} {b : Addr} {v : V} {x : List Int × Addr × V} (h : x ∈ putD0 L k b v) : (x.1 = k ∧ x.2.1 = b) ∨ ∃ y ∈ L, x.1 = y.1 ∧ x.2.1 = y.2.1 := by
  unfold putD0 at h
  split at h
  · obtain ⟨y, hy, e⟩ := List.mem_map.1 h
    right
    refine ⟨y, hy, ?_⟩
    split at e <;> subst e <;> exact ⟨rfl, rfl⟩
  · rcases List.mem_append.1 h with h | h
    · exact .inr ⟨x, h, rfl, rfl⟩
    · rw [List.mem_singleton] at h
      subst h
      exact .inl ⟨rfl, rfl⟩
section
variable {X : Cx} {pins : List (Addr × Obj)} {σ : L2.St} {H : Hp} {s : Shared} {a b : Addr} {L : DL} {k : List Int}
/-- d[k] -/
theorem dtGet {A : Around} {E : Value → Shared → Prop} {v : V} {Q : Value → Shared → Prop} (hu : A.units + 1 < cLine) (I : Inv X pins σ H s) (hd : H a = some (DTO a L)) (ht : ∀ p ∈ L, SqT X.K H p.2.1 (p.1.map V.int)) (hk : SqT X.K H b (k.map V.int)) (hv : atD L k = some v)
    (h : ∀ r s', Inv X pins σ H s' → RelV v r → Q r s') : wpAny (model X.prog X.w) A (getItem (.ref a) (.ref b)) Q E s := by
  have R0 : DT0 s.heap a L := (I.hok a _ hd).1
  obtain ⟨xs, pr, dd⟩ := R0.full (P := X.prog) (w := X.w) fun p hp => I.isT (ht p hp)
  rcases at_pair (k := k) pr with ⟨e1, _⟩ | ⟨v', p, e1, e2, rv⟩
  · rw [hv] at e1; cases e1
  · rw [hv] at e1; cases e1
    exact wpAny_getItem_heap (tupleKind_room_in1 hu) (I.isT hk) dd e2 (h p.2 _ (I.tok _) rv)
/-- k in d -/
theorem dtIn {A : Around} {E : Value → Shared → Prop} {Q : Value → Shared → Prop} (hu : A.units + 1 < cLine) (I : Inv X pins σ H s) (hd : H a = some (DTO a L)) (ht : ∀ p ∈ L, SqT X.K H p.2.1 (p.1.map V.int)) (hk : SqT X.K H b (k.map V.int))
    (h : ∀ s', Inv X pins σ H s' → Q (.bool (atD L k).isSome) s') : wpAny (model X.prog X.w) A (compareOp .In (.ref b) (.ref a)) Q E s := by
  have R0 : DT0 s.heap a L := (I.hok a _ hd).1
  obtain ⟨xs, pr, dd⟩ := R0.full (P := X.prog) (w := X.w) fun p hp => I.isT (ht p hp)
  refine wpAny_in_heap (tupleKind_room_in1 hu) (I.isT hk) R0.sys dd ?_
  rcases at_pair (k := k) pr with ⟨e1, e2⟩ | ⟨v', p, e1, e2, rv⟩
  · rw [e2]; rw [e1] at h
    exact h _ (I.tok _)
  · rw [e2]; rw [e1] at h
    exact h _ (I.tok _)
/-- d[k] = v -/
theorem dtSet {A : Around} {E : Value → Shared → Prop} {v : V} {r : Value} {Q : Unit → Shared → Prop} (hu : A.units + 1 < cLine) (I : Inv X pins σ H s) (hd : H a = some (DTO a L)) (hl : L.length < sizeLine) (ht : ∀ p ∈ L, SqT X.K H p.2.1 (p.1.map V.int)) (hk : SqT X.K H b (k.map V.int)) (rv : RelV v r)
    (h : ∀ s', Inv X pins σ (upd H a (DTO a (putD0 L k b v))) s' → Q () s') : wpAny (model X.prog X.w) A (setItem (.ref a) (.ref b) r) Q E s := by
  have R0 : DT0 s.heap a L := (I.hok a _ hd).1
  obtain ⟨xs, pr, dd⟩ := R0.full (P := X.prog) (w := X.w) fun p hp => I.isT (ht p hp)
  have hz : xs.length ≤ sizeLine := by rw [← pr.length]; omega
  refine wpAny_setItem_heap (hsz := hz) (tupleKind_room_in1 hu) (I.isT hk) dd fun h' dd' hs => h _ ?_
  have he : ∃ q, h'.get? a = some q := let ⟨q, _, _, hq, _⟩ := dd'; ⟨q, hq⟩
  exact d_write I (by rw [hd]; exact True.intro) hs he (dto_ok (dt_of_full (by have := putD0_len L k b v; omega) R0.sys (put_pair rv pr) dd'))
/-- .. by a comprehension -/
theorem dtSetC {A : Around} {E : Value → Shared → Prop} {v : V} {r : Value} {Q : Unit → Shared → Prop} (hu : A.units + 1 < cLine) (I : Inv X pins σ H s) (hd : H a = some (DTO a L)) (hl : L.length < sizeLine) (ht : ∀ p ∈ L, SqT X.K H p.2.1 (p.1.map V.int)) (hk : SqT X.K H b (k.map V.int)) (rv : RelV v r)
    (h : ∀ s', Inv X pins σ (upd H a (DTO a (putD0 L k b v))) s' → Q () s') : wpAny (model X.prog X.w) A (dictSet a (.ref b) r) Q E s := by
  have R0 : DT0 s.heap a L := (I.hok a _ hd).1
  obtain ⟨xs, pr, dd⟩ := R0.full (P := X.prog) (w := X.w) fun p hp => I.isT (ht p hp)
  have hz : xs.length ≤ sizeLine := by rw [← pr.length]; omega
  refine wpAny_dictSet_heap (hsz := hz) (show A.units < cLine by omega) (I.isT hk) dd fun h' dd' hs => h _ ?_
  have he : ∃ q, h'.get? a = some q := let ⟨q, _, _, hq, _⟩ := dd'; ⟨q, hq⟩
  exact d_write I (by rw [hd]; exact True.intro) hs he (dto_ok (dt_of_full (by have := putD0_len L k b v; omega) R0.sys (put_pair rv pr) dd'))
end
end M

set_option Elab.async false
set_option linter.all false
set_option maxRecDepth 100000
set_option maxHeartbeats 4000000
namespace M
open PySem PySem.Spec PyProof.Rows L2

abbrev D := PyData
abbrev Ev := List (Option D)
abbrev Wd := List D
structure Ex where
  name : Str
  fld : Option Int := none
inductive Res (α : Type) where
  | bad
  | exc (e : Ex) (w : Wd)
  | ok (a : α) (w : Wd)
def Res.bind {α β : Type} : Res α → (α → Wd → Res β) → Res β
  | .bad, _ => .bad
  | .exc e w, _ => .exc e w
  | .ok a w, k => k a w
def ofO {α : Type} : Option α → Wd → Res α
  | some a, w => .ok a w
  | none, _ => .bad
@[simp] theorem bind_bad {α β : Type} (k : α → Wd → Res β) : (Res.bad : Res α).bind k = .bad := rfl
@[simp] theorem bind_exc {α β : Type} (e : Ex) (w : Wd) (k : α → Wd → Res β) : (Res.exc e w : Res α).bind k = .exc e w := rfl
@[simp] theorem bind_ok {α β : Type} (a : α) (w : Wd) (k : α → Wd → Res β) : (Res.ok a w : Res α).bind k = k a w := rfl
@[simp] theorem ofO_some {α : Type} (a : α) (w : Wd) : ofO (some a) w = .ok a w := rfl
@[simp] theorem ofO_none {α : Type} (w : Wd) : (ofO none w : Res α) = .bad := rfl
abbrev MM (α : Type) := Wd → Res α

/-! what a value is -/
mutual
inductive Rp (K : PySem.W.Frag) (H : Hp) : V → D → Prop
  | non : Rp K H .non .none
  | bl (b : Bool) : Rp K H (.bl b) (.bool b)
  | int (i : Int) : Rp K H (.int i) (.int i)
  | str (x : Str) : Rp K H (.str x) (.str x)
  | lst {a : Addr} {xs : List V} {ds : List D} : H a = some (.lst xs) → RpL K H xs ds → Rp K H (.ref a) (.list ds)
  | tup {a : Addr} {xs : List V} {ds : List D} : SqT K H a xs → RpL K H xs ds → Rp K H (.ref a) (.tuple ds)
inductive RpL (K : PySem.W.Frag) (H : Hp) : List V → List D → Prop
  | nil : RpL K H [] []
  | cons {v : V} {vs : List V} {d : D} {ds : List D} : Rp K H v d → RpL K H vs ds → RpL K H (v :: vs) (d :: ds)
end
theorem sameT {K : PySem.W.Frag} {H H' : Hp} {a : Addr} {xs : List V} (e : Same H H') (h : SqT K H a xs) : SqT K H' a xs := by
  rcases h with (h | ⟨o, h⟩) | h
  · exact .inl (.inl (e _ _ h))
  · exact .inl (.inr ⟨o, e _ _ h⟩)
  · exact .inr h
section
variable {K : PySem.W.Frag} {H H' : Hp}
mutual
theorem Rp.mono (s : Same H H') : ∀ (d : D) (v : V), Rp K H v d → Rp K H' v d
  | .none, _, h => by cases h; exact .non
  | .bool b, _, h => by cases h; exact .bl b
  | .int i, _, h => by cases h; exact .int i
  | .str x, _, h => by cases h; exact .str x
  | .list ds, _, h => by
    cases h with
    | lst h1 h2 => exact .lst (s _ _ h1) (RpL.mono s ds _ h2)
  | .tuple ds, _, h => by
    cases h with
    | tup h1 h2 => exact .tup (sameT s h1) (RpL.mono s ds _ h2)
  | .dict _, _, h => by cases h
theorem RpL.mono (s : Same H H') : ∀ (ds : List D) (vs : List V), RpL K H vs ds → RpL K H' vs ds
  | [], _, h => by cases h; exact .nil
  | d :: ds, _, h => by
    cases h with
    | cons h1 h2 => exact .cons (Rp.mono s d _ h1) (RpL.mono s ds _ h2)
end
mutual
theorem Rp.dp : ∀ (d : D) (v : V), Rp K H v d → Dp K H v d
  | .none, _, h => by cases h; exact .non
  | .bool b, _, h => by cases h; exact .bl b
  | .int i, _, h => by cases h; exact .int i
  | .str x, _, h => by cases h; exact .str x
  | .list ds, _, h => by
    cases h with
    | lst h1 h2 => exact .lst (SqL.of h1) (RpL.dp ds _ h2)
  | .tuple ds, _, h => by
    cases h with
    | tup h1 h2 => exact .tup h1 (RpL.dp ds _ h2)
  | .dict _, _, h => by cases h
theorem RpL.dp : ∀ (ds : List D) (vs : List V), RpL K H vs ds → DpAll K H vs ds
  | [], _, h => by cases h; exact .nil
  | d :: ds, _, h => by
    cases h with
    | cons h1 h2 => exact .cons (Rp.dp d _ h1) (RpL.dp ds _ h2)
end
theorem RpL.length : ∀ {ds : List D} {vs : List V}, RpL K H vs ds → vs.length = ds.length
  | [], _, h => by cases h; rfl
  | d :: ds, _, h => by
    cases h with
    | cons h1 h2 => simp [RpL.length h2]
theorem RpL.get : ∀ {ds : List D} {vs : List V} {i : Nat} {d : D}, RpL K H vs ds → ds[i]? = some d → ∃ v, vs[i]? = some v ∧ Rp K H v d
  | [], _, _, _, _, e => by simp at e
  | d :: ds, _, 0, _, h, e => by
    cases h with
    | cons h1 h2 => simp at e; subst e; exact ⟨_, rfl, h1⟩
  | d :: ds, _, i + 1, _, h, e => by
    cases h with
    | cons h1 h2 =>
      obtain ⟨v, h3, h4⟩ := RpL.get h2 (by simpa using e)
      exact ⟨v, by simpa using h3, h4⟩
theorem RpL.get' : ∀ {ds : List D} {vs : List V} {i : Nat} {v : V}, RpL K H vs ds → vs[i]? = some v → ∃ d, ds[i]? = some d ∧ Rp K H v d
  | [], _, _, _, h, e => by cases h; simp at e
  | d :: ds, _, 0, _, h, e => by
    cases h with
    | cons h1 h2 => simp at e; subst e; exact ⟨_, rfl, h1⟩
  | d :: ds, _, i + 1, _, h, e => by
    cases h with
    | cons h1 h2 =>
      obtain ⟨v, h3, h4⟩ := RpL.get' h2 (by simpa using e)
      exact ⟨v, by simpa using h3, h4⟩
theorem RpL.append : ∀ {ds es : List D} {vs us : List V}, RpL K H vs ds → RpL K H us es → RpL K H (vs ++ us) (ds ++ es)
  | [], _, _, _, h, g => by cases h; exact g
  | d :: ds, _, _, _, h, g => by
    cases h with
    | cons h1 h2 => exact .cons h1 (h2.append g)
theorem RpL.set {d : D} {v : V} (r : Rp K H v d) : ∀ {ds : List D} {vs : List V} (i : Nat), RpL K H vs ds → RpL K H (vs.set i v) (ds.set i d)
  | [], _, _, h => by cases h; exact .nil
  | _ :: _, _, 0, h => by
    cases h with
    | cons h1 h2 => exact .cons r h2
  | _ :: _, _, i + 1, h => by
    cases h with
    | cons h1 h2 => exact .cons h1 (h2.set r i)
theorem RpL.take : ∀ {ds : List D} {vs : List V} (n : Nat), RpL K H vs ds → RpL K H (vs.take n) (ds.take n)
  | _, _, 0, _ => by simp; exact .nil
  | [], _, _ + 1, h => by cases h; exact .nil
  | _ :: _, _, n + 1, h => by
    cases h with
    | cons h1 h2 => exact .cons h1 (h2.take n)
theorem RpL.drop : ∀ {ds : List D} {vs : List V} (n : Nat), RpL K H vs ds → RpL K H (vs.drop n) (ds.drop n)
  | _, _, 0, h => by simpa using h
  | [], _, _ + 1, h => by cases h; exact .nil
  | _ :: _, _, n + 1, h => by
    cases h with
    | cons h1 h2 => exact h2.drop n
theorem RpL.reverse : ∀ {ds : List D} {vs : List V}, RpL K H vs ds → RpL K H vs.reverse ds.reverse
  | [], _, h => by cases h; exact .nil
  | _ :: _, _, h => by
    cases h with
    | cons h1 h2 => simp only [List.reverse_cons]; exact h2.reverse.append (.cons h1 .nil)
theorem RpL.dropLast {ds : List D} {vs : List V} (h : RpL K H vs ds) : RpL K H vs.dropLast ds.dropLast := by
  rw [List.dropLast_eq_take, List.dropLast_eq_take, h.length]; exact h.take _
/-- lists of ints -/
theorem RpL.ints : ∀ {ns : List Int} {vs : List V}, RpL K H vs (ns.map PyData.int) → vs = ns.map V.int
  | [], _, h => by cases h; rfl
  | n :: ns, _, h => by
    cases h with
    | cons h1 h2 => cases h1; simp [RpL.ints h2]
theorem RpL.of_ints : ∀ (ns : List Int), RpL K H (ns.map V.int) (ns.map PyData.int)
  | [] => .nil
  | n :: ns => .cons (.int n) (RpL.of_ints ns)
theorem RpL.bools : ∀ {ns : List Bool} {vs : List V}, RpL K H vs (ns.map PyData.bool) → vs = ns.map V.bl
  | [], _, h => by cases h; rfl
  | n :: ns, _, h => by
    cases h with
    | cons h1 h2 => cases h1; simp [RpL.bools h2]
end
def intsOf : List D → Option (List Int)
  | [] => some []
  | .int i :: r => (intsOf r).map (i :: ·)
  | _ :: _ => none
def boolsOf : List D → Option (List Bool)
  | [] => some []
  | .bool i :: r => (boolsOf r).map (i :: ·)
  | _ :: _ => none
theorem intsOf_eq : ∀ {ds : List D} {ns : List Int}, intsOf ds = some ns → ds = ns.map PyData.int
  | [], _, h => by simp [intsOf] at h; subst h; rfl
  | .int i :: r, ns, h => by
    simp only [intsOf, Option.map_eq_some_iff] at h
    obtain ⟨a, h1, rfl⟩ := h
    simp [intsOf_eq h1]
  | .none :: _, _, h => by simp [intsOf] at h
  | .bool _ :: _, _, h => by simp [intsOf] at h
  | .str _ :: _, _, h => by simp [intsOf] at h
  | .list _ :: _, _, h => by simp [intsOf] at h
  | .tuple _ :: _, _, h => by simp [intsOf] at h
  | .dict _ :: _, _, h => by simp [intsOf] at h
theorem boolsOf_eq : ∀ {ds : List D} {ns : List Bool}, boolsOf ds = some ns → ds = ns.map PyData.bool
  | [], _, h => by simp [boolsOf] at h; subst h; rfl
  | .bool i :: r, ns, h => by
    simp only [boolsOf, Option.map_eq_some_iff] at h
    obtain ⟨a, h1, rfl⟩ := h
    simp [boolsOf_eq h1]
  | .none :: _, _, h => by simp [boolsOf] at h
  | .int _ :: _, _, h => by simp [boolsOf] at h
  | .str _ :: _, _, h => by simp [boolsOf] at h
  | .list _ :: _, _, h => by simp [boolsOf] at h
  | .tuple _ :: _, _, h => by simp [boolsOf] at h
  | .dict _ :: _, _, h => by simp [boolsOf] at h
@[simp] theorem intsOf_map : ∀ (ns : List Int), intsOf (ns.map PyData.int) = some ns
  | [] => rfl
  | n :: ns => by simp [intsOf, intsOf_map ns]
@[simp] theorem boolsOf_map : ∀ (ns : List Bool), boolsOf (ns.map PyData.bool) = some ns
  | [] => rfl
  | n :: ns => by simp [boolsOf, boolsOf_map ns]

/-! heaps: the frozen part F under H -/
structure Xt (b : Option Addr) (F H F' H' : Hp) : Prop where
  ff : Same F F'
  fh : Same F' H'
  keep : ∀ a o, H a = some o → b ≠ some a → H' a = some o
  dom : ∀ a, H a ≠ none → H' a ≠ none
  new : ∀ a, H a ≠ none → F' a = F a
theorem Xt.refl {b : Option Addr} {F H : Hp} (h : Same F H) : Xt b F H F H := ⟨Same.refl _, h, fun _ _ h _ => h, fun _ h => h, fun _ _ => rfl⟩
theorem Xt.trans {b : Option Addr} {F H F1 H1 F2 H2 : Hp} (x : Xt b F H F1 H1) (y : Xt b F1 H1 F2 H2) : Xt b F H F2 H2 :=
  ⟨x.ff.trans y.ff, y.fh, fun a o h n => y.keep a o (x.keep a o h n) n, fun a h => y.dom a (x.dom a h), fun a h => (y.new a (x.dom a h)).trans (x.new a h)⟩
theorem Xt.any {b : Option Addr} {F H F' H' : Hp} (x : Xt none F H F' H') : Xt b F H F' H' := ⟨x.ff, x.fh, fun a o h _ => x.keep a o h (by simp), x.dom, x.new⟩
theorem Same.none {F H : Hp} (h : Same F H) {p : Addr} (e : H p = none) : F p = none := Same.free h e
theorem same_upd {H : Hp} {p : Addr} {o : HO} (h : H p = none) : Same H (upd H p o) := fun b x e => by
  rw [upd_ne (ne_of_none e h)]; exact e
/-- a new object, frozen -/
theorem Xt.alloc {b : Option Addr} {F H : Hp} {p : Addr} {o : HO} (h : Same F H) (e : H p = none) : Xt b F H (upd F p o) (upd H p o) := by
  refine ⟨same_upd (Same.none h e), fun a u q => ?_, fun a u q _ => ?_, fun a q => ?_, fun a q => ?_⟩
  · by_cases ha : a = p
    · subst ha; rw [upd_same] at q ⊢; exact q
    · rw [upd_ne ha] at q ⊢; exact h _ _ q
  · rw [upd_ne (ne_of_none q e)]; exact q
  · have ha : a ≠ p := fun z => q (z ▸ e)
    rw [upd_ne ha]; exact q
  · have ha : a ≠ p := fun z => q (z ▸ e)
    rw [upd_ne ha]
/-- a new object, not frozen -/
theorem Xt.alloc0 {b : Option Addr} {F H : Hp} {p : Addr} {o : HO} (h : Same F H) (e : H p = none) : Xt b F H F (upd H p o) := by
  refine ⟨Same.refl _, h.trans (same_upd e), fun a u q _ => ?_, fun a q => ?_, fun a q => rfl⟩
  · rw [upd_ne (ne_of_none q e)]; exact q
  · have ha : a ≠ p := fun z => q (z ▸ e)
    rw [upd_ne ha]; exact q

structure CM where
  K : PySem.W.Frag
  mg : Str → Option Value
  H0 : Hp
  F0 : Hp
  b : Option Addr
def BorOk (c : CM) (F : Hp) (ω : Wd) (H : Hp) : Prop := ∀ b, c.b = some b → c.H0 b ≠ none ∧ F b = none ∧ ∃ us, H b = some (.lst us) ∧ RpL c.K F us ω
theorem BorOk.ext {c : CM} {F H F' H' : Hp} {ω : Wd} (h : BorOk c F ω H) (x : Xt none F H F' H') : BorOk c F' ω H' := fun b e => by
  obtain ⟨h0, h1, us, h2, h3⟩ := h b e
  exact ⟨h0, by rw [x.new b (by rw [h2]; simp)]; exact h1, us, x.keep b _ h2 (by simp), h3.mono x.ff⟩
structure Frm (c : CM) (F : Hp) (ω : Wd) (H : Hp) : Prop where
  xt : Xt c.b c.F0 c.H0 F H
  bo : BorOk c F ω H
structure Md where
  O : List Nat := []
  B : Option Nat := none
  T : Option Nat := none
/-- a slot that may be assigned -/
def Md.Fr (m : Md) (i : Nat) : Prop := m.B ≠ some i ∧ m.T ≠ some i
instance (m : Md) (i : Nat) : Decidable (m.Fr i) := by unfold Md.Fr; infer_instance
/-- a slot that may be read -/
def Md.Rd (m : Md) (i : Nat) : Prop := i ∉ m.O ∧ m.T ≠ some i
instance (m : Md) (i : Nat) : Decidable (m.Rd i) := by unfold Md.Rd; infer_instance
/-- keys and values of a dict -/
def RpD (K : PySem.W.Frag) (F : Hp) (L : DL) (es : List (D × D)) : Prop := Paired (fun (p : List Int × Addr × V) (e : D × D) => e.1 = .tuple (p.1.map .int) ∧ SqT K F p.2.1 (p.1.map V.int) ∧ Rp K F p.2.2 e.2) L es
theorem RpD.mono {K : PySem.W.Frag} {F F' : Hp} {L : DL} {es : List (D × D)} (s : Same F F') (h : RpD K F L es) : RpD K F' L es := Paired.mapP h fun _ _ z => ⟨z.1, sameT s z.2.1, z.2.2.mono s⟩
structure SR (c : CM) (m : Md) (F : Hp) (ρ : Ev) (ω : Wd) (σ : L2.St) (H : Hp) : Prop where
  fr : Frm c F ω H
  len : ρ.length = σ.length
  dat : ∀ i d, ρ[i]? = some (some d) → m.Rd i → ∃ v, σ[i]? = some (some v) ∧ Rp c.K F v d
  own : ∀ i d, ρ[i]? = some (some d) → i ∈ m.O → ∃ l us ds, σ[i]? = some (some (.ref l)) ∧ d = .list ds ∧ c.H0 l = none ∧ F l = none ∧ H l = some (.lst us) ∧ RpL c.K F us ds
  sep : ∀ i j l di dj, i ∈ m.O → j ∈ m.O → ρ[i]? = some (some di) → ρ[j]? = some (some dj) → σ[i]? = some (some (.ref l)) → σ[j]? = some (some (.ref l)) → i = j
  bsl : ∀ i, m.B = some i → ρ[i]? = some none ∧ ∃ b, c.b = some b ∧ σ[i]? = some (some (.ref b))
  tsl : ∀ i d, m.T = some i → ρ[i]? = some (some d) → ∃ l L es, σ[i]? = some (some (.ref l)) ∧ d = .dict es ∧ c.H0 l = none ∧ F l = none ∧ H l = some (DTO l L) ∧ RpD c.K F L es
theorem SR.fh {c : CM} {m : Md} {F : Hp} {ρ : Ev} {ω : Wd} {σ : L2.St} {H : Hp} (S : SR c m F ρ ω σ H) : Same F H := S.fr.xt.fh
theorem SR.bo {c : CM} {m : Md} {F : Hp} {ρ : Ev} {ω : Wd} {σ : L2.St} {H : Hp} (S : SR c m F ρ ω σ H) : BorOk c F ω H := S.fr.bo
theorem SR.step {c : CM} {m : Md} {F F' : Hp} {ρ : Ev} {ω ω' : Wd} {σ : L2.St} {H H' : Hp} (S : SR c m F ρ ω σ H) (x : Xt c.b F H F' H') (bo : BorOk c F' ω' H') : SR c m F' ρ ω' σ H' where
  fr := ⟨S.fr.xt.trans x, bo⟩
  len := S.len
  dat := fun i d e n => by
    obtain ⟨v, h1, h2⟩ := S.dat i d e n
    exact ⟨v, h1, h2.mono x.ff⟩
  own := fun i d e n => by
    obtain ⟨l, us, ds, h1, h2, h3, h4, h5, h6⟩ := S.own i d e n
    refine ⟨l, us, ds, h1, h2, h3, by rw [x.new l (by rw [h5]; simp)]; exact h4, x.keep l _ h5 (fun z => ?_), h6.mono x.ff⟩
    exact (S.bo l z).1 h3
  sep := S.sep
  bsl := S.bsl
  tsl := fun i d e n => by
    obtain ⟨l, L, es, h1, h2, h3, h4, h5, h6⟩ := S.tsl i d e n
    refine ⟨l, L, es, h1, h2, h3, by rw [x.new l (by rw [h5]; simp)]; exact h4, x.keep l _ h5 (fun z => ?_), h6.mono x.ff⟩
    exact (S.bo l z).1 h3

def RepX (c : CM) (e : Ex) (cls : Value) (dd : Option Addr) (H : Hp) : Prop :=
  ∃ C, c.mg e.name = some (.ref C) ∧ cls = .ref C ∧ match e.fld with
    | none => dd = none
    | some n => ∃ a, dd = some a ∧ H a = some (.xd [("place", .int n)])

def Post {α : Type} (c : CM) (W : WX) (F H : Hp) (σ : L2.St) (R : α → Hp → Hp → Wd → Prop) : Res α → Prop
  | .bad => False
  | .ok a ω => ∀ F' H', Xt c.b F H F' H' → BorOk c F' ω H' → R a F' H' ω
  | .exc e ω => ∀ F' H' cls dd, Xt c.b F H F' H' → BorOk c F' ω H' → RepX c e cls dd H' → W cls dd σ H'
structure PGd {β : Type} (c : CM) (W : WX) (σ : L2.St) (G : Hp → Hp → Res β → Prop) : Prop where
  bad : ∀ F H, ¬ G F H .bad
  exc : ∀ F H e ω, G F H (.exc e ω) → ∀ F' H' cls dd, Xt c.b F H F' H' → BorOk c F' ω H' → RepX c e cls dd H' → W cls dd σ H'
  mono : ∀ F H F1 H1 r, Xt c.b F H F1 H1 → G F H r → G F1 H1 r
theorem Post.pg {α : Type} {c : CM} {W : WX} {σ : L2.St} {R : α → Hp → Hp → Wd → Prop} : PGd c W σ (fun F H r => Post c W F H σ R r) where
  bad := fun _ _ h => h
  exc := fun _ _ _ _ h => h
  mono := fun F H F1 H1 r x h => by
    cases r with
    | bad => exact h
    | ok a ω => exact fun F' H' y bo => h F' H' (x.trans y) bo
    | exc e ω => exact fun F' H' cls dd y bo r => h F' H' cls dd (x.trans y) bo r
theorem bindT {α β : Type} {c : CM} {W : WX} {m : Md} {F H : Hp} {ρ : Ev} {ω : Wd} {σ : L2.St} {G : Hp → Hp → Res β → Prop} (S : SR c m F ρ ω σ H) (pg : PGd c W σ G) {r1 : Res α} {k : α → Wd → Res β} (h : G F H (r1.bind k))
    {R : α → Hp → Hp → Wd → Prop} (cont : ∀ a F1 H1 ω1, Xt c.b F H F1 H1 → SR c m F1 ρ ω1 σ H1 → G F1 H1 (k a ω1) → R a F1 H1 ω1) : Post c W F H σ R r1 := by
  cases r1 with
  | bad => exact pg.bad _ _ h
  | exc e w => exact pg.exc _ _ _ _ h
  | ok a w => exact fun F' H' x bo => cont a F' H' w x (S.step x bo) (pg.mono _ _ _ _ _ x h)

def TD (c : CM) (W : WX) (m : Md) (d : Ev → MM D) : TE := fun σ H Q => ∃ F ρ ω, SR c m F ρ ω σ H ∧ Post c W F H σ (fun v F' H' _ => ∀ x, Rp c.K F' x v → Q x H') (d ρ ω)
def TDb (c : CM) (W : WX) (m : Md) (d : Ev → MM Bool) : TT := fun σ H Q => ∃ F ρ ω, SR c m F ρ ω σ H ∧ Post c W F H σ (fun b _ H' _ => Q b H') (d ρ ω)
def TDa (c : CM) (W : WX) (m : Md) (d : Ev → MM (List D)) : TA := fun σ H Q => ∃ F ρ ω, SR c m F ρ ω σ H ∧ Post c W F H σ (fun vs F' H' _ => ∀ xs, RpL c.K F' xs vs → Q xs H') (d ρ ω)
section
variable {X : Cx} {e : Expr} {es : List Expr} {st : Stmt} {sts : List Stmt}
theorem PEimp {t t' : TE} (h : PE X e t) (i : ∀ σ H Q, t' σ H Q → t σ H Q) : PE X e t' := ⟨fun p s σ H Q I q => h.run p s σ H Q I (i _ _ _ q)⟩
theorem PTimp {t t' : TT} (h : PT X e t) (i : ∀ σ H Q, t' σ H Q → t σ H Q) : PT X e t' := ⟨fun p s σ H Q I q => h.run p s σ H Q I (i _ _ _ q)⟩
theorem PWimp {t t' : TT} (h : PW X e t) (i : ∀ σ H Q, t' σ H Q → t σ H Q) : PW X e t' := ⟨fun w p s σ H Q I q => h.run w p s σ H Q I (i _ _ _ q)⟩
theorem PAimp {t t' : TA} (h : PA X es t) (i : ∀ σ H Q, t' σ H Q → t σ H Q) : PA X es t' := ⟨fun p pp s σ H Q I q => h.run p pp s σ H Q I (i _ _ _ q)⟩
theorem PSimp {t t' : TS} (h : PS X st t) (i : ∀ D σ H, t' D σ H → t D σ H) : PS X st t' := ⟨fun p s σ H D I q => h.run p s σ H D I (i _ _ _ q)⟩
theorem PSsimp {t t' : TS} (h : PSs X sts t) (i : ∀ D σ H, t' D σ H → t D σ H) : PSs X sts t' := ⟨fun p s σ H D I q => h.run p s σ H D I (i _ _ _ q)⟩
end
end M

set_option Elab.async false
set_option linter.all false
set_option maxRecDepth 100000
set_option maxHeartbeats 4000000
namespace M
open PySem PySem.Spec PyProof.Rows L2

/-! ### denotations of expressions -/
def look : Ev → Nat → Option D
  | [], _ => none
  | o :: _, 0 => o
  | _ :: r, n + 1 => look r n
theorem look_iff : ∀ {ρ : Ev} {i : Nat} {d : D}, look ρ i = some d → ρ[i]? = some (some d)
  | [], _, _, h => by simp [look] at h
  | o :: _, 0, _, h => by simp [look] at h; simp [h]
  | _ :: r, n + 1, _, h => by simp [look] at h; simpa using look_iff h
def eVar (i : Nat) : Ev → MM D := fun ρ ω => ofO (look ρ i) ω
def eC (d : D) : Ev → MM D := fun _ ω => .ok d ω
def eUn (f : D → Option D) (d1 : Ev → MM D) : Ev → MM D := fun ρ ω => (d1 ρ ω).bind fun a w => ofO (f a) w
def eBin (f : D → D → Option D) (d1 d2 : Ev → MM D) : Ev → MM D := fun ρ ω => (d1 ρ ω).bind fun a w => (d2 ρ w).bind fun b w => ofO (f a b) w
def bBin (f : D → D → Option Bool) (d1 d2 : Ev → MM D) : Ev → MM Bool := fun ρ ω => (d1 ρ ω).bind fun a w => (d2 ρ w).bind fun b w => ofO (f a b) w
def bChain (f g : D → D → Option Bool) (d1 d2 d3 : Ev → MM D) : Ev → MM Bool := fun ρ ω => (d1 ρ ω).bind fun a w => (d2 ρ w).bind fun b w => (ofO (f a b) w).bind fun t w => match t with
  | true => (d3 ρ w).bind fun c w => ofO (g b c) w
  | false => .ok false w
def eOfB (d : Ev → MM Bool) : Ev → MM D := fun ρ ω => (d ρ ω).bind fun b w => .ok (.bool b) w
def asB : D → Option Bool
  | .bool b => some b
  | _ => none
def bOfE (d : Ev → MM D) : Ev → MM Bool := fun ρ ω => (d ρ ω).bind fun a w => ofO (asB a) w
def truth : D → Option Bool
  | .none => some false
  | .bool b => some b
  | .int i => some (i != 0)
  | .list xs => some (!xs.isEmpty)
  | .tuple xs => some (!xs.isEmpty)
  | _ => none
def bTru (d : Ev → MM D) : Ev → MM Bool := fun ρ ω => (d ρ ω).bind fun a w => ofO (truth a) w
def bNot (d : Ev → MM Bool) : Ev → MM Bool := fun ρ ω => (d ρ ω).bind fun b w => .ok (!b) w
def bAnd (d1 d2 : Ev → MM Bool) : Ev → MM Bool := fun ρ ω => (d1 ρ ω).bind fun b w => match b with
  | true => d2 ρ w
  | false => .ok false w
def bOr (d1 d2 : Ev → MM Bool) : Ev → MM Bool := fun ρ ω => (d1 ρ ω).bind fun b w => match b with
  | true => .ok true w
  | false => d2 ρ w
def eIf (t : Ev → MM Bool) (d1 d2 : Ev → MM D) : Ev → MM D := fun ρ ω => (t ρ ω).bind fun b w => match b with
  | true => d1 ρ w
  | false => d2 ρ w
def aNil : Ev → MM (List D) := fun _ ω => .ok [] ω
def aCons (d : Ev → MM D) (ds : Ev → MM (List D)) : Ev → MM (List D) := fun ρ ω => (d ρ ω).bind fun a w => (ds ρ w).bind fun r w => .ok (a :: r) w
def eTup (ds : Ev → MM (List D)) : Ev → MM D := fun ρ ω => (ds ρ ω).bind fun r w => .ok (.tuple r) w
def eLst (ds : Ev → MM (List D)) : Ev → MM D := fun ρ ω => (ds ρ ω).bind fun r w => .ok (.list r) w
def eArgs (f : List D → Option D) (ds : Ev → MM (List D)) : Ev → MM D := fun ρ ω => (ds ρ ω).bind fun r w => ofO (f r) w
def Res.at {α : Type} : Res α → Wd → Res α
  | .bad, _ => .bad
  | .exc e _, w => .exc e w
  | .ok a _, w => .ok a w
@[simp] theorem at_ok {α : Type} (a : α) (w v : Wd) : (Res.ok a w).at v = .ok a v := rfl
@[simp] theorem at_exc {α : Type} (e : Ex) (w v : Wd) : (Res.exc e w : Res α).at v = .exc e v := rfl
@[simp] theorem at_bad {α : Type} (v : Wd) : (Res.bad : Res α).at v = .bad := rfl
def eCall (f : List D → Res D) (ds : Ev → MM (List D)) : Ev → MM D := fun ρ ω => (ds ρ ω).bind fun r w => (f r).at w
/-- a call whose first argument is the borrowed list -/
def eCallS (f : List D → MM D) (ds : Ev → MM (List D)) : Ev → MM D := fun ρ ω => (ds ρ ω).bind fun r w => f r w

def AL (n : Nat) (ds : Ev → MM (List D)) : Prop := ∀ ρ ω r w, ds ρ ω = .ok r w → r.length = n
theorem AL.nil : AL 0 aNil := fun ρ ω r w h => by simp [aNil] at h; simp [← h.1]
theorem AL.cons {n : Nat} {d : Ev → MM D} {ds : Ev → MM (List D)} (h : AL n ds) : AL (n + 1) (aCons d ds) := fun ρ ω r w e => by
  unfold aCons at e
  cases e1 : d ρ ω with
  | bad => rw [e1] at e; cases e
  | exc x y => rw [e1] at e; cases e
  | ok a w1 =>
    rw [e1, bind_ok] at e
    cases e2 : ds ρ w1 with
    | bad => rw [e2] at e; cases e
    | exc x y => rw [e2] at e; cases e
    | ok b w2 =>
      rw [e2, bind_ok] at e
      cases e
      simp [h _ _ _ _ e2]

/-! ### the judgements -/
abbrev E (c : CM) (W : WX) (m : Md) (X : Cx) (e : Expr) (d : Ev → MM D) : Prop := PE X e (TD c W m d)
abbrev B (c : CM) (W : WX) (m : Md) (X : Cx) (e : Expr) (d : Ev → MM Bool) : Prop := PT X e (TDb c W m d)
abbrev BW (c : CM) (W : WX) (m : Md) (X : Cx) (e : Expr) (d : Ev → MM Bool) : Prop := PW X e (TDb c W m d)
structure A (c : CM) (W : WX) (m : Md) (X : Cx) (es : List Expr) (d : Ev → MM (List D)) : Prop where
  pa : PA X es (TDa c W m d)
  len : AL es.length d
/-- values out of values; what is new is frozen -/
def VOp (K : PySem.W.Frag) (r : R2) (f : D → D → Option D) : Prop := ∀ F H x y a b v Q, Same F H → Rp K F x a → Rp K F y b → f a b = some v → (∀ F' H' z, Xt none F H F' H' → Rp K F' z v → Q z H') → r x y H Q
def VOpB (K : PySem.W.Frag) (r : R2) (f : D → D → Option Bool) : Prop := ∀ F H x y a b v Q, Same F H → Rp K F x a → Rp K F y b → f a b = some v → Q (.bl v) H → r x y H Q
def VUn (K : PySem.W.Frag) (r : V → Hp → VK → Prop) (f : D → Option D) : Prop := ∀ F H x a v Q, Same F H → Rp K F x a → f a = some v → (∀ F' H' z, Xt none F H F' H' → Rp K F' z v → Q z H') → r x H Q
def VAr (K : PySem.W.Frag) (r : List V → Hp → VK → Prop) (f : List D → Option D) : Prop := ∀ F H xs as v Q, Same F H → RpL K F xs as → f as = some v → (∀ F' H' z, Xt none F H F' H' → Rp K F' z v → Q z H') → r xs H Q

section
variable {c : CM} {W : WX} {m : Md} {X : Cx} {e a b : Expr} {es : List Expr} {pos : Pos}
/-- the end of a pure step -/
theorem post_ofO {α : Type} {F H : Hp} {σ : L2.St} {ω : Wd} {R : α → Hp → Hp → Wd → Prop} {o : Option α} (S : Same F H) (bo : BorOk c F ω H) (h : Post c W F H σ R (ofO o ω)) : ∃ v, o = some v ∧ ∀ F' H', Xt none F H F' H' → R v F' H' ω := by
  cases o with
  | none => exact h.elim
  | some v => exact ⟨v, rfl, fun F' H' x => h F' H' x.any (bo.ext x)⟩
theorem e_var {i : Nat} {x : Str} (hi : m.Rd i) (h : PE X (.Name x pos) (tVar i)) : E c W m X (.Name x pos) (eVar i) := PEimp h fun σ H Q ⟨F, ρ, ω, S, q⟩ => by
  obtain ⟨d, e1, q⟩ := post_ofO S.fh S.bo q
  obtain ⟨v, h1, h2⟩ := S.dat i d (look_iff e1) hi
  exact ⟨v, h1, q F H (Xt.refl S.fh) v h2⟩
theorem e_c {v : V} {d : D} (h : PE X e (tC v)) (r : ∀ F, Rp c.K F v d) : E c W m X e (eC d) := PEimp h fun σ H Q ⟨F, ρ, ω, S, q⟩ => q F H (Xt.refl S.fh) S.bo v (r F)
theorem e_int {i j} : E c W m X (.Constant (.int i) j pos) (eC (.int i)) := e_c pe_int fun _ => .int i
theorem e_bl {i j} : E c W m X (.Constant (.bool i) j pos) (eC (.bool i)) := e_c pe_bl fun _ => .bl i
theorem e_str {i j} : E c W m X (.Constant (.str i) j pos) (eC (.str i)) := e_c pe_str fun _ => .str i
theorem e_non {j} : E c W m X (.Constant .none j pos) (eC .none) := e_c pe_non fun _ => .non

theorem bin_step {F H : Hp} {ρ : Ev} {ω : Wd} {σ : L2.St} {β : Type} {G : Hp → Hp → Res β → Prop} {d1 d2 : Ev → MM D} {k : D → D → Wd → Res β} {R : V → V → Hp → Prop} (S : SR c m F ρ ω σ H) (pg : PGd c W σ G)
    (q : G F H ((d1 ρ ω).bind fun a w => (d2 ρ w).bind fun b w => k a b w))
    (cont : ∀ F2 H2 x y a b w, Xt c.b F H F2 H2 → SR c m F2 ρ w σ H2 → Rp c.K F2 x a → Rp c.K F2 y b → G F2 H2 (k a b w) → R x y H2) :
    TD c W m d1 σ H fun x H1 => TD c W m d2 σ H1 fun y H2 => R x y H2 := by
  refine ⟨F, ρ, ω, S, bindT S pg q fun a F1 H1 w1 x1 S1 q1 x r1 => ?_⟩
  refine ⟨F1, ρ, w1, S1, bindT S1 pg q1 fun b F2 H2 w2 x2 S2 q2 y r2 => ?_⟩
  exact cont F2 H2 x y a b w2 (x1.trans x2) S2 (r1.mono x2.ff) r2 q2
theorem e_bin {op : Operator} {r : R2} {f : D → D → Option D} {d1 d2 : Ev → MM D} (ho : OpR X (binaryOp op) r) (v : VOp c.K r f) (h1 : E c W m X a d1) (h2 : E c W m X b d2) : E c W m X (.BinOp a op b pos) (eBin f d1 d2) :=
  PEimp (pe_op ho h1 h2) fun σ H Q ⟨F, ρ, ω, S, q⟩ => bin_step S Post.pg q fun F2 H2 x y a b w _ S2 r1 r2 q2 => by
    obtain ⟨z, e1, q3⟩ := post_ofO S2.fh S2.bo q2
    exact v F2 H2 x y a b z Q S2.fh r1 r2 e1 fun F' H' z' xt rz => q3 F' H' xt z' rz
theorem e_un {op : UnaryOp} {r : V → Hp → VK → Prop} {f : D → Option D} {d1 : Ev → MM D} (ho : UnR X (unaryOp op) r) (v : VUn c.K r f) (h1 : E c W m X a d1) : E c W m X (.UnaryOp op a pos) (eUn f d1) :=
  PEimp (pe_un ho h1) fun σ H Q ⟨F, ρ, ω, S, q⟩ => ⟨F, ρ, ω, S, bindT S Post.pg q fun a F1 H1 w1 x1 S1 q1 x r1 => by
    obtain ⟨z, e1, q3⟩ := post_ofO S1.fh S1.bo q1
    exact v F1 H1 x a z Q S1.fh r1 e1 fun F' H' z' xt rz => q3 F' H' xt z' rz⟩
theorem e_ix {r : R2} {f : D → D → Option D} {d1 d2 : Ev → MM D} (ho : IxR X r) (v : VOp c.K r f) (h1 : E c W m X a d1) (h2 : E c W m X b d2) (hs : PlainIx b) : E c W m X (.Subscript a b pos) (eBin f d1 d2) :=
  PEimp (pe_ix ho h1 h2 hs) fun σ H Q ⟨F, ρ, ω, S, q⟩ => bin_step S Post.pg q fun F2 H2 x y a b w _ S2 r1 r2 q2 => by
    obtain ⟨z, e1, q3⟩ := post_ofO S2.fh S2.bo q2
    exact v F2 H2 x y a b z Q S2.fh r1 r2 e1 fun F' H' z' xt rz => q3 F' H' xt z' rz
theorem e_cmp {op : CmpOp} {r : R2} {f : D → D → Option Bool} {d1 d2 : Ev → MM D} (ho : OpR X (compareOp op) r) (v : VOpB c.K r f) (h1 : E c W m X a d1) (h2 : E c W m X b d2) (hm : behindInMarks op b = false) : E c W m X (.Compare a [op] [b] pos) (eOfB (bBin f d1 d2)) :=
  PEimp (pe_cmpR ho h1 h2 hm) fun σ H Q ⟨F, ρ, ω, S, q⟩ => by
    have q' : Post c W F H σ (fun v F' H' _ => ∀ x, Rp c.K F' x v → Q x H') ((d1 ρ ω).bind fun a w => (d2 ρ w).bind fun b w => (ofO (f a b) w).bind fun t w => .ok (.bool t) w) := by
      unfold eOfB bBin at q
      cases h : d1 ρ ω with
      | ok a w =>
        rw [h] at q
        cases h' : d2 ρ w with
        | ok b w' => simpa [h'] using q
        | _ => simpa [h'] using q
      | _ => rw [h] at q; exact q
    exact bin_step S Post.pg q' fun F2 H2 x y a b w _ S2 r1 r2 q2 => by
      cases e1 : f a b with
      | none => rw [e1] at q2; exact q2.elim
      | some t =>
        rw [e1] at q2
        exact v F2 H2 x y a b t Q S2.fh r1 r2 e1 (q2 F2 H2 (Xt.refl S2.fh) S2.bo _ (.bl t))
theorem b_cmp {op : CmpOp} {r : R2} {f : D → D → Option Bool} {d1 d2 : Ev → MM D} (ho : OpR X (compareOp op) r) (v : VOpB c.K r f) (h1 : E c W m X a d1) (h2 : E c W m X b d2) (hm : behindInMarks op b = false) : B c W m X (.Compare a [op] [b] pos) (bBin f d1 d2) :=
  PTimp (pt_cmpR ho h1 h2 hm) fun σ H Q ⟨F, ρ, ω, S, q⟩ => bin_step S Post.pg q fun F2 H2 x y a b w _ S2 r1 r2 q2 => by
    obtain ⟨z, e1, q3⟩ := post_ofO S2.fh S2.bo q2
    exact v F2 H2 x y a b z _ S2.fh r1 r2 e1 ⟨z, rfl, q3 F2 H2 (Xt.refl S2.fh)⟩
theorem b_chain {op op' : CmpOp} {r r' : R2} {f g : D → D → Option Bool} {d1 d2 d3 : Ev → MM D} {cc : Expr} (ho : OpR X (compareOp op) r) (ho' : OpR X (compareOp op') r') (v : VOpB c.K r f) (v' : VOpB c.K r' g) (h1 : E c W m X a d1) (h2 : E c W m X b d2) (h3 : E c W m X cc d3)
    (hm : lastMarks [op, op'] [b, cc] = false := by with_unfolding_all rfl) : B c W m X (.Compare a [op, op'] [b, cc] pos) (bChain f g d1 d2 d3) :=
  PTimp (pt_chain ho ho' h1 h2 h3 hm) fun σ H Q ⟨F, ρ, ω, S, q⟩ => bin_step S Post.pg q fun F2 H2 x y a b w _ S2 r1 r2 q2 => by
    cases e1 : f a b with
    | none => rw [e1] at q2; exact q2.elim
    | some t =>
      rw [e1, ofO_some, bind_ok] at q2
      refine v F2 H2 x y a b t _ S2.fh r1 r2 e1 ⟨t, rfl, ?_⟩
      cases t with
      | false => exact ⟨false, rfl, q2 F2 H2 (Xt.refl S2.fh) S2.bo⟩
      | true =>
        refine iteT ⟨F2, ρ, w, S2, bindT S2 Post.pg q2 fun z F3 H3 w3 x3 S3 q3 zv r3 => ?_⟩
        obtain ⟨t', e2, q4⟩ := post_ofO S3.fh S3.bo q3
        exact v' F3 H3 y zv b z t' _ S3.fh (r2.mono x3.ff) r3 e2 ⟨t', rfl, q4 F3 H3 (Xt.refl S3.fh)⟩
theorem e_chain {op op' : CmpOp} {r r' : R2} {f g : D → D → Option Bool} {d1 d2 d3 : Ev → MM D} {cc : Expr} (ho : OpR X (compareOp op) r) (ho' : OpR X (compareOp op') r') (v : VOpB c.K r f) (v' : VOpB c.K r' g) (h1 : E c W m X a d1) (h2 : E c W m X b d2) (h3 : E c W m X cc d3)
    (hm : lastMarks [op, op'] [b, cc] = false := by with_unfolding_all rfl) : E c W m X (.Compare a [op, op'] [b, cc] pos) (eOfB (bChain f g d1 d2 d3)) :=
  PEimp (pe_chain ho ho' h1 h2 h3 hm) fun σ H Q ⟨F, ρ, ω, S, q⟩ => by
    have q' : Post c W F H σ (fun v F' H' _ => ∀ x, Rp c.K F' x v → Q x H') ((d1 ρ ω).bind fun a w => (d2 ρ w).bind fun b w => ((ofO (f a b) w).bind fun t w => match t with
        | true => (d3 ρ w).bind fun c w => ofO (g b c) w
        | false => .ok false w).bind fun t w => .ok (.bool t) w) := by
      unfold eOfB bChain at q
      cases h : d1 ρ ω with
      | ok a w =>
        rw [h] at q
        cases h' : d2 ρ w with
        | ok b w' => simpa [h'] using q
        | _ => simpa [h'] using q
      | _ => rw [h] at q; exact q
    exact bin_step S Post.pg q' fun F2 H2 x y a b w _ S2 r1 r2 q2 => by
      cases e1 : f a b with
      | none => rw [e1] at q2; exact q2.elim
      | some t =>
        rw [e1, ofO_some, bind_ok] at q2
        refine v F2 H2 x y a b t _ S2.fh r1 r2 e1 ⟨t, rfl, ?_⟩
        cases t with
        | false => exact iteF (q2 F2 H2 (Xt.refl S2.fh) S2.bo _ (.bl false))
        | true =>
          have q3 : Post c W F2 H2 σ (fun v F' H' _ => ∀ x, Rp c.K F' x v → Q x H') ((d3 ρ w).bind fun z w => (ofO (g b z) w).bind fun t w => .ok (.bool t) w) := by
            cases h : d3 ρ w with
            | _ => simpa [h] using q2
          refine iteT ⟨F2, ρ, w, S2, bindT S2 Post.pg q3 fun z F3 H3 w3 x3 S3 q3 zv r3 => ?_⟩
          cases e2 : g b z with
          | none => rw [e2] at q3; exact q3.elim
          | some t' =>
            rw [e2] at q3
            exact v' F3 H3 y zv b z t' _ S3.fh (r2.mono x3.ff) r3 e2 (q3 F3 H3 (Xt.refl S3.fh) S3.bo _ (.bl t'))
theorem b_val {d : Ev → MM D} (h : E c W m X e d) (he : ∀ whole, isTrue e X.env whole = (do let v ← whole; standAt e.pos; holding [v] (truthy v)) := by intro _; rfl) : B c W m X e (bOfE d) :=
  PTimp (pt_val h he) fun σ H Q ⟨F, ρ, ω, S, q⟩ => ⟨F, ρ, ω, S, bindT S Post.pg q fun a F1 H1 w1 x1 S1 q1 x r1 => by
    obtain ⟨z, e1, q3⟩ := post_ofO S1.fh S1.bo q1
    cases r1 <;> simp [asB] at e1
    subst e1
    exact ⟨_, rfl, q3 F1 H1 (Xt.refl S1.fh)⟩⟩
theorem b_tru {d : Ev → MM D} (h : E c W m X e d) (hk : X.K = c.K) (he : ∀ whole, isTrue e X.env whole = (do let v ← whole; standAt e.pos; holding [v] (truthy v)) := by intro _; rfl) : B c W m X e (bTru d) :=
  PTimp (pt_truth h he) fun σ H Q ⟨F, ρ, ω, S, q⟩ => ⟨F, ρ, ω, S, bindT S Post.pg q fun a F1 H1 w1 x1 S1 q1 x r1 => by
    obtain ⟨z, e1, q3⟩ := post_ofO S1.fh S1.bo q1
    refine ⟨z, ?_, q3 F1 H1 (Xt.refl S1.fh)⟩
    cases r1 with
    | non => simp [truth] at e1; exact e1
    | bl _ => simp [truth] at e1; exact e1.symm
    | int _ => simp [truth] at e1; exact e1.symm
    | str _ => simp [truth] at e1
    | lst h1 h2 =>
      simp [truth] at e1
      refine .inl ⟨_, SqL.of (S1.fh _ _ h1), ?_⟩
      cases h2 <;> simp_all
    | tup h1 h2 =>
      simp [truth] at e1
      refine .inr (.inl ⟨_, by rw [hk]; exact sameT S1.fh h1, ?_⟩)
      cases h2 <;> simp_all⟩
theorem b_not {d : Ev → MM Bool} (h : B c W m X a d) : B c W m X (.UnaryOp .Not a pos) (bNot d) :=
  PTimp (pt_not h) fun σ H Q ⟨F, ρ, ω, S, q⟩ => ⟨F, ρ, ω, S, bindT S Post.pg q fun a F1 H1 w1 x1 S1 q1 => q1 F1 H1 (Xt.refl S1.fh) S1.bo⟩
theorem e_not {d : Ev → MM D} (h : E c W m X a d) : E c W m X (.UnaryOp .Not a pos) (eOfB (bNot (bOfE d))) :=
  PEimp (pe_not h) fun σ H Q ⟨F, ρ, ω, S, q⟩ => by
    have q' : Post c W F H σ (fun v F' H' _ => ∀ x, Rp c.K F' x v → Q x H') ((d ρ ω).bind fun a w => (ofO (asB a) w).bind fun t w => .ok (.bool (!t)) w) := by
      unfold eOfB bNot bOfE at q
      cases h : d ρ ω with
      | ok a w => cases h' : asB a <;> simpa [h, h'] using q
      | _ => rw [h] at q; exact q
    refine ⟨F, ρ, ω, S, bindT S Post.pg q' fun a F1 H1 w1 x1 S1 q1 x r1 => ?_⟩
    cases r1 <;> first
      | exact q1.elim
      | exact ⟨_, rfl, q1 F1 H1 (Xt.refl S1.fh) S1.bo _ (.bl _)⟩
theorem bw_and1 {d : Ev → MM Bool} (h : B c W m X a d) : BW c W m X (.BoolOp .And [a] pos) d := pw_and1 h
theorem bw_or1 {d : Ev → MM Bool} (h : B c W m X a d) : BW c W m X (.BoolOp .Or [a] pos) d := pw_or1 h
theorem bw_and {rest : List Expr} {d1 d2 : Ev → MM Bool} (h : B c W m X a d1) (h2 : BW c W m X (.BoolOp .And (b :: rest) pos) d2) : BW c W m X (.BoolOp .And (a :: b :: rest) pos) (bAnd d1 d2) :=
  PWimp (pw_and h h2) fun σ H Q ⟨F, ρ, ω, S, q⟩ => ⟨F, ρ, ω, S, bindT S Post.pg q fun t F1 H1 w1 x1 S1 q1 => by
    cases t with
    | true => exact iteT ⟨F1, ρ, w1, S1, q1⟩
    | false => exact iteF (q1 F1 H1 (Xt.refl S1.fh) S1.bo)⟩
theorem bw_or {rest : List Expr} {d1 d2 : Ev → MM Bool} (h : B c W m X a d1) (h2 : BW c W m X (.BoolOp .Or (b :: rest) pos) d2) : BW c W m X (.BoolOp .Or (a :: b :: rest) pos) (bOr d1 d2) :=
  PWimp (pw_or h h2) fun σ H Q ⟨F, ρ, ω, S, q⟩ => ⟨F, ρ, ω, S, bindT S Post.pg q fun t F1 H1 w1 x1 S1 q1 => by
    cases t with
    | true => exact iteT (q1 F1 H1 (Xt.refl S1.fh) S1.bo)
    | false => exact iteF ⟨F1, ρ, w1, S1, q1⟩⟩
theorem b_w {d : Ev → MM Bool} (h : BW c W m X e d) : B c W m X e d := h.pt
def eAnd (d1 d2 : Ev → MM D) : Ev → MM D := fun ρ ω => (d1 ρ ω).bind fun a w => (ofO (asB a) w).bind fun t w => match t with
  | true => d2 ρ w
  | false => .ok (.bool false) w
def eOr (d1 d2 : Ev → MM D) : Ev → MM D := fun ρ ω => (d1 ρ ω).bind fun a w => (ofO (asB a) w).bind fun t w => match t with
  | true => .ok (.bool true) w
  | false => d2 ρ w
theorem e_one {op} {d : Ev → MM D} (h : E c W m X a d) : E c W m X (.BoolOp op [a] pos) d := pe_one h
theorem e_and {rest : List Expr} {d1 d2 : Ev → MM D} (h : E c W m X a d1) (h2 : E c W m X (.BoolOp .And (b :: rest) pos) d2) : E c W m X (.BoolOp .And (a :: b :: rest) pos) (eAnd d1 d2) :=
  PEimp (pe_and h h2) fun σ H Q ⟨F, ρ, ω, S, q⟩ => ⟨F, ρ, ω, S, bindT S Post.pg q fun t F1 H1 w1 x1 S1 q1 x r1 => by
    cases r1 with
    | bl t => cases t with
      | true => exact ⟨true, rfl, iteT ⟨F1, ρ, w1, S1, q1⟩⟩
      | false => exact ⟨false, rfl, iteF (q1 F1 H1 (Xt.refl S1.fh) S1.bo _ (.bl _))⟩
    | _ => exact q1.elim⟩
theorem e_or {rest : List Expr} {d1 d2 : Ev → MM D} (h : E c W m X a d1) (h2 : E c W m X (.BoolOp .Or (b :: rest) pos) d2) : E c W m X (.BoolOp .Or (a :: b :: rest) pos) (eOr d1 d2) :=
  PEimp (pe_or h h2) fun σ H Q ⟨F, ρ, ω, S, q⟩ => ⟨F, ρ, ω, S, bindT S Post.pg q fun t F1 H1 w1 x1 S1 q1 x r1 => by
    cases r1 with
    | bl t => cases t with
      | true => exact ⟨true, rfl, iteT (q1 F1 H1 (Xt.refl S1.fh) S1.bo _ (.bl _))⟩
      | false => exact ⟨false, rfl, iteF ⟨F1, ρ, w1, S1, q1⟩⟩
    | _ => exact q1.elim⟩
theorem e_if {t : Expr} {dt : Ev → MM Bool} {d1 d2 : Ev → MM D} (ht : B c W m X t dt) (h1 : E c W m X a d1) (h2 : E c W m X b d2) : E c W m X (.IfExp t a b pos) (eIf dt d1 d2) :=
  PEimp (pe_ifExp ht h1 h2) fun σ H Q ⟨F, ρ, ω, S, q⟩ => ⟨F, ρ, ω, S, bindT S Post.pg q fun t F1 H1 w1 x1 S1 q1 => by
    cases t with
    | true => exact iteT ⟨F1, ρ, w1, S1, q1⟩
    | false => exact iteF ⟨F1, ρ, w1, S1, q1⟩⟩
theorem a_nil : A c W m X [] aNil := ⟨PAimp pa_nil fun σ H Q ⟨F, ρ, ω, S, q⟩ => q F H (Xt.refl S.fh) S.bo _ .nil, AL.nil⟩
theorem a_cons {d : Ev → MM D} {ds : Ev → MM (List D)} (h : E c W m X e d) (hr : A c W m X es ds) (hs : starEach (e :: es) X.env = (false, eval e X.env) :: starEach es X.env := by rfl) : A c W m X (e :: es) (aCons d ds) :=
  ⟨PAimp (pa_cons h hr.pa hs) fun σ H Q ⟨F, ρ, ω, S, q⟩ => ⟨F, ρ, ω, S, bindT S Post.pg q fun a F1 H1 w1 x1 S1 q1 x r1 =>
    ⟨F1, ρ, w1, S1, bindT S1 Post.pg q1 fun r F2 H2 w2 x2 S2 q2 xs r2 => q2 F2 H2 (Xt.refl S2.fh) S2.bo _ (.cons (r1.mono x2.ff) r2)⟩⟩, AL.cons hr.len⟩
theorem e_tup {k} {ds : Ev → MM (List D)} (h : A c W m X es ds) (hl : es.length ≤ 1000 := by decide) : E c W m X (.Tuple es k pos) (eTup ds) :=
  PEimp (pe_tup h.pa) fun σ H Q ⟨F, ρ, ω, S, q⟩ => by
    refine ⟨F, ρ, ω, S, ?_⟩
    have al := h.len ρ ω
    unfold eTup at q
    cases e : ds ρ ω with
    | bad => rw [e] at q; exact q.elim
    | exc x y => rw [e] at q; exact q
    | ok r w =>
      rw [e] at q
      intro F' H' xt bo xs rp
      have hz : xs.length ≤ sizeLine := by rw [rp.length, al r w e]; exact Nat.le_of_lt (small1000 hl)
      refine ⟨hz, fun p np => ?_⟩
      have x2 : Xt none F' H' (upd F' p (.tup xs)) (upd H' p (.tup xs)) := Xt.alloc xt.fh np
      exact q _ _ (xt.trans x2.any) (bo.ext x2) _ (.tup (SqT.of upd_same) (rp.mono x2.ff))
theorem e_lst {ds : Ev → MM (List D)} (h : A c W m X es ds) (hl : es.length ≤ 1000 := by decide) : E c W m X (.List es pos) (eLst ds) :=
  PEimp (pe_lst h.pa) fun σ H Q ⟨F, ρ, ω, S, q⟩ => by
    refine ⟨F, ρ, ω, S, ?_⟩
    have al := h.len ρ ω
    unfold eLst at q
    cases e : ds ρ ω with
    | bad => rw [e] at q; exact q.elim
    | exc x y => rw [e] at q; exact q
    | ok r w =>
      rw [e] at q
      intro F' H' xt bo xs rp
      have hz : xs.length ≤ sizeLine := by rw [rp.length, al r w e]; exact Nat.le_of_lt (small1000 hl)
      refine ⟨hz, fun p np => ?_⟩
      have x2 : Xt none F' H' (upd F' p (.lst xs)) (upd H' p (.lst xs)) := Xt.alloc xt.fh np
      exact q _ _ (xt.trans x2.any) (bo.ext x2) _ (.lst upd_same (rp.mono x2.ff))
theorem args_step {F H : Hp} {ρ : Ev} {ω : Wd} {σ : L2.St} {ds : Ev → MM (List D)} {f : List D → Option D} {r : List V → Hp → VK → Prop} {Q : VK} (v : VAr c.K r f) (S : SR c m F ρ ω σ H) (q : Post c W F H σ (fun v F' H' _ => ∀ x, Rp c.K F' x v → Q x H') (eArgs f ds ρ ω)) :
    TDa c W m ds σ H fun xs H1 => r xs H1 Q := ⟨F, ρ, ω, S, bindT S Post.pg q fun as F1 H1 w1 x1 S1 q1 xs r1 => by
    obtain ⟨z, e1, q3⟩ := post_ofO S1.fh S1.bo q1
    exact v F1 H1 xs as z Q S1.fh r1 e1 fun F' H' z' xt rz => q3 F' H' xt z' rz⟩
theorem e_callB {x : Str} {p : Pos} {id : String} {r : List V → Hp → VK → Prop} {f : List D → Option D} {ds : Ev → MM (List D)} (hc : CallR X (.builtin id) r) (v : VAr c.K r f) (hg : Gl X x) (hm : X.mg x = none) (hv : bootBuiltins x = some (.builtin id)) (ha : A c W m X (e :: es) ds)
    (hn : x ≠ "__name__" := by decide) (hdb : (x == ("__debug__" : Str)) = false := by decide)
    (he : starEach (e :: es) X.env = (false, eval e X.env) :: starEach es X.env := by rfl) (hpl : (backTo pos (starEach es X.env)).any (·.1) = false := by rfl) : E c W m X (.Call (.Name x p) (e :: es) [] pos) (eArgs f ds) :=
  PEimp (pe_callB hc hg hm hv ha.pa hn hdb he hpl) fun σ H Q ⟨F, ρ, ω, S, q⟩ => args_step v S q
theorem e_callTy {x : Str} {p : Pos} {id : String} {r : List V → Hp → VK → Prop} {f : List D → Option D} {ds : Ev → MM (List D)} (hc : CallR X (.type id) r) (v : VAr c.K r f) (hg : Gl X x) (hm : X.mg x = none) (hv : bootBuiltins x = some (.type id)) (ha : A c W m X (e :: es) ds)
    (hn : x ≠ "__name__" := by decide) (hdb : (x == ("__debug__" : Str)) = false := by decide)
    (he : starEach (e :: es) X.env = (false, eval e X.env) :: starEach es X.env := by rfl) (hpl : (backTo pos (starEach es X.env)).any (·.1) = false := by rfl) : E c W m X (.Call (.Name x p) (e :: es) [] pos) (eArgs f ds) :=
  PEimp (pe_callTy hc hg hm hv ha.pa hn hdb he hpl) fun σ H Q ⟨F, ρ, ω, S, q⟩ => args_step v S q
end

/-! ### own defs -/
def PostF (K : PySem.W.Frag) (mg : Str → Option Value) (F H : Hp) (Q : VK) (E : XK) : Res D → Prop
  | .bad => False
  | .ok d _ => ∀ F' H' x, Xt none F H F' H' → Rp K F' x d → Q x H'
  | .exc e _ => ∀ F' H' cls dd, Xt none F H F' H' → RepX ⟨K, mg, fun _ => none, fun _ => none, none⟩ e cls dd H' → E cls dd H'
/-- a def that changes nothing that it is handed -/
def spP (K : PySem.W.Frag) (mg : Str → Option Value) (n : Nat) (fd : List D → Res D) : Sp := fun vs H Q E => ∃ F ds, vs.length = n ∧ Same F H ∧ RpL K F vs ds ∧ PostF K mg F H Q E (fd ds)
/-- a def whose first argument is a list that it may change -/
def spS (K : PySem.W.Frag) (mg : Str → Option Value) (n : Nat) (fd : List D → MM D) : Sp := fun vs H Q E => ∃ F b us ω vs' ds, vs = .ref b :: vs' ∧ vs.length = n ∧ Same F H ∧ F b = none ∧ H b = some (.lst us) ∧ RpL K F us ω ∧ RpL K F vs' ds ∧ match fd ds ω with
  | .bad => False
  | .ok d ω' => ∀ F' H' x us', Xt (some b) F H F' H' → H' b = some (.lst us') → RpL K F' us' ω' → Rp K F' x d → Q x H'
  | .exc e ω' => ∀ F' H' cls dd us', Xt (some b) F H F' H' → H' b = some (.lst us') → RpL K F' us' ω' → RepX ⟨K, mg, fun _ => none, fun _ => none, none⟩ e cls dd H' → E cls dd H'
structure Own (P : Program) (w : World) (K : PySem.W.Frag) (mg : Str → Option Value) (base : Heap) (x : Str) (k : Nat) (sp : Sp) : Prop where
  ex : ∃ f fdat ps, mg x = some (.ref f) ∧ PySem.W.keepIn K (.ref f) = true ∧ Binds K fdat ps [] ∧ FnOk P w K mg base (L2.CX P w) k f fdat ps sp
abbrev FnD (P : Program) (w : World) (K : PySem.W.Frag) (mg : Str → Option Value) (base : Heap) (x : Str) (k n : Nat) (fd : List D → Res D) : Prop := Own P w K mg base x k (spP K mg n fd)
abbrev FnS (P : Program) (w : World) (K : PySem.W.Frag) (mg : Str → Option Value) (base : Heap) (x : Str) (k n : Nat) (fd : List D → MM D) : Prop := Own P w K mg base x k (spS K mg n fd)
section
variable {c : CM} {W : WX} {m : Md} {X : Cx} {e : Expr} {es : List Expr} {pos p p1 : Pos}
theorem e_call {x : Str} {j k n : Nat} {fd : List D → Res D} {ds : Ev → MM (List D)} (G : FnD X.prog X.w X.K X.mg X.base x j n fd) (hr : Room k X.A) (hk : X.K = c.K) (hmg : X.mg = c.mg) (tk : Takes X W) (ha : A c W m X (e :: es) ds) (hg : Gl X x) (hjk : j ≤ k := by decide) (hn : (e :: es).length = n := by rfl)
    (hdb : (x == ("__debug__" : Str)) = false := by decide) (he : starEach (e :: es) X.env = (false, eval e X.env) :: starEach es X.env := by rfl) (hpl : (backTo pos (starEach es X.env)).any (·.1) = false := by rfl) :
    E c W m X (.Call (.Name x p) (e :: es) [] pos) (eCall fd ds) := by
  obtain ⟨f, fdat, ps, gm, kp, bd, ok⟩ := G.ex
  refine PEimp (pe_callS (ok.mono hjk) hr hg gm kp bd (fun σ => passAt tk σ) ha.pa hdb he hpl) fun σ H Q ⟨F, ρ, ω, S, q⟩ => ?_
  refine ⟨F, ρ, ω, S, ?_⟩
  have al := ha.len ρ ω
  unfold eCall at q
  cases ed : ds ρ ω with
  | bad => rw [ed] at q; exact q.elim
  | exc x y => rw [ed] at q; exact q
  | ok r w =>
    rw [ed] at q
    intro F1 H1 xt bo xs rp
    refine ⟨F1, r, by rw [rp.length, al r w ed]; exact hn, xt.fh, by rw [hk]; exact rp, ?_⟩
    show PostF X.K X.mg F1 H1 Q (WE W σ) (fd r)
    have q2 : Post c W F H σ (fun v F' H' _ => ∀ x, Rp c.K F' x v → Q x H') ((fd r).at w) := q
    cases ef : fd r with
    | bad => rw [ef] at q2; exact q2.elim
    | ok d w' =>
      rw [ef] at q2
      exact fun F' H' z x2 rz => q2 F' H' (xt.trans x2.any) (bo.ext x2) z (by rw [← hk]; exact rz)
    | exc ex w' =>
      rw [ef] at q2
      refine fun F' H' cls dd x2 rx => q2 F' H' cls dd (xt.trans x2.any) (bo.ext x2) ?_
      rw [hmg] at rx
      exact rx
theorem e_callS {x xs : Str} {j k n i : Nat} {fd : List D → MM D} {ds : Ev → MM (List D)} (G : FnS X.prog X.w X.K X.mg X.base x j n fd) (hr : Room k X.A) (hk : X.K = c.K) (hmg : X.mg = c.mg) (tk : Takes X W) (hi : m.B = some i) (hv : PE X (.Name xs p1) (tVar i)) (ha : A c W m X es ds) (hg : Gl X x)
    (hjk : j ≤ k := by decide) (hn : es.length + 1 = n := by rfl)
    (hdb : (x == ("__debug__" : Str)) = false := by decide) (he : starEach (.Name xs p1 :: es) X.env = (false, eval (.Name xs p1) X.env) :: starEach es X.env := by rfl) (hpl : (backTo pos (starEach es X.env)).any (·.1) = false := by rfl) :
    E c W m X (.Call (.Name x p) (.Name xs p1 :: es) [] pos) (eCallS fd ds) := by
  obtain ⟨f, fdat, ps, gm, kp, bd, ok⟩ := G.ex
  refine PEimp (pe_callS (ok.mono hjk) hr hg gm kp bd (fun σ => passAt tk σ) (pa_cons hv ha.pa he) hdb he hpl) fun σ H Q ⟨F, ρ, ω, S, q⟩ => ?_
  obtain ⟨_, b, hb, hσ⟩ := S.bsl i hi
  refine ⟨_, hσ, F, ρ, ω, S, ?_⟩
  have al := ha.len ρ ω
  unfold eCallS at q
  cases ed : ds ρ ω with
  | bad => rw [ed] at q; exact q.elim
  | exc x y => rw [ed] at q; exact q
  | ok r w =>
    rw [ed] at q
    intro F1 H1 xt bo xs rp
    obtain ⟨h0, h1, us, h2, h3⟩ := bo b hb
    refine ⟨F1, b, us, w, xs, r, rfl, by rw [List.length_cons, rp.length, al r w ed]; exact hn, xt.fh, h1, h2, by rw [hk]; exact h3, by rw [hk]; exact rp, ?_⟩
    have q2 : Post c W F H σ (fun v F' H' _ => ∀ x, Rp c.K F' x v → Q x H') (fd r w) := q
    have hnew : ∀ {F' H' : Hp} {us' : List V} {w' : Wd}, Xt (some b) F1 H1 F' H' → H' b = some (.lst us') → RpL X.K F' us' w' → BorOk c F' w' H' := fun {F' H' us' w'} x2 e1 e2 b' hb' => by
      rw [hb] at hb'
      cases hb'
      exact ⟨h0, by rw [x2.new b (by rw [h2]; simp)]; exact h1, us', e1, by rw [← hk]; exact e2⟩
    cases ef : fd r w with
    | bad => rw [ef] at q2; exact q2.elim
    | ok d w' =>
      rw [ef] at q2
      exact fun F' H' z us' x2 e1 e2 rz => q2 F' H' (xt.trans (by rw [hb]; exact x2)) (hnew x2 e1 e2) z (by rw [← hk]; exact rz)
    | exc ex w' =>
      rw [ef] at q2
      refine fun F' H' cls dd us' x2 e1 e2 rx => q2 F' H' cls dd (xt.trans (by rw [hb]; exact x2)) (hnew x2 e1 e2) ?_
      rw [hmg] at rx
      exact rx
end
end M

set_option Elab.async false
set_option linter.all false
set_option maxRecDepth 100000
set_option maxHeartbeats 4000000
namespace M
open PySem PySem.Spec PyProof.Rows L2

theorem OpR.or {X : Cx} {f : Value → Value → Sem Value} {r r' : R2} (h : OpR X f r) (h' : OpR X f r') : OpR X f (fun x y H Q => r x y H Q ∨ r' x y H Q) := by
  intro pins s σ H x y v u Q I rx ry h0
  rcases h0 with q | q
  · exact h pins s σ H x y v u Q I rx ry q
  · exact h' pins s σ H x y v u Q I rx ry q
section
variable {K : PySem.W.Frag} {H : Hp}
theorem Rp.vint {v : V} {i : Int} (h : Rp K H v (.int i)) : v = .int i := by cases h; rfl
theorem Rp.vbl {v : V} {i : Bool} (h : Rp K H v (.bool i)) : v = .bl i := by cases h; rfl
theorem Rp.vstr {v : V} {i : Str} (h : Rp K H v (.str i)) : v = .str i := by cases h; rfl
theorem Rp.vnon {v : V} (h : Rp K H v .none) : v = .non := by cases h; rfl
theorem Rp.vlst {v : V} {ds : List D} (h : Rp K H v (.list ds)) : ∃ a xs, v = .ref a ∧ H a = some (.lst xs) ∧ RpL K H xs ds := by cases h with | lst h1 h2 => exact ⟨_, _, rfl, h1, h2⟩
theorem Rp.vtup {v : V} {ds : List D} (h : Rp K H v (.tuple ds)) : ∃ a xs, v = .ref a ∧ SqT K H a xs ∧ RpL K H xs ds := by cases h with | tup h1 h2 => exact ⟨_, _, rfl, h1, h2⟩
theorem RpL.one {vs : List V} {d : D} (h : RpL K H vs [d]) : ∃ v, vs = [v] ∧ Rp K H v d := by
  cases h with | cons h1 h2 => cases h2; exact ⟨_, rfl, h1⟩
theorem RpL.two {vs : List V} {d e : D} (h : RpL K H vs [d, e]) : ∃ v u, vs = [v, u] ∧ Rp K H v d ∧ Rp K H u e := by
  cases h with | cons h1 h2 => obtain ⟨u, rfl, h3⟩ := h2.one; exact ⟨_, _, rfl, h1, h3⟩
theorem RpL.three {vs : List V} {d e f : D} (h : RpL K H vs [d, e, f]) : ∃ v u w, vs = [v, u, w] ∧ Rp K H v d ∧ Rp K H u e ∧ Rp K H w f := by
  cases h with | cons h1 h2 => obtain ⟨u, w, rfl, h3, h4⟩ := h2.two; exact ⟨_, _, _, rfl, h1, h3, h4⟩
end

/-! ### arithmetic -/
def vSub : D → D → Option D
  | .int i, .int j => some (.int (i - j))
  | _, _ => none
def mulOk (i j : Int) : Prop := i.natAbs.log2 + j.natAbs.log2 < 1000000
instance (i j : Int) : Decidable (mulOk i j) := by unfold mulOk; infer_instance
def divOk (j : Int) : Prop := j ≠ 0 ∧ j.natAbs.log2 < 9000
instance (j : Int) : Decidable (divOk j) := by unfold divOk; infer_instance
def powOk (i j : Int) : Prop := 0 ≤ j ∧ j ≤ 1000000 ∧ i.natAbs < 2 ^ 64
instance (i j : Int) : Decidable (powOk i j) := by unfold powOk; infer_instance
def vFdiv : D → D → Option D
  | .int i, .int j => if divOk j then some (.int (i.fdiv j)) else none
  | _, _ => none
def vMod : D → D → Option D
  | .int i, .int j => if j = 0 then none else some (.int (i.fmod j))
  | _, _ => none
def vPow : D → D → Option D
  | .int i, .int j => if powOk i j then some (.int (i ^ j.toNat)) else none
  | _, _ => none
def vNeg : D → Option D
  | .int i => some (.int (-i))
  | _ => none
/-- +: ints, lists, tuples -/
def vAdd : D → D → Option D
  | .int i, .int j => some (.int (i + j))
  | .list xs, .list ys => if xs.length + ys.length ≤ sizeLine then some (.list (xs ++ ys)) else none
  | .tuple xs, .tuple ys => if xs.length + ys.length ≤ sizeLine then some (.tuple (xs ++ ys)) else none
  | _, _ => none
/-- *: ints, a list times an int -/
def vMul : D → D → Option D
  | .int i, .int j => if mulOk i j then some (.int (i * j)) else none
  | .list xs, .int k => if -(2 ^ 63) ≤ k ∧ k < 2 ^ 63 ∧ xs.length * k.toNat ≤ sizeLine then some (.list (List.replicate k.toNat xs).flatten) else none
  | _, _ => none
section
variable {X : Cx}
theorem op_fdivG : OpR X (binaryOp .FloorDiv) (rI (fun _ j => divOk j) fun i j => .int (i.fdiv j)) := opI fun _ _ _ _ _ _ _ hc q => floordiv_int hc.1 q (.inl (PyProof.noPylong_of_log2 hc.2))
theorem iop_fdivG : OpR X (inplaceOp .FloorDiv) (rI (fun _ j => divOk j) fun i j => .int (i.fdiv j)) := opI fun _ _ _ _ _ _ _ hc q => ifloordiv_int hc.1 q (.inl (PyProof.noPylong_of_log2 hc.2))
theorem iop_modG : OpR X (inplaceOp .Mod) (rI (fun _ j => j ≠ 0) fun i j => .int (i.fmod j)) := opI fun _ _ _ _ _ _ _ hc q => imod_int hc q
theorem mulOk_ok {i j : Int} (h : mulOk i j) : IntMulOk i j := CMulW.ok h
theorem iop_mulW : OpR X (inplaceOp .Mult) (rI mulOk fun i j => .int (i * j)) := opI fun _ _ _ _ _ _ _ hc q => imul_int q (mulOk_ok hc)
theorem op_addX : OpR X (binaryOp .Add) (fun x y H Q => rI0 (fun i j => .int (i + j)) x y H Q ∨ (rCat x y H Q ∨ rCatA X.K x y H Q)) := op_add.or (op_cat.or op_catA)
theorem op_mulX : OpR X (binaryOp .Mult) (fun x y H Q => rI mulOk (fun i j => .int (i * j)) x y H Q ∨ rRep x y H Q) := OpR.or (opI fun _ _ _ _ _ _ _ hc q => mul_int q (mulOk_ok hc)) op_rep
end
section
variable {K : PySem.W.Frag}
theorem vop_sub {r : R2} (h : ∀ i j H Q, Q (.int (i - j)) H → r (.int i) (.int j) H Q) : VOp K r vSub := by
  intro F H x y a b v Q S r1 r2 e q
  cases r1 <;> cases r2 <;> simp [vSub] at e
  subst e
  exact h _ _ _ _ (q F H _ (Xt.refl S) (.int _))
theorem v_sub : VOp K (rI0 fun i j => .int (i - j)) vSub := vop_sub fun i j H Q q => ⟨i, j, rfl, rfl, q⟩
theorem v_fdiv : VOp K (rI (fun _ j => divOk j) fun i j => .int (i.fdiv j)) vFdiv := by
  intro F H x y a b v Q S r1 r2 e q
  cases r1 <;> cases r2 <;> simp [vFdiv] at e
  obtain ⟨e1, e⟩ := e
  subst e
  exact ⟨_, _, rfl, rfl, e1, q F H _ (Xt.refl S) (.int _)⟩
theorem v_mod : VOp K (rI (fun _ j => j ≠ 0) fun i j => .int (i.fmod j)) vMod := by
  intro F H x y a b v Q S r1 r2 e q
  cases r1 <;> cases r2 <;> simp [vMod] at e
  obtain ⟨e1, e⟩ := e
  subst e
  exact ⟨_, _, rfl, rfl, e1, q F H _ (Xt.refl S) (.int _)⟩
theorem v_pow : VOp K (rI CPow fun i j => .int (i ^ j.toNat)) vPow := by
  intro F H x y a b v Q S r1 r2 e q
  cases r1 <;> cases r2 <;> simp [vPow] at e
  obtain ⟨e1, e⟩ := e
  subst e
  exact ⟨_, _, rfl, rfl, e1, q F H _ (Xt.refl S) (.int _)⟩
theorem v_neg : VUn K (rU fun i => .int (-i)) vNeg := by
  intro F H x a v Q S r1 e q
  cases r1 <;> simp [vNeg] at e
  subst e
  exact ⟨_, rfl, q F H _ (Xt.refl S) (.int _)⟩
theorem rp_new_lst {F H : Hp} {p : Addr} {xs : List V} {ds : List D} {Q : VK} (S : Same F H) (np : H p = none) (r : RpL K F xs ds) (q : ∀ F' H' z, Xt none F H F' H' → Rp K F' z (.list ds) → Q z H') : Q (.ref p) (upd H p (.lst xs)) := by
  have x : Xt none F H (upd F p (.lst xs)) (upd H p (.lst xs)) := Xt.alloc S np
  exact q _ _ _ x (.lst upd_same (r.mono x.ff))
theorem rp_new_tup {F H : Hp} {p : Addr} {xs : List V} {ds : List D} {Q : VK} (S : Same F H) (np : H p = none) (r : RpL K F xs ds) (q : ∀ F' H' z, Xt none F H F' H' → Rp K F' z (.tuple ds) → Q z H') : Q (.ref p) (upd H p (.tup xs)) := by
  have x : Xt none F H (upd F p (.tup xs)) (upd H p (.tup xs)) := Xt.alloc S np
  exact q _ _ _ x (.tup (SqT.of upd_same) (r.mono x.ff))
theorem v_add {K' : PySem.W.Frag} (hk : K' = K) : VOp K (fun x y H Q => rI0 (fun i j => .int (i + j)) x y H Q ∨ (rCat x y H Q ∨ rCatA K' x y H Q)) vAdd := by
  subst hk
  intro F H x y a b v Q S r1 r2 e q
  cases r1 with
  | int i => cases r2 <;> simp [vAdd] at e; subst e; exact .inl ⟨_, _, rfl, rfl, q F H _ (Xt.refl S) (.int _)⟩
  | lst h1 h2 =>
    cases r2 with
    | lst h3 h4 =>
      simp [vAdd] at e
      obtain ⟨e1, e⟩ := e
      subst e
      refine .inr (.inl ⟨_, _, _, _, rfl, rfl, S _ _ h1, S _ _ h3, by rw [h2.length, h4.length]; exact e1, fun p np => ?_⟩)
      exact rp_new_lst S np (h2.append h4) q
    | _ => simp [vAdd] at e
  | tup h1 h2 =>
    cases r2 with
    | tup h3 h4 =>
      simp [vAdd] at e
      obtain ⟨e1, e⟩ := e
      subst e
      refine .inr (.inr ⟨_, _, _, _, rfl, rfl, sameT S h1, sameT S h3, by rw [h2.length, h4.length]; exact e1, fun z => ?_, fun z z' => ?_, fun _ _ p np => ?_⟩)
      · subst z
        cases h2
        exact q F H _ (Xt.refl S) (.tup h3 h4)
      · subst z'
        cases h4
        rw [List.append_nil] at q
        exact q F H _ (Xt.refl S) (.tup h1 h2)
      · exact rp_new_tup S np (h2.append h4) q
    | _ => simp [vAdd] at e
  | _ => simp [vAdd] at e
theorem RpL.rep {F : Hp} {xs : List V} {ds : List D} (h : RpL K F xs ds) : ∀ k, RpL K F (List.replicate k xs).flatten (List.replicate k ds).flatten
  | 0 => .nil
  | k + 1 => by simp only [List.replicate_succ, List.flatten_cons]; exact h.append (h.rep k)
theorem v_mul : VOp K (fun x y H Q => rI mulOk (fun i j => .int (i * j)) x y H Q ∨ rRep x y H Q) vMul := by
  intro F H x y a b v Q S r1 r2 e q
  cases r1 with
  | int i => cases r2 <;> simp [vMul] at e; obtain ⟨e1, e⟩ := e; subst e; exact .inl ⟨_, _, rfl, rfl, e1, q F H _ (Xt.refl S) (.int _)⟩
  | lst h1 h2 =>
    cases r2 with
    | int k =>
      simp [vMul] at e
      obtain ⟨⟨e1, e2, e3⟩, e⟩ := e
      subst e
      refine .inr ⟨_, _, _, rfl, rfl, S _ _ h1, e1, e2, by rw [h2.length]; exact e3, fun p np => ?_⟩
      exact rp_new_lst S np (h2.rep _) q
    | _ => simp [vMul] at e
  | _ => simp [vMul] at e
/-! in place, ints alone -/
def vAddI : D → D → Option D
  | .int i, .int j => some (.int (i + j))
  | _, _ => none
def vMulI : D → D → Option D
  | .int i, .int j => if mulOk i j then some (.int (i * j)) else none
  | _, _ => none
theorem v_addI : VOp K (rI0 fun i j => .int (i + j)) vAddI := by
  intro F H x y a b v Q S r1 r2 e q
  cases r1 <;> cases r2 <;> simp [vAddI] at e
  subst e
  exact ⟨_, _, rfl, rfl, q F H _ (Xt.refl S) (.int _)⟩
theorem v_mulI : VOp K (rI mulOk fun i j => .int (i * j)) vMulI := by
  intro F H x y a b v Q S r1 r2 e q
  cases r1 <;> cases r2 <;> simp [vMulI] at e
  obtain ⟨e1, e⟩ := e
  subst e
  exact ⟨_, _, rfl, rfl, e1, q F H _ (Xt.refl S) (.int _)⟩
end

/-! ### comparisons -/
def cI (p : Int → Int → Bool) : D → D → Option Bool
  | .int i, .int j => some (p i j)
  | _, _ => none
def vEq (a b : D) : Option Bool := if SeqAt.shaped a = true ∧ SeqAt.shaped b = true then some (PyData.eqv a b) else none
def vNe (a b : D) : Option Bool := if SeqAt.shaped a = true ∧ SeqAt.shaped b = true then some (!PyData.eqv a b) else none
def vIsN : D → D → Option Bool
  | a, .none => some (match a with | .none => true | _ => false)
  | _, _ => none
def vNotN : D → D → Option Bool
  | a, .none => some (match a with | .none => false | _ => true)
  | _, _ => none
def vIsB : D → D → Option Bool
  | .bool a, .bool b => some (a == b)
  | _, _ => none
def vNotB : D → D → Option Bool
  | .bool a, .bool b => some (!(a == b))
  | _, _ => none
def vIn : D → D → Option Bool
  | d, .list ds => if SeqAt.shaped d = true ∧ SeqAt.shaped (.list ds) = true then some (ds.any fun z => PyData.eqv z d) else none
  | d, .tuple ds => if SeqAt.shaped d = true ∧ SeqAt.shaped (.tuple ds) = true then some (ds.any fun z => PyData.eqv z d) else none
  | _, _ => none
def vNotIn : D → D → Option Bool
  | d, .list ds => if SeqAt.shaped d = true ∧ SeqAt.shaped (.list ds) = true then some (!ds.any fun z => PyData.eqv z d) else none
  | d, .tuple ds => if SeqAt.shaped d = true ∧ SeqAt.shaped (.tuple ds) = true then some (!ds.any fun z => PyData.eqv z d) else none
  | _, _ => none
def rInT (K : PySem.W.Frag) : R2 := fun x y H Q => ∃ d ds, Dp K H x d ∧ Dp K H y (.tuple ds) ∧ SeqAt.shaped d = true ∧ SeqAt.shaped (.tuple ds) = true ∧ Q (.bl (ds.any fun z => PyData.eqv z d)) H
def rNotInT (K : PySem.W.Frag) : R2 := fun x y H Q => ∃ d ds, Dp K H x d ∧ Dp K H y (.tuple ds) ∧ SeqAt.shaped d = true ∧ SeqAt.shaped (.tuple ds) = true ∧ Q (.bl (!ds.any fun z => PyData.eqv z d)) H
section
variable {X : Cx}
theorem op_inTD (hu : X.A.units + 65 < cLine) : OpR X (compareOp .In) (rInT X.K) := by
  intro pins s σ H x y v u Q I rx ry h
  obtain ⟨d, ds, hd, he, sd, se, q⟩ := h
  obtain ⟨as, r1⟩ := Dp.reads I d x v hd rx
  obtain ⟨bs, r2⟩ := Dp.reads I (.tuple ds) y u he ry
  exact SeqAt.in_tuple_reads r2 r1 (SeqAt.canLay_of_shaped se) (SeqAt.canLay_of_shaped sd) (room_in_shaped sd hu) ⟨.bl _, H, I, rfl, q⟩
theorem op_notInTD (hu : X.A.units + 65 < cLine) : OpR X (compareOp .NotIn) (rNotInT X.K) := by
  intro pins s σ H x y v u Q I rx ry h
  obtain ⟨d, ds, hd, he, sd, se, q⟩ := h
  obtain ⟨as, r1⟩ := Dp.reads I d x v hd rx
  obtain ⟨bs, r2⟩ := Dp.reads I (.tuple ds) y u he ry
  exact SeqAt.notIn_tuple_reads r2 r1 (SeqAt.canLay_of_shaped se) (SeqAt.canLay_of_shaped sd) (room_in_shaped sd hu) ⟨.bl _, H, I, rfl, q⟩
theorem units65 {k : Nat} {A : Around} (r : Room k A) : A.units + 65 < cLine := by have := r.un; omega
theorem op_in (hu : X.A.units + 65 < cLine) : OpR X (compareOp .In) (fun x y H Q => rInD X.K x y H Q ∨ rInT X.K x y H Q) := (op_inD hu).or (op_inTD hu)
theorem op_notIn (hu : X.A.units + 65 < cLine) : OpR X (compareOp .NotIn) (fun x y H Q => rNotInD X.K x y H Q ∨ rNotInT X.K x y H Q) := (op_notInD hu).or (op_notInTD hu)
end
def cLt : D → D → Option Bool := cI fun i j => decide (i < j)
def cLe : D → D → Option Bool := cI fun i j => decide (i ≤ j)
def cGt : D → D → Option Bool := cI fun i j => decide (j < i)
def cGe : D → D → Option Bool := cI fun i j => decide (j ≤ i)
section
variable {K : PySem.W.Frag}
theorem v_cI (p : Int → Int → Bool) : VOpB K (rI0 fun i j => .bl (p i j)) (cI p) := by
  intro F H x y a b v Q S r1 r2 e q
  cases r1 <;> cases r2 <;> simp [cI] at e
  subst e
  exact ⟨_, _, rfl, rfl, q⟩
theorem v_eq {K' : PySem.W.Frag} (hk : K' = K) : VOpB K (rEqD K') vEq := by
  subst hk
  intro F H x y a b v Q S r1 r2 e q
  simp only [vEq, Option.ite_none_right_eq_some, Option.some.injEq] at e
  obtain ⟨⟨e1, e2⟩, e⟩ := e
  subst e
  exact ⟨a, b, (r1.mono S).dp, (r2.mono S).dp, e1, e2, q⟩
theorem v_ne {K' : PySem.W.Frag} (hk : K' = K) : VOpB K (rNeD K') vNe := by
  subst hk
  intro F H x y a b v Q S r1 r2 e q
  simp only [vNe, Option.ite_none_right_eq_some, Option.some.injEq] at e
  obtain ⟨⟨e1, e2⟩, e⟩ := e
  subst e
  exact ⟨a, b, (r1.mono S).dp, (r2.mono S).dp, e1, e2, q⟩
theorem v_isN : VOpB K (fun x y H Q => y = .non ∧ Q (.bl (decide (x = .non))) H) vIsN := by
  intro F H x y a b v Q S r1 r2 e q
  cases r2 <;> simp [vIsN] at e
  subst e
  refine ⟨rfl, ?_⟩
  cases r1 <;> exact q
theorem v_notN : VOpB K (fun x y H Q => y = .non ∧ Q (.bl (!decide (x = .non))) H) vNotN := by
  intro F H x y a b v Q S r1 r2 e q
  cases r2 <;> simp [vNotN] at e
  subst e
  refine ⟨rfl, ?_⟩
  cases r1 <;> exact q
theorem v_isB : VOpB K rIsB vIsB := by
  intro F H x y a b v Q S r1 r2 e q
  cases r1 <;> cases r2 <;> simp [vIsB] at e
  subst e
  refine ⟨_, _, rfl, rfl, ?_⟩
  rw [← Bool.beq_eq_decide_eq]
  exact q
theorem v_notB : VOpB K rNotB vNotB := by
  intro F H x y a b v Q S r1 r2 e q
  cases r1 with
  | bl a => cases r2 with
    | bl b =>
      have e : some (!(a == b)) = some v := e
      cases e
      refine ⟨_, _, rfl, rfl, ?_⟩
      rw [← Bool.beq_eq_decide_eq]
      exact q
    | _ => simp [vNotB] at e
  | _ => simp [vNotB] at e
theorem v_in {K' : PySem.W.Frag} (hk : K' = K) : VOpB K (fun x y H Q => rInD K' x y H Q ∨ rInT K' x y H Q) vIn := by
  subst hk
  intro F H x y a b v Q S r1 r2 e q
  cases r2 with
  | lst h1 h2 =>
    simp only [vIn, Option.ite_none_right_eq_some, Option.some.injEq] at e
    obtain ⟨⟨e1, e2⟩, e⟩ := e
    subst e
    exact .inl ⟨a, _, (r1.mono S).dp, (Rp.mono S _ _ (.lst h1 h2)).dp, e1, e2, q⟩
  | tup h1 h2 =>
    simp only [vIn, Option.ite_none_right_eq_some, Option.some.injEq] at e
    obtain ⟨⟨e1, e2⟩, e⟩ := e
    subst e
    exact .inr ⟨a, _, (r1.mono S).dp, (Rp.mono S _ _ (.tup h1 h2)).dp, e1, e2, q⟩
  | _ => simp [vIn] at e
theorem v_notIn {K' : PySem.W.Frag} (hk : K' = K) : VOpB K (fun x y H Q => rNotInD K' x y H Q ∨ rNotInT K' x y H Q) vNotIn := by
  subst hk
  intro F H x y a b v Q S r1 r2 e q
  cases r2 with
  | lst h1 h2 =>
    simp only [vNotIn, Option.ite_none_right_eq_some, Option.some.injEq] at e
    obtain ⟨⟨e1, e2⟩, e⟩ := e
    subst e
    exact .inl ⟨a, _, (r1.mono S).dp, (Rp.mono S _ _ (.lst h1 h2)).dp, e1, e2, q⟩
  | tup h1 h2 =>
    simp only [vNotIn, Option.ite_none_right_eq_some, Option.some.injEq] at e
    obtain ⟨⟨e1, e2⟩, e⟩ := e
    subst e
    exact .inr ⟨a, _, (r1.mono S).dp, (Rp.mono S _ _ (.tup h1 h2)).dp, e1, e2, q⟩
  | _ => simp [vNotIn] at e
theorem v_lt : VOpB K (rI0 fun i j => .bl (decide (i < j))) cLt := v_cI _
theorem v_le : VOpB K (rI0 fun i j => .bl (decide (i ≤ j))) cLe := v_cI _
theorem v_gt : VOpB K (rI0 fun i j => .bl (decide (j < i))) cGt := v_cI _
theorem v_ge : VOpB K (rI0 fun i j => .bl (decide (j ≤ i))) cGe := v_cI _
end

/-! ### subscripts -/
def vIx : D → D → Option D
  | .list xs, .int i => atI xs i
  | .tuple xs, .int i => atI xs i
  | .str z, .int i => if z.length ≤ sizeLine then (atI z.cps.toList i).map fun c => .str ⟨#[c]⟩ else none
  | _, _ => none
theorem v_ix {K K' : PySem.W.Frag} (hk : K' = K) : VOp K (rIx K') vIx := by
  subst hk
  intro F H x y a b v Q S r1 r2 e q
  cases r1 with
  | lst h1 h2 =>
    cases r2 with
    | int i =>
      have e : atI _ i = some v := e
      obtain ⟨j, e1, e2⟩ := Option.bind_eq_some_iff.mp e
      obtain ⟨u, e3, e4⟩ := h2.get e2
      refine .inl ⟨_, _, i, u, rfl, rfl, SqL.of (S _ _ h1), ?_, q F H u (Xt.refl S) e4⟩
      show (ixN _ i).bind _ = _
      rw [h2.length, e1]
      exact e3
    | _ => simp [vIx] at e
  | tup h1 h2 =>
    cases r2 with
    | int i =>
      have e : atI _ i = some v := e
      obtain ⟨j, e1, e2⟩ := Option.bind_eq_some_iff.mp e
      obtain ⟨u, e3, e4⟩ := h2.get e2
      refine .inr (.inl ⟨_, _, i, u, rfl, rfl, sameT S h1, ?_, q F H u (Xt.refl S) e4⟩)
      show (ixN _ i).bind _ = _
      rw [h2.length, e1]
      exact e3
    | _ => simp [vIx] at e
  | str z =>
    cases r2 with
    | int i =>
      simp only [vIx, Option.ite_none_right_eq_some, Option.map_eq_some_iff] at e
      obtain ⟨e1, cc, e2, e3⟩ := e
      subst e3
      exact .inr (.inr ⟨z, i, cc, rfl, rfl, e1, e2, q F H _ (Xt.refl S) (.str _)⟩)
    | _ => simp [vIx] at e
  | _ => simp [vIx] at e

/-! ### slices -/
def oPart (d : Ev → MM D) : Ev → MM (Option Int) := fun ρ ω => (d ρ ω).bind fun a w => match a with
  | .int i => .ok (some i) w
  | _ => .bad
def oNone : Ev → MM (Option Int) := fun _ ω => .ok none ω
def TDo (c : CM) (W : WX) (m : Md) (d : Ev → MM (Option Int)) : TO := fun σ H Q => ∃ F ρ ω, SR c m F ρ ω σ H ∧ Post c W F H σ (fun b _ H' _ => Q b H') (d ρ ω)
def cutD (xs : List D) (lo hi : Option Int) : List D := (xs.drop (HT.sIx xs.length 0 lo)).take (HT.sIx xs.length xs.length hi - HT.sIx xs.length 0 lo)
def vSl : D → Option Int → Option Int → Option D
  | .list xs, lo, hi => some (.list (cutD xs lo hi))
  | .tuple xs, lo, hi => some (.tuple (cutD xs lo hi))
  | _, _, _ => none
def eSl (d : Ev → MM D) (dl dh : Ev → MM (Option Int)) : Ev → MM D := fun ρ ω => (d ρ ω).bind fun a w => (dl ρ w).bind fun l w => (dh ρ w).bind fun h w => ofO (vSl a l h) w
section
variable {c : CM} {W : WX} {m : Md} {X : Cx} {e : Expr} {lo hi : Option Expr} {pos p2 : Pos}
theorem o_none : PO X none (TDo c W m oNone) := ⟨fun pins s σ H Q I ⟨F, ρ, ω, S, q⟩ => po_none.run pins s σ H Q I (q F H (Xt.refl S.fh) S.bo)⟩
theorem o_some {d : Ev → MM D} (h : E c W m X e d) : PO X (some e) (TDo c W m (oPart d)) := ⟨fun pins s σ H Q I ⟨F, ρ, ω, S, q⟩ => (po_some h).run pins s σ H Q I ⟨F, ρ, ω, S, bindT S Post.pg q fun a F1 H1 w1 x1 S1 q1 x r1 => by
  cases r1 with
  | int i => exact ⟨i, rfl, q1 F1 H1 (Xt.refl S1.fh) S1.bo⟩
  | _ => exact q1.elim⟩⟩
theorem RpL.cut {K : PySem.W.Frag} {F : Hp} {xs : List V} {ds : List D} (h : RpL K F xs ds) (lo hi : Option Int) : RpL K F (cutV xs lo hi) (cutD ds lo hi) := by
  unfold cutV cutD
  rw [h.length]
  exact (h.drop _).take _
theorem e_sl {d : Ev → MM D} {dl dh : Ev → MM (Option Int)} (hk : X.K = c.K) (h : E c W m X e d) (hl : PO X lo (TDo c W m dl)) (hh : PO X hi (TDo c W m dh)) : E c W m X (.Subscript e (.Slice lo hi none p2) pos) (eSl d dl dh) :=
  PEimp (pe_slice (SlR.or sl_list sl_tupA) h hl hh) fun σ H Q ⟨F, ρ, ω, S, q⟩ => ⟨F, ρ, ω, S, bindT S Post.pg q fun a F1 H1 w1 x1 S1 q1 x r1 =>
    ⟨F1, ρ, w1, S1, bindT S1 Post.pg q1 fun l F2 H2 w2 x2 S2 q2 => ⟨F2, ρ, w2, S2, bindT S2 Post.pg q2 fun u F3 H3 w3 x3 S3 q3 => by
      obtain ⟨z, e1, q4⟩ := post_ofO S3.fh S3.bo q3
      have r3 := (r1.mono x2.ff).mono x3.ff
      cases r3 with
      | lst h1 h2 =>
        simp only [vSl, Option.some.injEq] at e1
        subst e1
        refine .inl ⟨_, _, rfl, SqL.of (S3.fh _ _ h1), fun p np => ?_⟩
        exact rp_new_lst S3.fh np (h2.cut l u) fun F' H' z' xt rz => q4 F' H' xt z' rz
      | tup h1 h2 =>
        simp only [vSl, Option.some.injEq] at e1
        subst e1
        refine .inr ⟨_, _, rfl, by rw [hk]; exact sameT S3.fh h1, fun hw => ?_, fun hw p np => ?_⟩
        · refine q4 F3 H3 (Xt.refl S3.fh) _ (.tup h1 ?_)
          have r4 := h2.cut l u
          unfold cutV at r4
          rw [hw.1, hw.2] at r4
          simpa using r4
        · exact rp_new_tup S3.fh np (h2.cut l u) fun F' H' z' xt rz => q4 F' H' xt z' rz
      | _ => simp [vSl] at e1⟩⟩⟩
end

/-! ### calls of built-ins by values -/
def fLen : List D → Option D
  | [.list xs] => some (.int xs.length)
  | [.tuple xs] => some (.int xs.length)
  | [.str z] => if z.length ≤ sizeLine then some (.int z.length) else none
  | _ => none
def fAbs : List D → Option D
  | [.int i] => some (.int (if i < 0 then -i else i))
  | _ => none
def fInt : List D → Option D
  | [.int i] => some (.int i)
  | [.bool b] => some (.int (if b then 1 else 0))
  | _ => none
def fMax2 : List D → Option D
  | [.int i, .int j] => some (.int (if j > i then j else i))
  | _ => none
def fMin2 : List D → Option D
  | [.int i, .int j] => some (.int (if j < i then j else i))
  | _ => none
def fList : List D → Option D
  | [.list xs] => some (.list xs)
  | [.tuple xs] => some (.list xs)
  | _ => none
def fTuple : List D → Option D
  | [.list xs] => some (.tuple xs)
  | [.tuple xs] => some (.tuple xs)
  | _ => none
def fSum : List D → Option D
  | [.list xs] => (intsOf xs).map fun ns => .int ns.sum
  | _ => none
def fAll : List D → Option D
  | [.list xs] => (boolsOf xs).map fun ns => .bool (ns.all id)
  | _ => none
def fAny : List D → Option D
  | [.list xs] => (boolsOf xs).map fun ns => .bool (ns.any id)
  | _ => none
def maxI : List Int → Option Int
  | [] => none
  | x :: r => some (r.foldl max x)
def minI : List Int → Option Int
  | [] => none
  | x :: r => some (r.foldl min x)
def fMax : List D → Option D
  | [.list xs] => (intsOf xs).bind fun ns => (maxI ns).map .int
  | _ => none
def fMin : List D → Option D
  | [.list xs] => (intsOf xs).bind fun ns => (minI ns).map .int
  | _ => none
def insI (x : Int) : List Int → List Int
  | [] => [x]
  | y :: r => if x ≤ y then x :: y :: r else y :: insI x r
def sortI : List Int → List Int
  | [] => []
  | x :: r => insI x (sortI r)
def fSorted : List D → Option D
  | [.list xs] => (intsOf xs).map fun ns => .list ((sortI ns).map .int)
  | _ => none
theorem insI_perm (x : Int) : ∀ l, (insI x l).Perm (x :: l)
  | [] => .refl _
  | y :: r => by
    unfold insI
    split
    · exact .refl _
    · exact ((insI_perm x r).cons y).trans (.swap _ _ _)
theorem sortI_perm : ∀ l, (sortI l).Perm l
  | [] => .refl _
  | x :: r => (insI_perm x _).trans ((sortI_perm r).cons x)
theorem insI_sorted (x : Int) : ∀ {l : List Int}, l.Pairwise (· ≤ ·) → (insI x l).Pairwise (· ≤ ·)
  | [], _ => by simp [insI]
  | y :: r, h => by
    unfold insI
    rw [List.pairwise_cons] at h
    split
    · rename_i hxy
      refine List.pairwise_cons.mpr ⟨fun z hz => ?_, List.pairwise_cons.mpr h⟩
      rcases List.mem_cons.mp hz with rfl | hz
      · exact hxy
      · exact Int.le_trans hxy (h.1 z hz)
    · rename_i hxy
      refine List.pairwise_cons.mpr ⟨fun z hz => ?_, insI_sorted x h.2⟩
      rcases List.mem_cons.mp ((insI_perm x r).mem_iff.mp hz) with rfl | hz
      · omega
      · exact h.1 z hz
theorem sortI_sorted : ∀ l : List Int, (sortI l).Pairwise (· ≤ ·)
  | [] => .nil
  | x :: r => insI_sorted x (sortI_sorted r)
theorem sorted_eq {l l' : List Int} (p : l.Perm l') (h : l.Pairwise (· ≤ ·)) (h' : l'.Pairwise (· ≤ ·)) : l = l' := p.eq_of_pairwise (fun _ _ _ _ a b => Int.le_antisymm a b) h h'
theorem foldl_max_mem : ∀ (r : List Int) (x : Int), r.foldl max x ∈ x :: r ∧ ∀ y ∈ x :: r, y ≤ r.foldl max x
  | [], x => by simp
  | z :: r, x => by
    obtain ⟨h1, h2⟩ := foldl_max_mem r (max x z)
    refine ⟨?_, fun y hy => ?_⟩
    · simp only [List.foldl_cons]
      rcases List.mem_cons.mp h1 with h | h
      · rw [h]; simp only [List.mem_cons]; omega
      · simp [h]
    · simp only [List.foldl_cons]
      have h3 := h2 (max x z) (by simp)
      simp only [List.mem_cons] at hy
      rcases hy with rfl | rfl | hy
      · omega
      · omega
      · exact h2 y (by simp [hy])
theorem foldl_min_mem : ∀ (r : List Int) (x : Int), r.foldl min x ∈ x :: r ∧ ∀ y ∈ x :: r, r.foldl min x ≤ y
  | [], x => by simp
  | z :: r, x => by
    obtain ⟨h1, h2⟩ := foldl_min_mem r (min x z)
    refine ⟨?_, fun y hy => ?_⟩
    · simp only [List.foldl_cons]
      rcases List.mem_cons.mp h1 with h | h
      · rw [h]; simp only [List.mem_cons]; omega
      · simp [h]
    · simp only [List.foldl_cons]
      have h3 := h2 (min x z) (by simp)
      simp only [List.mem_cons] at hy
      rcases hy with rfl | rfl | hy
      · omega
      · omega
      · exact h2 y (by simp [hy])
section
variable {K K' : PySem.W.Frag}
theorem v_len (hk : K' = K) : VAr K (fun xs H Q => ∃ x n, xs = [x] ∧ LenV K' x H n ∧ Q (.int n) H) fLen := by
  subst hk
  intro F H xs as v Q S r e q
  match as, e, r with
  | [.list ds], e, r =>
    obtain ⟨u, rfl, r1⟩ := r.one
    obtain ⟨a, ys, rfl, h1, h2⟩ := r1.vlst
    simp only [fLen, Option.some.injEq] at e
    subst e
    exact ⟨_, ds.length, rfl, .inl ⟨ys, SqL.of (S _ _ h1), h2.length.symm⟩, q F H _ (Xt.refl S) (.int _)⟩
  | [.tuple ds], e, r =>
    obtain ⟨u, rfl, r1⟩ := r.one
    obtain ⟨a, ys, rfl, h1, h2⟩ := r1.vtup
    simp only [fLen, Option.some.injEq] at e
    subst e
    exact ⟨_, ds.length, rfl, .inr ⟨ys, sameT S h1, h2.length.symm⟩, q F H _ (Xt.refl S) (.int _)⟩
  | [.str z], e, r =>
    obtain ⟨u, rfl, r1⟩ := r.one
    cases r1
    simp only [fLen, Option.ite_none_right_eq_some, Option.some.injEq] at e
    obtain ⟨e1, e⟩ := e
    subst e
    exact ⟨_, z.length, rfl, ⟨e1, rfl⟩, q F H _ (Xt.refl S) (.int _)⟩
theorem v_abs : VAr K (fun xs H Q => ∃ i, xs = [.int i] ∧ Q (.int (if i < 0 then -i else i)) H) fAbs := by
  intro F H xs as v Q S r e q
  match as, e, r with
  | [.int i], e, r =>
    obtain ⟨u, rfl, r1⟩ := r.one
    cases r1
    simp only [fAbs, Option.some.injEq] at e
    subst e
    exact ⟨i, rfl, q F H _ (Xt.refl S) (.int _)⟩
theorem v_int1 : VAr K (fun xs H Q => (∃ i, xs = [.int i] ∧ Q (.int i) H) ∨ ∃ k : Bool, xs = [.bl k] ∧ Q (.int (if k then 1 else 0)) H) fInt := by
  intro F H xs as v Q S r e q
  match as, e, r with
  | [.int i], e, r =>
    obtain ⟨u, rfl, r1⟩ := r.one
    cases r1
    simp only [fInt, Option.some.injEq] at e
    subst e
    exact .inl ⟨i, rfl, q F H _ (Xt.refl S) (.int _)⟩
  | [.bool i], e, r =>
    obtain ⟨u, rfl, r1⟩ := r.one
    cases r1
    simp only [fInt, Option.some.injEq] at e
    subst e
    exact .inr ⟨i, rfl, q F H _ (Xt.refl S) (.int _)⟩
theorem v_max2 : VAr K (fun xs H Q => ∃ i j, xs = [.int i, .int j] ∧ Q (.int (if j > i then j else i)) H) fMax2 := by
  intro F H xs as v Q S r e q
  match as, e, r with
  | [.int i, .int j], e, r =>
    obtain ⟨u, u', rfl, r1, r2⟩ := r.two
    cases r1
    cases r2
    simp only [fMax2, Option.some.injEq] at e
    subst e
    exact ⟨i, j, rfl, q F H _ (Xt.refl S) (.int _)⟩
theorem v_min2 : VAr K (fun xs H Q => ∃ i j, xs = [.int i, .int j] ∧ Q (.int (if j < i then j else i)) H) fMin2 := by
  intro F H xs as v Q S r e q
  match as, e, r with
  | [.int i, .int j], e, r =>
    obtain ⟨u, u', rfl, r1, r2⟩ := r.two
    cases r1
    cases r2
    simp only [fMin2, Option.some.injEq] at e
    subst e
    exact ⟨i, j, rfl, q F H _ (Xt.refl S) (.int _)⟩
theorem v_list (hk : K' = K) : VAr K (fun xs H Q => ∃ p ys, xs = [.ref p] ∧ (SqL K' H p ys ∨ SqT K' H p ys) ∧ ∀ l, H l = none → Q (.ref l) (upd H l (.lst ys))) fList := by
  subst hk
  intro F H xs as v Q S r e q
  match as, e, r with
  | [.list ds], e, r =>
    obtain ⟨u, rfl, r1⟩ := r.one
    obtain ⟨a, ys, rfl, h1, h2⟩ := r1.vlst
    simp only [fList, Option.some.injEq] at e
    subst e
    exact ⟨_, ys, rfl, .inl (SqL.of (S _ _ h1)), fun p np => rp_new_lst S np h2 q⟩
  | [.tuple ds], e, r =>
    obtain ⟨u, rfl, r1⟩ := r.one
    obtain ⟨a, ys, rfl, h1, h2⟩ := r1.vtup
    simp only [fList, Option.some.injEq] at e
    subst e
    exact ⟨_, ys, rfl, .inr (sameT S h1), fun p np => rp_new_lst S np h2 q⟩
theorem v_tuple (hk : K' = K) : VAr K (fun xs H Q => ∃ p ys, xs = [.ref p] ∧ ((SqL K' H p ys ∧ ∀ l, H l = none → Q (.ref l) (upd H l (.tup ys))) ∨ (SqT K' H p ys ∧ Q (.ref p) H))) fTuple := by
  subst hk
  intro F H xs as v Q S r e q
  match as, e, r with
  | [.list ds], e, r =>
    obtain ⟨u, rfl, r1⟩ := r.one
    obtain ⟨a, ys, rfl, h1, h2⟩ := r1.vlst
    simp only [fTuple, Option.some.injEq] at e
    subst e
    exact ⟨_, ys, rfl, .inl ⟨SqL.of (S _ _ h1), fun p np => rp_new_tup S np h2 q⟩⟩
  | [.tuple ds], e, r =>
    obtain ⟨u, rfl, r1⟩ := r.one
    obtain ⟨a, ys, rfl, h1, h2⟩ := r1.vtup
    simp only [fTuple, Option.some.injEq] at e
    subst e
    exact ⟨_, ys, rfl, .inr ⟨sameT S h1, q F H _ (Xt.refl S) (.tup h1 h2)⟩⟩
theorem ints_arg (hk : K' = K) {F H : Hp} {xs : List V} {ds : List D} {ns : List Int} (S : Same F H) (r : RpL K F xs [.list ds]) (e : intsOf ds = some ns) : ∃ a, xs = [V.ref a] ∧ SqL K' H a (ns.map V.int) := by
  obtain ⟨u, rfl, r1⟩ := r.one
  obtain ⟨a, ys, rfl, h1, h2⟩ := r1.vlst
  rw [intsOf_eq e] at h2
  rw [h2.ints] at h1
  exact ⟨a, rfl, SqL.of (S _ _ h1)⟩
theorem bools_arg (hk : K' = K) {F H : Hp} {xs : List V} {ds : List D} {ns : List Bool} (S : Same F H) (r : RpL K F xs [.list ds]) (e : boolsOf ds = some ns) : ∃ a, xs = [V.ref a] ∧ SqL K' H a (ns.map V.bl) := by
  obtain ⟨u, rfl, r1⟩ := r.one
  obtain ⟨a, ys, rfl, h1, h2⟩ := r1.vlst
  rw [boolsOf_eq e] at h2
  rw [h2.bools] at h1
  exact ⟨a, rfl, SqL.of (S _ _ h1)⟩
theorem v_sum (hk : K' = K) : VAr K (rSum K') fSum := by
  intro F H xs as v Q S r e q
  match as, e, r with
  | [.list ds], e, r =>
    simp only [fSum, Option.map_eq_some_iff] at e
    obtain ⟨ns, e1, e2⟩ := e
    subst e2
    obtain ⟨a, rfl, h⟩ := ints_arg hk S r e1
    exact ⟨a, ns, rfl, h, q F H _ (Xt.refl S) (.int _)⟩
theorem v_max (hk : K' = K) : VAr K (rMax K') fMax := by
  intro F H xs as v Q S r e q
  match as, e, r with
  | [.list ds], e, r =>
    simp only [fMax, Option.bind_eq_some_iff, Option.map_eq_some_iff] at e
    obtain ⟨ns, e1, mm, e2, e3⟩ := e
    subst e3
    obtain ⟨a, rfl, h⟩ := ints_arg hk S r e1
    cases ns with
    | nil => simp [maxI] at e2
    | cons n ns =>
      simp only [maxI, Option.some.injEq] at e2
      obtain ⟨g1, g2⟩ := foldl_max_mem ns n
      rw [e2] at g1 g2
      refine ⟨a, n :: ns, rfl, h, by simp, fun m1 k1 k2 => ?_⟩
      have : m1 = mm := Int.le_antisymm (g2 _ k1) (k2 _ g1)
      subst this
      exact q F H _ (Xt.refl S) (.int _)
theorem v_min (hk : K' = K) : VAr K (rMin K') fMin := by
  intro F H xs as v Q S r e q
  match as, e, r with
  | [.list ds], e, r =>
    simp only [fMin, Option.bind_eq_some_iff, Option.map_eq_some_iff] at e
    obtain ⟨ns, e1, mm, e2, e3⟩ := e
    subst e3
    obtain ⟨a, rfl, h⟩ := ints_arg hk S r e1
    cases ns with
    | nil => simp [minI] at e2
    | cons n ns =>
      simp only [minI, Option.some.injEq] at e2
      obtain ⟨g1, g2⟩ := foldl_min_mem ns n
      rw [e2] at g1 g2
      refine ⟨a, n :: ns, rfl, h, by simp, fun m1 k1 k2 => ?_⟩
      have : m1 = mm := Int.le_antisymm (k2 _ g1) (g2 _ k1)
      subst this
      exact q F H _ (Xt.refl S) (.int _)
theorem v_sorted (hk : K' = K) : VAr K (rSortedI K') fSorted := by
  intro F H xs as v Q S r e q
  match as, e, r with
  | [.list ds], e, r =>
    simp only [fSorted, Option.map_eq_some_iff] at e
    obtain ⟨ns, e1, e2⟩ := e
    subst e2
    obtain ⟨a, rfl, h⟩ := ints_arg hk S r e1
    refine ⟨a, ns, rfl, h, fun ns' p h1 h2 np => ?_⟩
    have : ns' = sortI ns := sorted_eq (h1.trans (sortI_perm ns).symm) h2 (sortI_sorted ns)
    subst this
    exact rp_new_lst S np (RpL.of_ints _) q
theorem v_all (hk : K' = K) : VAr K (fun vs H Q => ∃ (a : Addr) (bs : List Bool), vs = [V.ref a] ∧ SqL K' H a (bs.map V.bl) ∧ Q (.bl (bs.all id)) H) fAll := by
  intro F H xs as v Q S r e q
  match as, e, r with
  | [.list ds], e, r =>
    simp only [fAll, Option.map_eq_some_iff] at e
    obtain ⟨ns, e1, e2⟩ := e
    subst e2
    obtain ⟨a, rfl, h⟩ := bools_arg hk S r e1
    exact ⟨a, ns, rfl, h, q F H _ (Xt.refl S) (.bl _)⟩
theorem v_any (hk : K' = K) : VAr K (fun vs H Q => ∃ (a : Addr) (bs : List Bool), vs = [V.ref a] ∧ SqL K' H a (bs.map V.bl) ∧ Q (.bl (bs.any id)) H) fAny := by
  intro F H xs as v Q S r e q
  match as, e, r with
  | [.list ds], e, r =>
    simp only [fAny, Option.map_eq_some_iff] at e
    obtain ⟨ns, e1, e2⟩ := e
    subst e2
    obtain ⟨a, rfl, h⟩ := bools_arg hk S r e1
    exact ⟨a, ns, rfl, h, q F H _ (Xt.refl S) (.bl _)⟩
end
end M

set_option Elab.async false
set_option linter.all false
set_option maxRecDepth 100000
set_option maxHeartbeats 4000000
namespace M
open PySem PySem.Spec PyProof.Rows L2

inductive Fl where
  | next (ρ : Ev)
  | ret (d : D)
  | brk (ρ : Ev)
  | cont (ρ : Ev)
def put (ρ : Ev) (i : Nat) (d : D) : Ev := ρ.set i (some d)
def Md.del (m : Md) (i : Nat) : Md := { m with O := m.O.filter (· != i) }
def Md.add (m : Md) (i : Nat) : Md := { m with O := i :: m.O.filter (· != i) }
theorem mem_del {m : Md} {i j : Nat} : j ∈ (m.del i).O ↔ j ∈ m.O ∧ j ≠ i := by simp [Md.del]
theorem mem_add {m : Md} {i j : Nat} : j ∈ (m.add i).O ↔ j = i ∨ (j ∈ m.O ∧ j ≠ i) := by simp [Md.add]
def PostS (c : CM) (W : WX) (mn mb mc : Md) (F : Hp) (D' : Ends) : Res Fl → Prop
  | .bad => False
  | .ok (.next ρ) ω => ∀ F' σ' H', Same F F' → SR c mn F' ρ ω σ' H' → D'.nx σ' H'
  | .ok (.brk ρ) ω => ∀ F' σ' H', Same F F' → SR c mb F' ρ ω σ' H' → D'.bk σ' H'
  | .ok (.cont ρ) ω => ∀ F' σ' H', Same F F' → SR c mc F' ρ ω σ' H' → D'.ct σ' H'
  | .ok (.ret d) ω => ∀ F' H' x, Same F F' → Frm c F' ω H' → Rp c.K F' x d → D'.rt x H'
  | .exc e ω => ∀ F' σ' H' cls dd, Same F F' → Frm c F' ω H' → RepX c e cls dd H' → W cls dd σ' H'
theorem PostS.mono {c : CM} {W : WX} {mn mb mc : Md} {F F1 : Hp} {D' : Ends} (x : Same F F1) : ∀ {r : Res Fl}, PostS c W mn mb mc F D' r → PostS c W mn mb mc F1 D' r
  | .bad, h => h
  | .ok (.next _) _, h => fun F' σ' H' s => h F' σ' H' (x.trans s)
  | .ok (.brk _) _, h => fun F' σ' H' s => h F' σ' H' (x.trans s)
  | .ok (.cont _) _, h => fun F' σ' H' s => h F' σ' H' (x.trans s)
  | .ok (.ret _) _, h => fun F' H' z s => h F' H' z (x.trans s)
  | .exc _ _, h => fun F' σ' H' cls dd s => h F' σ' H' cls dd (x.trans s)
def GS (c : CM) (W : WX) (mn mb mc : Md) (D' : Ends) (F H : Hp) (r : Res Fl) : Prop := Xt c.b c.F0 c.H0 F H ∧ PostS c W mn mb mc F D' r
theorem GS.pg {c : CM} {W : WX} {mn mb mc : Md} {D' : Ends} {σ : L2.St} : PGd c W σ (GS c W mn mb mc D') where
  bad := fun _ _ h => h.2
  exc := fun F H e ω h F' H' cls dd x bo r => h.2 F' σ H' cls dd x.ff ⟨h.1.trans x, bo⟩ r
  mono := fun F H F1 H1 r x h => ⟨h.1.trans x, h.2.mono x.ff⟩
def TSD (c : CM) (W : WX) (m mn mb mc : Md) (d : Ev → MM Fl) : TS := fun D' σ H => ∃ F ρ ω, SR c m F ρ ω σ H ∧ PostS c W mn mb mc F D' (d ρ ω)

/-! ### storing into slots -/
section
variable {c : CM} {m : Md} {F : Hp} {ρ : Ev} {ω : Wd} {σ : L2.St} {H : Hp}
theorem set_some {α : Type} {l : List (Option α)} {i j : Nat} {v w : α} (h : (l.set i (some v))[j]? = some (some w)) : (j = i ∧ v = w) ∨ (j ≠ i ∧ l[j]? = some (some w)) := by
  by_cases e : i = j
  · subst e
    by_cases hl : i < l.length
    · rw [List.getElem?_set_self hl] at h
      simp at h
      exact .inl ⟨rfl, h⟩
    · rw [List.getElem?_eq_none (by simpa using hl)] at h
      cases h
  · rw [List.getElem?_set_ne e] at h
    exact .inr ⟨fun z => e z.symm, h⟩
theorem lt_of_some {l : List (Option D)} {i : Nat} {x : Option D} (h : l[i]? = some x) : i < l.length := (List.getElem?_eq_some_iff.mp h).1
theorem SR.putD (S : SR c m F ρ ω σ H) {i : Nat} {d : D} {v : V} (r : Rp c.K F v d) (hb : m.Fr i) : SR c (m.del i) F (put ρ i d) ω (σ.set i (some v)) H where
  fr := S.fr
  len := by simp [M.put, S.len]
  dat := fun j d' e n => by
    rcases set_some e with ⟨h1, h2⟩ | ⟨h1, h2⟩
    · subst h1 h2
      have hl : j < σ.length := by
        rw [← S.len]
        have := lt_of_some e
        simpa [M.put] using this
      exact ⟨v, by rw [List.getElem?_set_self hl], r⟩
    · have n' : m.Rd j := ⟨fun z => n.1 (mem_del.mpr ⟨z, h1⟩), n.2⟩
      obtain ⟨u, h3, h4⟩ := S.dat j d' h2 n'
      exact ⟨u, by rw [List.getElem?_set_ne (Ne.symm h1)]; exact h3, h4⟩
  own := fun j d' e n => by
    obtain ⟨n1, n2⟩ := mem_del.mp n
    rcases set_some e with ⟨h1, h2⟩ | ⟨h1, h2⟩
    · exact absurd h1 n2
    · obtain ⟨l, us, ds, g1, g⟩ := S.own j d' h2 n1
      exact ⟨l, us, ds, by rw [List.getElem?_set_ne (Ne.symm h1)]; exact g1, g⟩
  sep := fun j k l dj dk oj ok ej ek sj sk => by
    obtain ⟨n1, n2⟩ := mem_del.mp oj
    obtain ⟨n3, n4⟩ := mem_del.mp ok
    rw [List.getElem?_set_ne (Ne.symm n2)] at sj
    rw [List.getElem?_set_ne (Ne.symm n4)] at sk
    have ej' : ρ[j]? = some (some dj) := by rw [← ej]; exact (List.getElem?_set_ne (Ne.symm n2)).symm
    have ek' : ρ[k]? = some (some dk) := by rw [← ek]; exact (List.getElem?_set_ne (Ne.symm n4)).symm
    exact S.sep j k l dj dk n1 n3 ej' ek' sj sk
  bsl := fun j e => by
    have hne : i ≠ j := fun z => hb.1 (by rw [z]; exact e)
    obtain ⟨h1, b, h2, h3⟩ := S.bsl j e
    exact ⟨by show (ρ.set i (some d))[j]? = _; rw [List.getElem?_set_ne hne]; exact h1, b, h2, by rw [List.getElem?_set_ne hne]; exact h3⟩
  tsl := fun j d' n e => by
    have hne : j ≠ i := fun z => hb.2 (by rw [← z]; exact n)
    rcases set_some e with ⟨h1, h2⟩ | ⟨h1, h2⟩
    · exact absurd h1 hne
    · obtain ⟨l, L, es, g1, g⟩ := S.tsl j d' n h2
      exact ⟨l, L, es, by rw [List.getElem?_set_ne (Ne.symm h1)]; exact g1, g⟩
/-- a list of one's own goes into a slot -/
theorem SR.putOwn (S : SR c m F ρ ω σ H) {i : Nat} {ds : List D} {l : Addr} {us : List V} (h0 : c.H0 l = none) (h1 : F l = none) (h2 : H l = some (.lst us)) (h3 : RpL c.K F us ds) (hb : m.Fr i)
    (hs : ∀ j dj, j ≠ i → j ∈ m.O → ρ[j]? = some (some dj) → σ[j]? ≠ some (some (.ref l))) : SR c (m.add i) F (put ρ i (.list ds)) ω (σ.set i (some (.ref l))) H where
  fr := S.fr
  len := by simp [M.put, S.len]
  dat := fun j d' e n => by
    rcases set_some e with ⟨g1, g2⟩ | ⟨g1, g2⟩
    · exact absurd (mem_add.mpr (.inl g1)) n.1
    · have n' : m.Rd j := ⟨fun z => n.1 (mem_add.mpr (.inr ⟨z, g1⟩)), n.2⟩
      obtain ⟨u, g3, g4⟩ := S.dat j d' g2 n'
      exact ⟨u, by rw [List.getElem?_set_ne (Ne.symm g1)]; exact g3, g4⟩
  own := fun j d' e n => by
    rcases set_some e with ⟨g1, g2⟩ | ⟨g1, g2⟩
    · subst g1 g2
      have hl : j < σ.length := by
        rw [← S.len]
        have := lt_of_some e
        simpa [M.put] using this
      exact ⟨l, us, ds, by rw [List.getElem?_set_self hl], rfl, h0, h1, h2, h3⟩
    · have n' : j ∈ m.O := by
        rcases mem_add.mp n with z | z
        · exact absurd z g1
        · exact z.1
      obtain ⟨l', us', ds', k1, k⟩ := S.own j d' g2 n'
      exact ⟨l', us', ds', by rw [List.getElem?_set_ne (Ne.symm g1)]; exact k1, k⟩
  sep := fun j k a dj dk oj ok ej ek sj sk => by
    by_cases hj : j = i
    · by_cases hk : k = i
      · rw [hj, hk]
      · exfalso
        subst hj
        have hl : j < σ.length := (List.getElem?_eq_some_iff.mp sj).1 |> fun z => by simpa using z
        rw [List.getElem?_set_self hl] at sj
        simp at sj
        subst sj
        rw [List.getElem?_set_ne (Ne.symm hk)] at sk
        have ek' : ρ[k]? = some (some dk) := by rw [← ek]; exact (List.getElem?_set_ne (Ne.symm hk)).symm
        rcases mem_add.mp ok with z | z
        · exact hk z
        · exact hs k dk hk z.1 ek' sk
    · by_cases hk : k = i
      · exfalso
        subst hk
        have hl : k < σ.length := (List.getElem?_eq_some_iff.mp sk).1 |> fun z => by simpa using z
        rw [List.getElem?_set_self hl] at sk
        simp at sk
        subst sk
        rw [List.getElem?_set_ne (Ne.symm hj)] at sj
        have ej' : ρ[j]? = some (some dj) := by rw [← ej]; exact (List.getElem?_set_ne (Ne.symm hj)).symm
        rcases mem_add.mp oj with z | z
        · exact hj z
        · exact hs j dj hj z.1 ej' sj
      · rw [List.getElem?_set_ne (Ne.symm hj)] at sj
        rw [List.getElem?_set_ne (Ne.symm hk)] at sk
        have ej' : ρ[j]? = some (some dj) := by rw [← ej]; exact (List.getElem?_set_ne (Ne.symm hj)).symm
        have ek' : ρ[k]? = some (some dk) := by rw [← ek]; exact (List.getElem?_set_ne (Ne.symm hk)).symm
        have oj' := (mem_add.mp oj).resolve_left hj
        have ok' := (mem_add.mp ok).resolve_left hk
        exact S.sep j k a dj dk oj'.1 ok'.1 ej' ek' sj sk
  bsl := fun j e => by
    have hne : i ≠ j := fun z => hb.1 (by rw [z]; exact e)
    obtain ⟨g1, b, g2, g3⟩ := S.bsl j e
    exact ⟨by show (ρ.set i (some (.list ds)))[j]? = _; rw [List.getElem?_set_ne hne]; exact g1, b, g2, by rw [List.getElem?_set_ne hne]; exact g3⟩
  tsl := fun j d' n e => by
    have hne : j ≠ i := fun z => hb.2 (by rw [← z]; exact n)
    rcases set_some e with ⟨g1, g2⟩ | ⟨g1, g2⟩
    · exact absurd g1 hne
    · obtain ⟨l', L, es, k1, k⟩ := S.tsl j d' n g2
      exact ⟨l', L, es, by rw [List.getElem?_set_ne (Ne.symm g1)]; exact k1, k⟩
/-- a list of one's own is frozen -/
theorem SR.freeze (S : SR c m F ρ ω σ H) (i : Nat) : ∃ F', Same F F' ∧ SR c (m.del i) F' ρ ω σ H := by
  by_cases hi : i ∈ m.O
  · cases hρ : ρ[i]? with
    | none =>
      refine ⟨F, Same.refl _, S.fr, S.len, fun j d e n => ?_, fun j d e n => S.own j d e (mem_del.mp n).1, fun j k l dj dk oj ok => S.sep j k l dj dk (mem_del.mp oj).1 (mem_del.mp ok).1, S.bsl, S.tsl⟩
      by_cases hj : j = i
      · rw [hj, hρ] at e; cases e
      · exact S.dat j d e ⟨fun z => n.1 (mem_del.mpr ⟨z, hj⟩), n.2⟩
    | some o =>
      cases o with
      | none =>
        refine ⟨F, Same.refl _, S.fr, S.len, fun j d e n => ?_, fun j d e n => S.own j d e (mem_del.mp n).1, fun j k l dj dk oj ok => S.sep j k l dj dk (mem_del.mp oj).1 (mem_del.mp ok).1, S.bsl, S.tsl⟩
        by_cases hj : j = i
        · rw [hj, hρ] at e; cases e
        · exact S.dat j d e ⟨fun z => n.1 (mem_del.mpr ⟨z, hj⟩), n.2⟩
      | some d0 =>
        obtain ⟨l, us, ds, g1, g2, g3, g4, g5, g6⟩ := S.own i d0 hρ hi
        have sF : Same F (upd F l (.lst us)) := same_upd g4
        have fH : Same (upd F l (.lst us)) H := fun a o e => by
          by_cases ha : a = l
          · subst ha; rw [upd_same] at e; cases e; exact g5
          · rw [upd_ne ha] at e; exact S.fh _ _ e
        refine ⟨upd F l (.lst us), sF, ⟨⟨S.fr.xt.ff.trans sF, fH, S.fr.xt.keep, S.fr.xt.dom, fun a h => ?_⟩, fun b e => ?_⟩, S.len, fun j d e n => ?_, fun j d e n => ?_, fun j k a dj dk oj ok => S.sep j k a dj dk (mem_del.mp oj).1 (mem_del.mp ok).1, S.bsl, fun j d n e => ?_⟩
        · have ha : a ≠ l := fun z => h (z ▸ g3)
          rw [upd_ne ha]; exact S.fr.xt.new a h
        · obtain ⟨k0, k1, us', k2, k3⟩ := S.bo b e
          have hbl : b ≠ l := fun z => k0 (z ▸ g3)
          exact ⟨k0, by rw [upd_ne hbl]; exact k1, us', k2, k3.mono sF⟩
        · by_cases hj : j = i
          · subst hj
            rw [hρ] at e
            cases e
            exact ⟨_, g1, by rw [g2]; exact .lst upd_same (g6.mono sF)⟩
          · obtain ⟨u, k1, k2⟩ := S.dat j d e ⟨fun z => n.1 (mem_del.mpr ⟨z, hj⟩), n.2⟩
            exact ⟨u, k1, k2.mono sF⟩
        · obtain ⟨n1, n2⟩ := mem_del.mp n
          obtain ⟨l', us', ds', k1, k2, k3, k4, k5, k6⟩ := S.own j d e n1
          have hll : l' ≠ l := fun z => n2 (S.sep j i l d d0 n1 hi e hρ (by rw [← z]; exact k1) g1)
          exact ⟨l', us', ds', k1, k2, k3, by rw [upd_ne hll]; exact k4, k5, k6.mono sF⟩
        · obtain ⟨l', L, es, k1, k2, k3, k4, k5, k6⟩ := S.tsl j d n e
          have hll : l' ≠ l := dto_inj k5 g5
          exact ⟨l', L, es, k1, k2, k3, by rw [upd_ne hll]; exact k4, k5, k6.mono sF⟩
  · refine ⟨F, Same.refl _, S.fr, S.len, fun j d e n => S.dat j d e ⟨fun z => n.1 (mem_del.mpr ⟨z, fun w => hi (w ▸ z)⟩), n.2⟩, fun j d e n => S.own j d e (mem_del.mp n).1, fun j k l dj dk oj ok => S.sep j k l dj dk (mem_del.mp oj).1 (mem_del.mp ok).1, S.bsl, S.tsl⟩
/-- a list of one's own is changed -/
theorem SR.write (S : SR c m F ρ ω σ H) {i : Nat} {ds ds' : List D} (hi : i ∈ m.O) (hρ : ρ[i]? = some (some (.list ds))) {l : Addr} {us us' : List V} (g1 : σ[i]? = some (some (.ref l))) (h2 : H l = some (.lst us)) (r : RpL c.K F us' ds') :
    SR c m F (put ρ i (.list ds')) ω σ (upd H l (.lst us')) := by
  obtain ⟨l0, us0, ds0, k1, k2, k3, k4, k5, k6⟩ := S.own i _ hρ hi
  rw [g1] at k1
  simp only [Option.some.injEq, V.ref.injEq] at k1
  subst k1
  have fH : Same F (upd H l (.lst us')) := fun a o e => by
    have ha : a ≠ l := fun z => by rw [z, k4] at e; cases e
    rw [upd_ne ha]; exact S.fh _ _ e
  refine ⟨⟨⟨S.fr.xt.ff, fH, fun a o e n => ?_, fun a h => ?_, S.fr.xt.new⟩, fun b e => ?_⟩, by simp [M.put, S.len], fun j d e n => ?_, fun j d e n => ?_, fun j k a dj dk oj ok ej ek sj sk => ?_, fun j e => ?_, fun j d n e => ?_⟩
  · have ha : a ≠ l := fun z => by rw [z, k3] at e; cases e
    rw [upd_ne ha]; exact S.fr.xt.keep a o e n
  · by_cases ha : a = l
    · rw [ha, upd_same]; simp
    · rw [upd_ne ha]; exact S.fr.xt.dom a h
  · obtain ⟨b0, b1, bu, b2, b3⟩ := S.bo b e
    have hbl : b ≠ l := fun z => b0 (z ▸ k3)
    exact ⟨b0, b1, bu, by rw [upd_ne hbl]; exact b2, b3⟩
  · rcases set_some e with ⟨z1, z2⟩ | ⟨z1, z2⟩
    · exact absurd (z1 ▸ hi) n.1
    · exact S.dat j d z2 n
  · rcases set_some e with ⟨z1, z2⟩ | ⟨z1, z2⟩
    · subst z1 z2
      exact ⟨l, us', ds', g1, rfl, k3, k4, upd_same, r⟩
    · obtain ⟨l', us1, ds1, q1, q2, q3, q4, q5, q6⟩ := S.own j d z2 n
      have hll : l' ≠ l := fun z => z1 (S.sep j i l d _ n hi z2 hρ (by rw [← z]; exact q1) g1)
      exact ⟨l', us1, ds1, q1, q2, q3, q4, by rw [upd_ne hll]; exact q5, q6⟩
  · have nn : ∀ {t : Nat} {dt : D}, (put ρ i (.list ds'))[t]? = some (some dt) → ∃ d0, ρ[t]? = some (some d0) := fun {t dt} et => by
      rcases set_some et with ⟨z1, z2⟩ | ⟨z1, z2⟩
      · exact ⟨_, z1 ▸ hρ⟩
      · exact ⟨_, z2⟩
    obtain ⟨d1, e1⟩ := nn ej
    obtain ⟨d2, e2⟩ := nn ek
    exact S.sep j k a d1 d2 oj ok e1 e2 sj sk
  · obtain ⟨q1, b, q2, q3⟩ := S.bsl j e
    have hne : i ≠ j := fun z => by rw [← z, hρ] at q1; cases q1
    exact ⟨by show (ρ.set i _)[j]? = _; rw [List.getElem?_set_ne hne]; exact q1, b, q2, q3⟩
  · rcases set_some e with ⟨z1, z2⟩ | ⟨z1, z2⟩
    · obtain ⟨l', L, es, q1, q2, q⟩ := S.tsl j (.list ds) n (z1 ▸ hρ)
      cases q2
    · obtain ⟨l', L, es, q1, q2, q3, q4, q5, q6⟩ := S.tsl j d n z2
      have hll : l' ≠ l := dto_inj q5 k5
      exact ⟨l', L, es, q1, q2, q3, q4, by rw [upd_ne hll]; exact q5, q6⟩
/-- the borrowed list is changed -/
theorem SR.writeB (S : SR c m F ρ ω σ H) {b : Addr} (hb : c.b = some b) {us' : List V} {ω' : Wd} (r : RpL c.K F us' ω') : SR c m F ρ ω' σ (upd H b (.lst us')) := by
  obtain ⟨b0, b1, bu, b2, b3⟩ := S.bo b hb
  refine ⟨⟨⟨S.fr.xt.ff, fun a o e => ?_, fun a o e n => ?_, fun a h => ?_, S.fr.xt.new⟩, fun b' e => ?_⟩, S.len, S.dat, fun j d e n => ?_, S.sep, S.bsl, fun j d n e => ?_⟩
  · have ha : a ≠ b := fun z => by rw [z, b1] at e; cases e
    rw [upd_ne ha]; exact S.fh _ _ e
  · have ha : a ≠ b := fun z => n (by rw [z]; exact hb)
    rw [upd_ne ha]; exact S.fr.xt.keep a o e n
  · by_cases ha : a = b
    · rw [ha, upd_same]; simp
    · rw [upd_ne ha]; exact S.fr.xt.dom a h
  · rw [hb] at e
    cases e
    exact ⟨b0, b1, us', upd_same, r⟩
  · obtain ⟨l', us1, ds1, q1, q2, q3, q4, q5, q6⟩ := S.own j d e n
    have hll : l' ≠ b := fun z => b0 (z ▸ q3)
    exact ⟨l', us1, ds1, q1, q2, q3, q4, by rw [upd_ne hll]; exact q5, q6⟩
  · obtain ⟨l', L, es, q1, q2, q3, q4, q5, q6⟩ := S.tsl j d n e
    have hll : l' ≠ b := dto_inj q5 b2
    exact ⟨l', L, es, q1, q2, q3, q4, by rw [upd_ne hll]; exact q5, q6⟩
end

/-! ### targets -/
def gN (i : Nat) : D → Ev → Option Ev := fun d ρ => some (put ρ i d)
def gsNil : List D → Ev → Option Ev
  | [], ρ => some ρ
  | _, _ => none
def gsCons (g : D → Ev → Option Ev) (gs : List D → Ev → Option Ev) : List D → Ev → Option Ev
  | d :: ds, ρ => (g d ρ).bind (gs ds)
  | [], _ => none
def gT (gs : List D → Ev → Option Ev) : D → Ev → Option Ev
  | .tuple ds, ρ => gs ds ρ
  | _, _ => none
def Off (is : List Nat) (σ σ' : L2.St) : Prop := σ'.length = σ.length ∧ ∀ j : Nat, j ∉ is → σ'[j]? = σ[j]?
def TGD (c : CM) (m mn : Md) (is : List Nat) (g : D → Ev → Option Ev) : TG := fun v σ H Q => ∃ F ρ ω d ρ', SR c m F ρ ω σ H ∧ Rp c.K F v d ∧ g d ρ = some ρ' ∧ ∀ σ', SR c mn F ρ' ω σ' H → Off is σ σ' → Q σ' H
def TGDs (c : CM) (m mn : Md) (is : List Nat) (g : List D → Ev → Option Ev) : TGs := fun vs σ H Q => ∃ F ρ ω ds ρ', SR c m F ρ ω σ H ∧ RpL c.K F vs ds ∧ g ds ρ = some ρ' ∧ ∀ σ', SR c mn F ρ' ω σ' H → Off is σ σ' → Q σ' H
theorem PGimp {X : Cx} {e : Expr} {t t' : TG} (h : PG X e t) (i : ∀ v σ H Q, t' v σ H Q → t v σ H Q) : PG X e t' := ⟨fun p s σ H v u Q I r q => h.run p s σ H v u Q I r (i _ _ _ _ q)⟩
theorem PGsimp {X : Cx} {e : List Expr} {t t' : TGs} (h : PGs X e t) (i : ∀ v σ H Q, t' v σ H Q → t v σ H Q) : PGs X e t' := ⟨fun p s σ H v u Q I r q => h.run p s σ H v u Q I r (i _ _ _ _ q)⟩
section
variable {c : CM} {W : WX} {m m1 mn mb mc : Md} {X : Cx} {e tg : Expr} {es : List Expr} {pos : Pos}
theorem gN_imp {i : Nat} (hb : m.Fr i) : ∀ v σ H Q, TGD c m (m.del i) [i] (gN i) v σ H Q → gName i v σ H Q := fun v σ H Q ⟨F, ρ, ω, d, ρ', S, r, e, q⟩ => by
  simp only [gN, Option.some.injEq] at e
  subst e
  exact q _ (S.putD r hb) ⟨by simp, fun j hj => List.getElem?_set_ne fun z => hj (by simp [z])⟩
theorem g_name {i : Nat} {x : Str} (h : PG X (.Name x pos) (gName i)) (hb : m.Fr i := by decide) : PG X (.Name x pos) (TGD c m (m.del i) [i] (gN i)) := PGimp h (gN_imp hb)
theorem gs_nil : PGs X [] (TGDs c m m [] gsNil) := PGsimp pgs_nil fun vs σ H Q ⟨F, ρ, ω, ds, ρ', S, r, e, q⟩ => by
  cases ds with
  | nil =>
    simp only [gsNil, Option.some.injEq] at e
    subst e
    cases r
    exact ⟨rfl, q _ S ⟨rfl, fun _ _ => rfl⟩⟩
  | cons d ds => simp [gsNil] at e
theorem gs_cons {is js : List Nat} {g : D → Ev → Option Ev} {gs : List D → Ev → Option Ev} (h : PG X e (TGD c m m1 is g)) (h2 : PGs X es (TGDs c m1 mn js gs))
    (hs : (assignEach (e :: es) X.env).map (·.2) = assign e X.env :: (assignEach es X.env).map (·.2) := by rfl) : PGs X (e :: es) (TGDs c m mn (is ++ js) (gsCons g gs)) := PGsimp (pgs_cons h h2 hs) fun vs σ H Q ⟨F, ρ, ω, ds, ρ', S, r, e, q⟩ => by
  cases ds with
  | nil => simp [gsCons] at e
  | cons d ds =>
    simp only [gsCons, Option.bind_eq_some_iff] at e
    obtain ⟨ρ1, e1, e2⟩ := e
    cases r with
    | cons r1 r2 => exact ⟨_, _, rfl, F, ρ, ω, d, ρ1, S, r1, e1, fun σ' S' o => ⟨F, ρ1, ω, ds, ρ', S', r2, e2, fun σ'' S'' o' => q σ'' S'' ⟨o'.1.trans o.1, fun j hj => (o'.2 j fun z => hj (by simp [z])).trans (o.2 j fun z => hj (by simp [z]))⟩⟩⟩
theorem len_gs {gs : List D → Ev → Option Ev} : ∀ {n : Nat} {ds : List D} {ρ ρ' : Ev}, (∀ ds ρ ρ', gs ds ρ = some ρ' → ds.length = n) → gT gs (.tuple ds) ρ = some ρ' → ds.length = n := fun h e => h _ _ _ e
theorem g_tup {is : List Nat} {k : Nat} {gs : List D → Ev → Option Ev} {n : Nat} (hk : X.K = c.K) (hc : X.calm = true) (h : PGs X es (TGDs c m mn is gs)) (hl : ∀ ds ρ ρ', gs ds ρ = some ρ' → ds.length = n)
    (hn : (assignEach es X.env).length = n := by rfl) (hst : (assignEach es X.env).findIdx? (·.1) = none := by rfl) : PG X (.Tuple es k pos) (TGD c m mn is (gT gs)) := PGimp (pg_tup hc h hn hst) fun v σ H Q ⟨F, ρ, ω, d, ρ', S, r, e, q⟩ => by
  cases r with
  | tup h1 h2 =>
    have e : gs _ ρ = some ρ' := e
    exact ⟨_, _, rfl, by rw [hk]; exact sameT S.fh h1, by rw [h2.length]; exact hl _ _ _ e, F, ρ, ω, _, ρ', S, h2, e, q⟩
  | _ => simp [gT] at e
theorem gl_nil : ∀ ds ρ ρ', gsNil ds ρ = some ρ' → ds.length = 0
  | [], _, _, _ => rfl
  | _ :: _, _, _, h => by simp [gsNil] at h
theorem gl_cons {g : D → Ev → Option Ev} {gs : List D → Ev → Option Ev} {n : Nat} (h : ∀ ds ρ ρ', gs ds ρ = some ρ' → ds.length = n) : ∀ ds ρ ρ', gsCons g gs ds ρ = some ρ' → ds.length = n + 1
  | [], _, _, e => by simp [gsCons] at e
  | d :: ds, ρ, ρ', e => by
    simp only [gsCons, Option.bind_eq_some_iff] at e
    obtain ⟨ρ1, e1, e2⟩ := e
    simp [h _ _ _ e2]
end

/-! ### statements -/
def sAsg (d : Ev → MM D) (g : D → Ev → Option Ev) : Ev → MM Fl := fun ρ ω => (d ρ ω).bind fun v w => (ofO (g v ρ) w).bind fun ρ' w => .ok (.next ρ') w
def sSeq (d1 d2 : Ev → MM Fl) : Ev → MM Fl := fun ρ ω => (d1 ρ ω).bind fun f w => match f with
  | .next ρ' => d2 ρ' w
  | .ret v => .ok (.ret v) w
  | .brk ρ' => .ok (.brk ρ') w
  | .cont ρ' => .ok (.cont ρ') w
def sNext : Ev → MM Fl := fun ρ ω => .ok (.next ρ) ω
def sBrk : Ev → MM Fl := fun ρ ω => .ok (.brk ρ) ω
def sCont : Ev → MM Fl := fun ρ ω => .ok (.cont ρ) ω
def sRet (d : Ev → MM D) : Ev → MM Fl := fun ρ ω => (d ρ ω).bind fun v w => .ok (.ret v) w
def sExpr (d : Ev → MM D) : Ev → MM Fl := fun ρ ω => (d ρ ω).bind fun _ w => .ok (.next ρ) w
def sIf (t : Ev → MM Bool) (d1 d2 : Ev → MM Fl) : Ev → MM Fl := fun ρ ω => (t ρ ω).bind fun b w => match b with
  | true => d1 ρ w
  | false => d2 ρ w
def sPar (i j : Nat) (d1 d2 : Ev → MM D) : Ev → MM Fl := fun ρ ω => (d1 ρ ω).bind fun a w => (d2 ρ w).bind fun b w => .ok (.next (put (put ρ i a) j b)) w
def sPar3 (i j k : Nat) (d1 d2 d3 : Ev → MM D) : Ev → MM Fl := fun ρ ω => (d1 ρ ω).bind fun a w => (d2 ρ w).bind fun b w => (d3 ρ w).bind fun e w => .ok (.next (put (put (put ρ i a) j b) k e)) w
def sAug (i : Nat) (f : D → D → Option D) (d : Ev → MM D) : Ev → MM Fl := fun ρ ω => match look ρ i with
  | none => .bad
  | some a => (d ρ ω).bind fun b w => (ofO (f a b) w).bind fun v w => .ok (.next (put ρ i v)) w
def sRaise (e : Ex) : Ev → MM Fl := fun _ ω => .exc e ω
def sFor (di : Ev → MM (List D)) (g : D → Ev → Option Ev) (db : Ev → MM Fl) : Ev → MM Fl := fun ρ ω => (di ρ ω).bind fun ds w => go ds ρ w
where go : List D → Ev → MM Fl
  | [], ρ, w => .ok (.next ρ) w
  | d :: ds, ρ, w => (ofO (g d ρ) w).bind fun ρ1 w => (db ρ1 w).bind fun f w => match f with
    | .next ρ2 => go ds ρ2 w
    | .cont ρ2 => go ds ρ2 w
    | .brk ρ2 => .ok (.next ρ2) w
    | .ret v => .ok (.ret v) w
def whileN (t : Ev → MM Bool) (db : Ev → MM Fl) : Nat → Ev → MM Fl
  | 0, _, _ => .bad
  | n + 1, ρ, w => (t ρ w).bind fun b w => match b with
    | false => .ok (.next ρ) w
    | true => (db ρ w).bind fun f w => match f with
      | .next ρ2 => whileN t db n ρ2 w
      | .cont ρ2 => whileN t db n ρ2 w
      | .brk ρ2 => .ok (.next ρ2) w
      | .ret v => .ok (.ret v) w
open Classical in
noncomputable def sWhile (t : Ev → MM Bool) (db : Ev → MM Fl) : Ev → MM Fl := fun ρ w =>
  if h : ∃ n, whileN t db n ρ w ≠ .bad then whileN t db h.choose ρ w else .bad
theorem whileN_mono {t : Ev → MM Bool} {db : Ev → MM Fl} : ∀ {n : Nat} {ρ : Ev} {w : Wd}, whileN t db n ρ w ≠ .bad → whileN t db (n + 1) ρ w = whileN t db n ρ w
  | 0, _, _, h => absurd rfl h
  | n + 1, ρ, w, h => by
    rw [whileN] at h ⊢
    conv => rhs; rw [whileN]
    cases e : t ρ w with
    | bad => rw [e] at h; exact absurd rfl h
    | exc x y => rfl
    | ok b w1 =>
      rw [e] at h
      cases b with
      | false => rfl
      | true =>
        simp only [bind_ok] at h ⊢
        cases e2 : db ρ w1 with
        | bad => rw [e2] at h; exact absurd rfl h
        | exc x y => rfl
        | ok f w2 =>
          rw [e2] at h
          simp only [bind_ok] at h ⊢
          cases f with
          | next ρ2 => exact whileN_mono h
          | cont ρ2 => exact whileN_mono h
          | brk ρ2 => rfl
          | ret v => rfl
theorem whileN_le {t : Ev → MM Bool} {db : Ev → MM Fl} {n m : Nat} {ρ : Ev} {w : Wd} (h : whileN t db n ρ w ≠ .bad) (l : n ≤ m) : whileN t db m ρ w = whileN t db n ρ w := by
  induction m with
  | zero => have : n = 0 := by omega
            subst this; rfl
  | succ m ih =>
    by_cases e : n = m + 1
    · rw [e]
    · have i := ih (by omega)
      rw [whileN_mono (by rw [i]; exact h), i]
theorem sWhile_of {t : Ev → MM Bool} {db : Ev → MM Fl} {n : Nat} {ρ : Ev} {w : Wd} (h : whileN t db n ρ w ≠ .bad) : sWhile t db ρ w = whileN t db n ρ w := by
  have hx : ∃ n, whileN t db n ρ w ≠ .bad := ⟨n, h⟩
  unfold sWhile
  rw [dif_pos hx]
  rcases Nat.le_total hx.choose n with l | l
  · exact (whileN_le hx.choose_spec l).symm
  · exact whileN_le h l
theorem sWhile_some {t : Ev → MM Bool} {db : Ev → MM Fl} {ρ : Ev} {w : Wd} (h : sWhile t db ρ w ≠ .bad) : ∃ n, whileN t db n ρ w = sWhile t db ρ w := by
  unfold sWhile at h ⊢
  split at h
  · rename_i hx
    exact ⟨hx.choose, by rw [dif_pos hx]⟩
  · exact absurd rfl h
theorem sWhile_unfold (t : Ev → MM Bool) (db : Ev → MM Fl) (ρ : Ev) (w : Wd) : sWhile t db ρ w = (t ρ w).bind fun b w => match b with
    | false => .ok (.next ρ) w
    | true => (db ρ w).bind fun f w => match f with
      | .next ρ2 => sWhile t db ρ2 w
      | .cont ρ2 => sWhile t db ρ2 w
      | .brk ρ2 => .ok (.next ρ2) w
      | .ret v => .ok (.ret v) w := by
  have fwd : ∀ n, whileN t db n ρ w ≠ .bad → whileN t db n ρ w = (t ρ w).bind fun b w => match b with
    | false => .ok (.next ρ) w
    | true => (db ρ w).bind fun f w => match f with
      | .next ρ2 => sWhile t db ρ2 w
      | .cont ρ2 => sWhile t db ρ2 w
      | .brk ρ2 => .ok (.next ρ2) w
      | .ret v => .ok (.ret v) w := fun n h => by
    cases n with
    | zero => exact absurd rfl h
    | succ n =>
      rw [whileN] at h ⊢
      cases e : t ρ w with
      | bad => rfl
      | exc x y => rfl
      | ok b w1 =>
        rw [e] at h
        cases b with
        | false => rfl
        | true =>
          simp only [bind_ok] at h ⊢
          cases e2 : db ρ w1 with
          | bad => rfl
          | exc x y => rfl
          | ok f w2 =>
            rw [e2] at h
            simp only [bind_ok] at h ⊢
            cases f with
            | next ρ2 => exact (sWhile_of h).symm
            | cont ρ2 => exact (sWhile_of h).symm
            | brk ρ2 => rfl
            | ret v => rfl
  by_cases h : sWhile t db ρ w = .bad
  · rw [h]
    cases e : t ρ w with
    | bad => rfl
    | exc x y =>
      have : whileN t db 1 ρ w ≠ .bad := by rw [whileN, e]; simp
      rw [sWhile_of this] at h
      exact absurd h this
    | ok b w1 =>
      cases b with
      | false =>
        have : whileN t db 1 ρ w ≠ .bad := by rw [whileN, e]; simp
        rw [sWhile_of this] at h
        exact absurd h this
      | true =>
        simp only [bind_ok]
        cases e2 : db ρ w1 with
        | bad => rfl
        | exc x y =>
          have : whileN t db 1 ρ w ≠ .bad := by rw [whileN, e]; simp [e2]
          rw [sWhile_of this] at h
          exact absurd h this
        | ok f w2 =>
          have key : ∀ ρ2, (∀ n, whileN t db (n + 1) ρ w = whileN t db n ρ2 w2) → Res.bad = sWhile t db ρ2 w2 := fun ρ2 hn => by
            cases q : sWhile t db ρ2 w2 with
            | bad => rfl
            | _ =>
              obtain ⟨n, hn2⟩ := sWhile_some (t := t) (db := db) (ρ := ρ2) (w := w2) (by rw [q]; simp)
              have hne : whileN t db (n + 1) ρ w ≠ .bad := by rw [hn n, hn2, q]; simp
              rw [sWhile_of hne] at h
              exact absurd h hne
          cases f with
          | next ρ2 => exact key ρ2 fun n => by rw [whileN, e]; simp [e2]
          | cont ρ2 => exact key ρ2 fun n => by rw [whileN, e]; simp [e2]
          | brk ρ2 =>
            have : whileN t db 1 ρ w ≠ .bad := by rw [whileN, e]; simp [e2]
            rw [sWhile_of this] at h
            exact absurd h this
          | ret v =>
            have : whileN t db 1 ρ w ≠ .bad := by rw [whileN, e]; simp [e2]
            rw [sWhile_of this] at h
            exact absurd h this
  · obtain ⟨n, hn⟩ := sWhile_some h
    rw [← hn]
    exact fwd n (by rw [hn]; exact h)

section
variable {c : CM} {W : WX} {m m1 mn mb mc : Md} {X : Cx} {e tg : Expr} {es : List Expr} {st : Stmt} {sts : List Stmt} {pos : Pos}
theorem asg_imp {is : List Nat} {d : Ev → MM D} {g : D → Ev → Option Ev} : ∀ D' σ H, TSD c W m mn mb mc (sAsg d g) D' σ H → tAsg (TD c W m d) (TGD c m mn is g) D' σ H := fun D' σ H ⟨F, ρ, ω, S, q⟩ =>
  ⟨F, ρ, ω, S, bindT S (GS.pg (D' := D')) (k := fun v w => (ofO (g v ρ) w).bind fun ρ' w => .ok (.next ρ') w) (⟨S.fr.xt, q⟩ : GS c W mn mb mc D' F H _) fun a F1 H1 w1 x1 S1 q1 x r1 => by
    cases eg : g a ρ with
    | none => rw [eg] at q1; exact q1.2.elim
    | some ρ' =>
      rw [eg] at q1
      exact ⟨F1, ρ, w1, a, ρ', S1, r1, eg, fun σ' S' _ => q1.2 F1 σ' H1 (Same.refl _) S'⟩⟩
theorem s_asg {is : List Nat} {d : Ev → MM D} {g : D → Ev → Option Ev} (he : E c W m X e d) (hg : PG X tg (TGD c m mn is g)) (hs : swapsWithSole [tg] e pos.line X.env = pure false := by rfl) (hw : swappedStores [tg] e X.env = pure none := by rfl)
    (h1 : (assignEach [tg] X.env).map (·.2) = [assign tg X.env] := by rfl) : PS X (.Assign [tg] e pos) (TSD c W m mn mb mc (sAsg d g)) := PSimp (ps_asg he hg hs hw h1) asg_imp
theorem s_set {i : Nat} {x : Str} {d : Ev → MM D} {pos' : Pos} (he : E c W m X e d) (h : PE X e (TD c W m d) → PS X (.Assign [.Name x pos'] e pos) (tAsg (TD c W m d) (gName i))) (hb : m.Fr i := by decide) : PS X (.Assign [.Name x pos'] e pos) (TSD c W m (m.del i) mb mc (sAsg d (gN i))) :=
  PSimp (h he) fun D' σ H q => by
    obtain ⟨F, ρ, ω, S, q'⟩ := asg_imp (is := [i]) D' σ H q
    refine ⟨F, ρ, ω, S, ?_⟩
    cases hd : d ρ ω with
    | bad => rw [hd] at q'; exact q'
    | exc x y => rw [hd] at q'; exact q'
    | ok a w =>
      rw [hd] at q'
      exact fun F' H' xt bo x r => gN_imp hb _ _ _ _ (q' F' H' xt bo x r)
theorem s_setLc {d : Ev → MM D} {i : Nat} {te : TE} (h : PS X st (tAsg te (gName i))) (hi : ∀ σ H Q, TD c W m d σ H Q → te σ H Q) (hb : m.Fr i := by decide) : PS X st (TSD c W m (m.del i) mb mc (sAsg d (gN i))) :=
  PSimp h fun D' σ H q => by
    obtain ⟨F, ρ, ω, S, q'⟩ := asg_imp (is := [i]) D' σ H q
    refine hi _ _ _ ⟨F, ρ, ω, S, ?_⟩
    cases hd : d ρ ω with
    | bad => rw [hd] at q'; exact q'
    | exc x y => rw [hd] at q'; exact q'
    | ok a w =>
      rw [hd] at q'
      exact fun F' H' xt bo x r => gN_imp hb _ _ _ _ (q' F' H' xt bo x r)
theorem ss_nil : PSs X [] (TSD c W m m mb mc sNext) := PSsimp pss_nil fun D' σ H ⟨F, ρ, ω, S, q⟩ => q F σ H (Same.refl _) S
theorem seq_imp {d1 d2 : Ev → MM Fl} : ∀ D' σ H, TSD c W m mn mb mc (sSeq d1 d2) D' σ H → tSeq (TSD c W m m1 mb mc d1) (TSD c W m1 mn mb mc d2) D' σ H := fun D' σ H ⟨F, ρ, ω, S, q⟩ => by
  refine ⟨F, ρ, ω, S, ?_⟩
  unfold sSeq at q
  cases e : d1 ρ ω with
  | bad => rw [e] at q; exact q
  | exc x y => rw [e] at q; exact q
  | ok f w =>
    rw [e] at q
    cases f with
    | next ρ' => exact fun F' σ' H' s S' => ⟨F', ρ', w, S', q.mono s⟩
    | ret v => exact q
    | brk ρ' => exact q
    | cont ρ' => exact q
theorem ss_cons {d1 d2 : Ev → MM Fl} (h1 : PS X st (TSD c W m m1 mb mc d1)) (h2 : PSs X sts (TSD c W m1 mn mb mc d2)) : PSs X (st :: sts) (TSD c W m mn mb mc (sSeq d1 d2)) := PSsimp (pss_cons h1 h2) seq_imp
theorem ss_one {d : Ev → MM Fl} (h : PS X st (TSD c W m mn mb mc d)) : PSs X [st] (TSD c W m mn mb mc d) := pss_one h
theorem s_pass : PS X (.Pass pos) (TSD c W m m mb mc sNext) := PSimp ps_pass fun D' σ H ⟨F, ρ, ω, S, q⟩ => q F σ H (Same.refl _) S
theorem s_doc {x j pos'} : PS X (.Expr (.Constant (.str x) j pos) pos') (TSD c W m m mb mc sNext) := PSimp ps_doc fun D' σ H ⟨F, ρ, ω, S, q⟩ => q F σ H (Same.refl _) S
theorem s_brk : PS X (.Break pos) (TSD c W m mn m mc sBrk) := PSimp ps_break fun D' σ H ⟨F, ρ, ω, S, q⟩ => q F σ H (Same.refl _) S
theorem s_cont : PS X (.Continue pos) (TSD c W m mn mb m sCont) := PSimp ps_continue fun D' σ H ⟨F, ρ, ω, S, q⟩ => q F σ H (Same.refl _) S
theorem s_ret {d : Ev → MM D} (h : E c W m X e d) : PS X (.Return (some e) pos) (TSD c W m mn mb mc (sRet d)) := PSimp (ps_ret h) fun D' σ H ⟨F, ρ, ω, S, q⟩ =>
  ⟨F, ρ, ω, S, bindT S (GS.pg (D' := D')) (k := fun v w => .ok (.ret v) w) (⟨S.fr.xt, q⟩ : GS c W mn mb mc D' F H _) fun a F1 H1 w1 x1 S1 q1 x r1 => q1.2 F1 H1 x (Same.refl _) S1.fr r1⟩
theorem s_expr {d : Ev → MM D} (h : E c W m X e d) (hs : swapsWith e none pos.line X.env = pure false := by rfl) : PS X (.Expr e pos) (TSD c W m m mb mc (sExpr d)) := PSimp (ps_expr h hs) fun D' σ H ⟨F, ρ, ω, S, q⟩ =>
  ⟨F, ρ, ω, S, bindT S (GS.pg (D' := D')) (k := fun v w => .ok (.next ρ) w) (⟨S.fr.xt, q⟩ : GS c W m mb mc D' F H _) fun a F1 H1 w1 x1 S1 q1 x r1 => q1.2 F1 σ H1 (Same.refl _) S1⟩
theorem s_if {t : Expr} {a b : List Stmt} {dt : Ev → MM Bool} {d1 d2 : Ev → MM Fl} (ht : B c W m X t dt) (h1 : PSs X a (TSD c W m mn mb mc d1)) (h2 : PSs X b (TSD c W m mn mb mc d2)) : PS X (.If t a b pos) (TSD c W m mn mb mc (sIf dt d1 d2)) := PSimp (ps_if ht h1 h2) fun D' σ H ⟨F, ρ, ω, S, q⟩ => by
  have q' : GS c W mn mb mc D' F H (sIf dt d1 d2 ρ ω) := ⟨S.fr.xt, q⟩
  unfold sIf at q'
  refine ⟨F, ρ, ω, S, bindT S GS.pg q' fun a F1 H1 w1 x1 S1 q1 => ?_⟩
  cases a with
  | true => exact iteT ⟨F1, ρ, w1, S1, q1.2⟩
  | false => exact iteF ⟨F1, ρ, w1, S1, q1.2⟩
theorem par_imp {i j : Nat} {d1 d2 : Ev → MM D} (hi : m.Fr i) (hj : m.Fr j) : ∀ D' σ H, TSD c W m ((m.del i).del j) mb mc (sPar i j d1 d2) D' σ H → tPar i j (TDa c W m (aCons d1 (aCons d2 aNil))) D' σ H := fun D' σ H ⟨F, ρ, ω, S, q⟩ => by
  have q' : GS c W ((m.del i).del j) mb mc D' F H ((aCons d1 (aCons d2 aNil) ρ ω).bind fun r w => match r with
      | [a, b] => .ok (.next (put (put ρ i a) j b)) w
      | _ => .bad) := ⟨S.fr.xt, by
    unfold sPar at q
    unfold aCons aNil
    cases h : d1 ρ ω with
    | ok a w => rw [h] at q; cases h' : d2 ρ w <;> simpa [h'] using q
    | _ => rw [h] at q; exact q⟩
  refine ⟨F, ρ, ω, S, bindT S GS.pg q' fun r F1 H1 w1 x1 S1 q1 xs rx => ?_⟩
  match r, q1, rx with
  | [a, b], q1, rx =>
    obtain ⟨v, u, rfl, r1, r2⟩ := rx.two
    exact ⟨v, u, rfl, q1.2 F1 _ H1 (Same.refl _) ((S1.putD r1 hi).putD r2 hj)⟩
  | [], q1, rx => exact q1.2.elim
  | [_], q1, rx => exact q1.2.elim
  | _ :: _ :: _ :: _, q1, rx => exact q1.2.elim
theorem s_par {i j : Nat} {x y : Str} {a b : Expr} {px py pt : Pos} {kt k2 pt2} {d1 d2 : Ev → MM D} (ha : A c W m X [a, b] (aCons d1 (aCons d2 aNil))) (hc : X.calm = true) (hN : X.N.Nodup) (hi : X.N[i]? = some x) (hj : X.N[j]? = some y) (hij : i ≠ j)
    (hx : X.env.scope.names.lookup x = some .local) (hy : X.env.scope.names.lookup y = some .local)
    (hw : swappedStores [.Tuple [.Name x px, .Name y py] kt pt] (.Tuple [a, b] k2 pt2) X.env = pure (some [x, y]))
    (hs : swapsWithSole [.Tuple [.Name x px, .Name y py] kt pt] (.Tuple [a, b] k2 pt2) pos.line X.env = pure false := by rfl) (bi : m.Fr i := by decide) (bj : m.Fr j := by decide) :
    PS X (.Assign [.Tuple [.Name x px, .Name y py] kt pt] (.Tuple [a, b] k2 pt2) pos) (TSD c W m ((m.del i).del j) mb mc (sPar i j d1 d2)) := PSimp (ps_par hc hN hi hj hij hx hy ha.pa hw hs) (par_imp bi bj)
theorem par3_imp {i j k : Nat} {d1 d2 d3 : Ev → MM D} (hi : m.Fr i) (hj : m.Fr j) (hk : m.Fr k) : ∀ D' σ H, TSD c W m (((m.del i).del j).del k) mb mc (sPar3 i j k d1 d2 d3) D' σ H → tPar3 i j k (TDa c W m (aCons d1 (aCons d2 (aCons d3 aNil)))) D' σ H := fun D' σ H ⟨F, ρ, ω, S, q⟩ => by
  have q' : GS c W (((m.del i).del j).del k) mb mc D' F H ((aCons d1 (aCons d2 (aCons d3 aNil)) ρ ω).bind fun r w => match r with
      | [a, b, e] => .ok (.next (put (put (put ρ i a) j b) k e)) w
      | _ => .bad) := ⟨S.fr.xt, by
    unfold sPar3 at q
    unfold aCons aNil
    cases h : d1 ρ ω with
    | ok a w =>
      rw [h] at q
      cases h' : d2 ρ w with
      | ok b w' =>
        simp only [bind_ok] at q ⊢
        rw [h'] at q ⊢
        simp only [bind_ok] at q ⊢
        cases h'' : d3 ρ w' <;> simpa [h''] using q
      | _ => simpa [h'] using q
    | _ => rw [h] at q; exact q⟩
  refine ⟨F, ρ, ω, S, bindT S GS.pg q' fun r F1 H1 w1 x1 S1 q1 xs rx => ?_⟩
  match r, q1, rx with
  | [a, b, e], q1, rx =>
    obtain ⟨v, u, w, rfl, r1, r2, r3⟩ := rx.three
    exact ⟨v, u, w, rfl, q1.2 F1 _ H1 (Same.refl _) (((S1.putD r1 hi).putD r2 hj).putD r3 hk)⟩
  | [], q1, rx => exact q1.2.elim
  | [_], q1, rx => exact q1.2.elim
  | [_, _], q1, rx => exact q1.2.elim
  | _ :: _ :: _ :: _ :: _, q1, rx => exact q1.2.elim
theorem s_par3 {i j k : Nat} {x y z : Str} {a b e3 : Expr} {px py pz pt : Pos} {kt k2 pt2} {d1 d2 d3 : Ev → MM D} (ha : A c W m X [a, b, e3] (aCons d1 (aCons d2 (aCons d3 aNil)))) (hc : X.calm = true) (hN : X.N.Nodup) (hi : X.N[i]? = some x) (hj : X.N[j]? = some y) (hl : X.N[k]? = some z) (hij : i ≠ j) (hil : i ≠ k) (hjl : j ≠ k)
    (hx : X.env.scope.names.lookup x = some .local) (hy : X.env.scope.names.lookup y = some .local) (hz : X.env.scope.names.lookup z = some .local)
    (hw : swappedStores [.Tuple [.Name x px, .Name y py, .Name z pz] kt pt] (.Tuple [a, b, e3] k2 pt2) X.env = pure (some [x, y, z]))
    (hs : swapsWithSole [.Tuple [.Name x px, .Name y py, .Name z pz] kt pt] (.Tuple [a, b, e3] k2 pt2) pos.line X.env = pure false := by rfl) (bi : m.Fr i := by decide) (bj : m.Fr j := by decide) (bk : m.Fr k := by decide) :
    PS X (.Assign [.Tuple [.Name x px, .Name y py, .Name z pz] kt pt] (.Tuple [a, b, e3] k2 pt2) pos) (TSD c W m (((m.del i).del j).del k) mb mc (sPar3 i j k d1 d2 d3)) := PSimp (ps_par3 hc hN hi hj hl hij hil hjl hx hy hz ha.pa hw hs) (par3_imp bi bj bk)
theorem s_aug {i : Nat} {r : R2} {f : D → D → Option D} {d : Ev → MM D} {x1 v1 : Expr} {op1 : Operator} (v : VOp c.K r f) (hO : m.Rd i) (he : E c W m X v1 d) (h : PE X v1 (TD c W m d) → PS X (.AugAssign x1 op1 v1 pos) (tAug i (TD c W m d) r)) (hb : m.Fr i := by decide) : PS X (.AugAssign x1 op1 v1 pos) (TSD c W m (m.del i) mb mc (sAug i f d)) := PSimp (h he) fun D' σ H ⟨F, ρ, ω, S, q⟩ => by
  unfold sAug at q
  cases hl : look ρ i with
  | none => rw [hl] at q; exact q.elim
  | some a =>
    rw [hl] at q
    obtain ⟨x, h1, h2⟩ := S.dat i a (look_iff hl) hO
    refine ⟨x, h1, F, ρ, ω, S, bindT S (GS.pg (D' := D')) (k := fun b w => (ofO (f a b) w).bind fun v w => .ok (.next (put ρ i v)) w) (⟨S.fr.xt, q⟩ : GS c W (m.del i) mb mc D' F H _) fun b F1 H1 w1 x1 S1 q1 y r1 => ?_⟩
    cases ef : f a b with
    | none => rw [ef] at q1; exact q1.2.elim
    | some z =>
      rw [ef] at q1
      refine v F1 H1 x y a b z _ S1.fh (h2.mono x1.ff) r1 ef fun F' H' zv xt rz => ?_
      exact q1.2 F' _ H' xt.ff ((S1.step xt.any (S1.bo.ext xt)).putD rz hb)
theorem s_raise {C : Addr} {x mm : Str} {j : Nat} {p p2 p3 : Pos} {Bs newId initId : String} {bmB : List Value} (hk : X.K = c.K) (hmg : X.mg = c.mg) (hc : X.calm = true) (tk : Takes X W) (Fx : ExcBaseFacts Bs newId initId bmB) (q : PySem.W.excIn X.K C bmB newId = true) (gC : X.mg x = some (.ref C)) (kC : PySem.W.keepIn X.K (.ref C) = true) (r : Raises X (.ref C)) (hg : Gl X x)
    (hdb : (x == ("__debug__" : Str)) = false := by decide) : PS X (.Raise (some (.Call (.Name x p) [.Constant (.str mm) j p2] [] p3)) none pos) (TSD c W m mn mb mc (sRaise ⟨x, none⟩)) :=
  PSimp (ps_raise hc tk (pmk_own Fx q gC kC r hg hdb)) fun D' σ H ⟨F, ρ, ω, S, q⟩ => q F σ H (.ref C) none (Same.refl _) S.fr ⟨C, by rw [← hmg]; exact gC, rfl, rfl⟩
/-- a list of one's own is frozen ahead of the statements -/
theorem ss_frz {d : Ev → MM Fl} (i : Nat) (h : PSs X sts (TSD c W (m.del i) mn mb mc d)) : PSs X sts (TSD c W m mn mb mc d) := PSsimp h fun D' σ H ⟨F, ρ, ω, S, q⟩ => by
  obtain ⟨F', s, S'⟩ := S.freeze i
  exact ⟨F', ρ, ω, S', q.mono s⟩
theorem frz_end {D' : Ends} {F : Hp} {i : Nat} : ∀ {r : Res Fl}, PostS c W (mn.del i) mb mc F D' r → PostS c W mn mb mc F D' r
  | .bad, h => h
  | .ok (.next _) _, h => fun F' σ' H' s S => by
    obtain ⟨F2, s2, S2⟩ := S.freeze i
    exact h F2 σ' H' (s.trans s2) S2
  | .ok (.brk _) _, h => h
  | .ok (.cont _) _, h => h
  | .ok (.ret _) _, h => h
  | .exc _ _, h => h
/-- .. behind them -/
theorem ss_frzE {d : Ev → MM Fl} (i : Nat) (h : PSs X sts (TSD c W m mn mb mc d)) : PSs X sts (TSD c W m (mn.del i) mb mc d) := PSsimp h fun D' σ H ⟨F, ρ, ω, S, q⟩ => ⟨F, ρ, ω, S, frz_end q⟩
theorem s_frzE {d : Ev → MM Fl} (i : Nat) (h : PS X st (TSD c W m mn mb mc d)) : PS X st (TSD c W m (mn.del i) mb mc d) := PSimp h fun D' σ H ⟨F, ρ, ω, S, q⟩ => ⟨F, ρ, ω, S, frz_end q⟩
end
end M

set_option Elab.async false
set_option linter.all false
set_option maxRecDepth 100000
set_option maxHeartbeats 4000000
namespace M
open PySem PySem.Spec PyProof.Rows L2

/-! ### what is walked -/
structure Wk (K : PySem.W.Frag) (F : Hp) (J : It) (ds : List D) : Prop where
  go : ∀ i F1 H1, i < ds.length → Same F F1 → Same F1 H1 → J.go i H1
  stop : ∀ F1 H1, Same F F1 → Same F1 H1 → J.stop ds.length H1
  yld : ∀ i d F1 H1 x H2, ds[i]? = some d → Same F F1 → Same F1 H1 → J.yld i H1 x H2 → ∃ F2, Xt none F1 H1 F2 H2 ∧ Rp K F2 x d
def TID (c : CM) (W : WX) (m : Md) (d : Ev → MM (List D)) : TI := fun σ H R => ∃ F ρ ω, SR c m F ρ ω σ H ∧ Post c W F H σ (fun ds F' H' _ => ∀ J, Wk c.K F' J ds → R J H') (d ρ ω)
theorem PIimp {X : Cx} {tg it : Expr} {t t' : TI} (h : PI X tg it t) (i : ∀ σ H R, t' σ H R → t σ H R) : PI X tg it t' := ⟨fun p s σ H R I q => h.run p s σ H R I (i _ _ _ q)⟩
theorem PIor {X : Cx} {tg it : Expr} {t t' u : TI} (h : PI X tg it t) (h' : PI X tg it t') (i : ∀ σ H R, u σ H R → t σ H R ∨ t' σ H R) : PI X tg it u := ⟨fun p s σ H R I q => by
  rcases i _ _ _ q with q | q
  · exact h.run p s σ H R I q
  · exact h'.run p s σ H R I q⟩
def iSeq (d : Ev → MM D) : Ev → MM (List D) := fun ρ ω => (d ρ ω).bind fun v w => match v with
  | .list ds => .ok ds w
  | .tuple ds => .ok ds w
  | _ => .bad
def rangeL (lo c : Int) : Nat → List D
  | 0 => []
  | n + 1 => .int lo :: rangeL (lo + c) c n
theorem rangeL_len (c : Int) : ∀ (n : Nat) (lo : Int), (rangeL lo c n).length = n
  | 0, _ => rfl
  | n + 1, lo => by simp [rangeL, rangeL_len c n]
theorem rangeL_get (c : Int) : ∀ (n : Nat) (lo : Int) (i : Nat) (d : D), (rangeL lo c n)[i]? = some d → d = .int (lo + i * c) ∧ i < n
  | 0, _, _, _, h => by simp [rangeL] at h
  | n + 1, lo, 0, d, h => by simp [rangeL] at h; simp [← h]
  | n + 1, lo, i + 1, d, h => by
    obtain ⟨h1, h2⟩ := rangeL_get c n (lo + c) i d (by simpa [rangeL] using h)
    refine ⟨?_, by omega⟩
    rw [h1]
    congr 1
    rw [Int.natCast_add, Int.add_mul]
    omega
def okR (i : Int) : Prop := -(2 ^ 62) ≤ i ∧ i < 2 ^ 62
instance (i : Int) : Decidable (okR i) := by unfold okR; infer_instance
def iRange : List D → Option (List D)
  | [.int j] => if okR j then some (rangeL 0 1 j.toNat) else none
  | [.int i, .int j] => if okR i ∧ okR j then some (rangeL i 1 (j - i).toNat) else none
  | [.int i, .int j, .int k] => if k ≠ 0 ∧ k.natAbs < 1073741824 ∧ Builtin.Range.small i j k = true ∧ 0 ≤ Builtin.Range.rangeSize i j k then some (rangeL i k (Builtin.Range.rangeSize i j k).toNat) else none
  | _ => none
def iArgs (f : List D → Option (List D)) (ds : Ev → MM (List D)) : Ev → MM (List D) := fun ρ ω => (ds ρ ω).bind fun r w => ofO (f r) w
def enumL : Nat → List D → List D
  | _, [] => []
  | n, d :: ds => .tuple [.int n, d] :: enumL (n + 1) ds
def iEnumF : List D → Option (List D)
  | [.list ds] => some (enumL 0 ds)
  | _ => none
def zipL : List D → List D → List D
  | a :: as, b :: bs => .tuple [a, b] :: zipL as bs
  | _, _ => []
def iZipF : List D → Option (List D)
  | [.list as, .list bs] => some (zipL as bs)
  | _ => none
def iRevF : List D → Option (List D)
  | [.list ds] => some ds.reverse
  | _ => none
theorem enumL_len : ∀ (n : Nat) (ds : List D), (enumL n ds).length = ds.length
  | _, [] => rfl
  | n, d :: ds => by simp [enumL, enumL_len (n + 1) ds]
theorem enumL_get : ∀ (n : Nat) (ds : List D) (i : Nat) (d : D), (enumL n ds)[i]? = some d → ∃ e, ds[i]? = some e ∧ d = .tuple [.int ((n + i : Nat) : Int), e]
  | _, [], _, _, h => by simp [enumL] at h
  | n, d :: ds, 0, e, h => by simp [enumL] at h; exact ⟨d, rfl, by simp [← h]⟩
  | n, d :: ds, i + 1, e, h => by
    obtain ⟨x, h1, h2⟩ := enumL_get (n + 1) ds i e (by simpa [enumL] using h)
    exact ⟨x, by simpa using h1, by rw [h2, show n + 1 + i = n + (i + 1) by omega]⟩
theorem zipL_len : ∀ (as bs : List D), (zipL as bs).length = min as.length bs.length
  | [], _ => by simp [zipL]
  | _ :: _, [] => by simp [zipL]
  | a :: as, b :: bs => by simp [zipL, zipL_len as bs]
theorem zipL_get : ∀ (as bs : List D) (i : Nat) (d : D), (zipL as bs)[i]? = some d → ∃ a b, as[i]? = some a ∧ bs[i]? = some b ∧ d = .tuple [a, b]
  | [], _, _, _, h => by simp [zipL] at h
  | _ :: _, [], _, _, h => by simp [zipL] at h
  | a :: as, b :: bs, 0, d, h => by simp [zipL] at h; exact ⟨a, b, rfl, rfl, h.symm⟩
  | a :: as, b :: bs, i + 1, d, h => by
    obtain ⟨x, y, h1, h2, h3⟩ := zipL_get as bs i d (by simpa [zipL] using h)
    exact ⟨x, y, by simpa using h1, by simpa using h2, h3⟩
section
variable {c : CM} {W : WX} {m m1 mn mb mc : Md} {X : Cx} {e tg iter : Expr} {es : List Expr} {st : Stmt} {sts : List Stmt} {pos p : Pos}
theorem wk_range {K : PySem.W.Frag} {F : Hp} (lo : Int) (n : Nat) : Wk K F (Itr lo n) (rangeL lo 1 n) where
  go := fun i F1 H1 h _ _ => by rw [rangeL_len] at h; exact h
  stop := fun F1 H1 _ _ => by rw [rangeL_len]; exact Nat.le_refl _
  yld := fun i d F1 H1 x H2 h s1 s2 y => by
    obtain ⟨e1, e2⟩ := rangeL_get 1 n lo i d h
    obtain ⟨rfl, rfl⟩ := y
    subst e1
    exact ⟨F1, Xt.refl s2, by simpa using Rp.int (K := K) (H := F1) (lo + i)⟩
theorem wk_rangeC {K : PySem.W.Frag} {F : Hp} (lo k : Int) (n : Nat) : Wk K F (Itc lo k n) (rangeL lo k n) where
  go := fun i F1 H1 h _ _ => by rw [rangeL_len] at h; exact h
  stop := fun F1 H1 _ _ => by rw [rangeL_len]; exact Nat.le_refl _
  yld := fun i d F1 H1 x H2 h s1 s2 y => by
    obtain ⟨e1, e2⟩ := rangeL_get k n lo i d h
    obtain ⟨rfl, rfl⟩ := y
    subst e1
    exact ⟨F1, Xt.refl s2, .int _⟩
theorem wk_list {K : PySem.W.Frag} {F : Hp} {a : Addr} {xs : List V} {ds : List D} (h : F a = some (.lst xs)) (r : RpL K F xs ds) : Wk K F (Itl K a) ds where
  go := fun i F1 H1 hi s1 s2 => ⟨xs, xs[i]'(by rw [r.length]; exact hi), SqL.of (s2 _ _ (s1 _ _ h)), by simp [r.length, hi]⟩
  stop := fun F1 H1 s1 s2 => ⟨xs, SqL.of (s2 _ _ (s1 _ _ h)), by rw [r.length]; exact Nat.le_refl _⟩
  yld := fun i d F1 H1 x H2 hd s1 s2 y => by
    obtain ⟨rfl, y⟩ := y
    have q := y xs (SqL.of (s2 _ _ (s1 _ _ h)))
    obtain ⟨v, h1, h2⟩ := r.get hd
    rw [h1] at q
    cases q
    exact ⟨F1, Xt.refl s2, h2.mono s1⟩
theorem wk_tup {K : PySem.W.Frag} {F : Hp} {a : Addr} {xs : List V} {ds : List D} (h : SqT K F a xs) (r : RpL K F xs ds) : Wk K F (Itt K a) ds where
  go := fun i F1 H1 hi s1 s2 => ⟨xs, xs[i]'(by rw [r.length]; exact hi), sameT s2 (sameT s1 h), by simp [r.length, hi]⟩
  stop := fun F1 H1 s1 s2 => ⟨xs, sameT s2 (sameT s1 h), by rw [r.length]; exact Nat.le_refl _⟩
  yld := fun i d F1 H1 x H2 hd s1 s2 y => by
    obtain ⟨rfl, y⟩ := y
    have q := y xs (sameT s2 (sameT s1 h))
    obtain ⟨v, h1, h2⟩ := r.get hd
    rw [h1] at q
    cases q
    exact ⟨F1, Xt.refl s2, h2.mono s1⟩
theorem wk_enum {K : PySem.W.Frag} {F : Hp} {a : Addr} {xs : List V} {ds : List D} (h : F a = some (.lst xs)) (r : RpL K F xs ds) : Wk K F (Ite K a) (enumL 0 ds) where
  go := fun i F1 H1 hi s1 s2 => by
    rw [enumL_len] at hi
    exact ⟨xs, xs[i]'(by rw [r.length]; exact hi), SqL.of (s2 _ _ (s1 _ _ h)), by simp [r.length, hi]⟩
  stop := fun F1 H1 s1 s2 => ⟨xs, SqL.of (s2 _ _ (s1 _ _ h)), by rw [enumL_len, r.length]; exact Nat.le_refl _⟩
  yld := fun i d F1 H1 x H2 hd s1 s2 y => by
    obtain ⟨T, z, rfl, nT, rfl, y⟩ := y
    have q := y xs (SqL.of (s2 _ _ (s1 _ _ h)))
    obtain ⟨dd, h0, rfl⟩ := enumL_get 0 ds i d hd
    obtain ⟨v, h1, h2⟩ := r.get h0
    rw [h1] at q
    cases q
    have xt : Xt none F1 H1 (upd F1 T (.tup [.int (i : Nat), z])) (upd H1 T (.tup [.int (i : Nat), z])) := Xt.alloc s2 nT
    exact ⟨_, xt, .tup (SqT.of upd_same) (.cons (by rw [Nat.zero_add]; exact .int _) (.cons ((h2.mono s1).mono xt.ff) .nil))⟩
theorem wk_zip {K : PySem.W.Frag} {F : Hp} {a b : Addr} {xs ys : List V} {ds es : List D} (h : F a = some (.lst xs)) (r : RpL K F xs ds) (h' : F b = some (.lst ys)) (r' : RpL K F ys es) : Wk K F (Itz K a b) (zipL ds es) where
  go := fun i F1 H1 hi s1 s2 => by
    rw [zipL_len] at hi
    exact ⟨xs, ys, xs[i]'(by rw [r.length]; omega), ys[i]'(by rw [r'.length]; omega), SqL.of (s2 _ _ (s1 _ _ h)), SqL.of (s2 _ _ (s1 _ _ h')), by simp, by simp⟩
  stop := fun F1 H1 s1 s2 => ⟨xs, ys, SqL.of (s2 _ _ (s1 _ _ h)), SqL.of (s2 _ _ (s1 _ _ h')), by rw [zipL_len, r.length, r'.length]; omega⟩
  yld := fun i d F1 H1 x H2 hd s1 s2 y => by
    obtain ⟨T, z, z', rfl, nT, rfl, y, y'⟩ := y
    have q := y xs (SqL.of (s2 _ _ (s1 _ _ h)))
    have q' := y' ys (SqL.of (s2 _ _ (s1 _ _ h')))
    obtain ⟨d1, d2, h0, h0', rfl⟩ := zipL_get ds es i d hd
    obtain ⟨v, h1, h2⟩ := r.get h0
    obtain ⟨v', h1', h2'⟩ := r'.get h0'
    rw [h1] at q
    cases q
    rw [h1'] at q'
    cases q'
    have xt : Xt none F1 H1 (upd F1 T (.tup [z, z'])) (upd H1 T (.tup [z, z'])) := Xt.alloc s2 nT
    exact ⟨_, xt, .tup (SqT.of upd_same) (.cons ((h2.mono s1).mono xt.ff) (.cons ((h2'.mono s1).mono xt.ff) .nil))⟩
theorem wk_rev {K : PySem.W.Frag} {F : Hp} {a : Addr} {xs : List V} {ds : List D} (h : F a = some (.lst xs)) (r : RpL K F xs ds) : Wk K F (Itv K a xs.length) ds.reverse where
  go := fun i F1 H1 hi s1 s2 => by
    rw [List.length_reverse] at hi
    have hl := r.length
    exact ⟨by omega, xs, xs[xs.length - 1 - i]'(by omega), SqL.of (s2 _ _ (s1 _ _ h)), by simp⟩
  stop := fun F1 H1 s1 s2 => by rw [List.length_reverse, ← r.length]; exact Nat.le_refl _
  yld := fun i d F1 H1 x H2 hd s1 s2 y => by
    obtain ⟨rfl, y⟩ := y
    have q := y xs (SqL.of (s2 _ _ (s1 _ _ h)))
    have hi : i < ds.reverse.length := (List.getElem?_eq_some_iff.mp hd).1
    rw [List.length_reverse] at hi
    rw [List.getElem?_reverse hi] at hd
    obtain ⟨v, h1, h2⟩ := r.get hd
    rw [r.length, h1] at q
    cases q
    exact ⟨F1, Xt.refl s2, h2.mono s1⟩
theorem i_seqL {F H F' H' : Hp} {σ : L2.St} {R : It → Hp → Prop} {w : Wd} {ds : List D} {x : V} (hk : X.K = c.K) (q : Post c W F H σ (fun ds F' H' _ => ∀ J, Wk c.K F' J ds → R J H') (.ok ds w)) (xt : Xt c.b F H F' H') (bo : BorOk c F' w H') (r : Rp c.K F' x (.list ds)) :
    ∃ a, x = V.ref a ∧ (∃ xs, SqL X.K H' a xs) ∧ R (Itl X.K a) H' := by
  obtain ⟨a, xs, rfl, h1, h2⟩ := r.vlst
  refine ⟨a, rfl, ⟨xs, SqL.of (xt.fh _ _ h1)⟩, q F' H' xt bo _ ?_⟩
  rw [hk]
  exact wk_list h1 h2
theorem i_seqT {F H F' H' : Hp} {σ : L2.St} {R : It → Hp → Prop} {w : Wd} {ds : List D} {x : V} (hk : X.K = c.K) (q : Post c W F H σ (fun ds F' H' _ => ∀ J, Wk c.K F' J ds → R J H') (.ok ds w)) (xt : Xt c.b F H F' H') (bo : BorOk c F' w H') (r : Rp c.K F' x (.tuple ds)) :
    ∃ a, x = V.ref a ∧ (∃ xs, SqT X.K H' a xs) ∧ R (Itt X.K a) H' := by
  obtain ⟨a, xs, rfl, h1, h2⟩ := r.vtup
  refine ⟨a, rfl, ⟨xs, by rw [hk]; exact sameT xt.fh h1⟩, q F' H' xt bo _ ?_⟩
  rw [hk]
  exact wk_tup h1 h2
theorem i_seq {d : Ev → MM D} (hk : X.K = c.K) (h : E c W m X iter d) : PI X tg iter (TID c W m (iSeq d)) :=
  PIor (pi_list h) (pi_tup h) fun σ H R ⟨F, ρ, ω, S, q⟩ => by
    cases hd : d ρ ω with
    | bad => simp [iSeq, hd, Post] at q
    | exc x y =>
      simp only [iSeq, hd, bind_exc] at q
      exact .inl ⟨F, ρ, ω, S, by rw [hd]; exact q⟩
    | ok v w =>
      simp only [iSeq, hd, bind_ok] at q
      cases v with
      | list ds =>
        refine .inl ⟨F, ρ, ω, S, by rw [hd]; refine fun F' H' xt bo x r => ?_; exact i_seqL hk q xt bo r⟩
      | tuple ds =>
        refine .inr ⟨F, ρ, ω, S, by rw [hd]; refine fun F' H' xt bo x r => ?_; exact i_seqT hk q xt bo r⟩
      | _ => exact q.elim
theorem iargs_step {f : List D → Option (List D)} {ds : Ev → MM (List D)} {σ : L2.St} {H : Hp} {R : It → Hp → Prop} {r : List V → Hp → Prop} {F : Hp} {ρ : Ev} {ω : Wd} (S : SR c m F ρ ω σ H) (q : Post c W F H σ (fun ds F' H' _ => ∀ J, Wk c.K F' J ds → R J H') (iArgs f ds ρ ω))
    (cont : ∀ F1 H1 xs as l, Same F1 H1 → RpL c.K F1 xs as → f as = some l → (∀ J, Wk c.K F1 J l → R J H1) → r xs H1) : TDa c W m ds σ H r := ⟨F, ρ, ω, S, bindT S Post.pg q fun as F1 H1 w1 x1 S1 q1 xs r1 => by
    obtain ⟨l, e1, q3⟩ := post_ofO S1.fh S1.bo q1
    exact cont F1 H1 xs as l S1.fh r1 e1 fun J hJ => q3 F1 H1 (Xt.refl S1.fh) J hJ⟩
theorem i_range1 {a : Expr} {ds : Ev → MM (List D)} (hg : Gl X "range") (hm : X.mg "range" = none) (ha : A c W m X [a] ds) (hs : starEach [a] X.env = [(false, eval a X.env)] := by rfl) : PI X tg (.Call (.Name "range" p) [a] [] pos) (TID c W m (iArgs iRange ds)) :=
  PIimp (pi_range1 hg hm ha.pa hs) fun σ H R ⟨F, ρ, ω, S, q⟩ => by
    have al := ha.len ρ ω
    refine ⟨F, ρ, ω, S, ?_⟩
    unfold iArgs at q
    cases hd : ds ρ ω with
    | bad => rw [hd] at q; exact q.elim
    | exc x y => rw [hd] at q; exact q
    | ok as w =>
      rw [hd] at q
      have hl := al as w hd
      match as, hl, q with
      | [.int j], _, q =>
        intro F' H' xt bo xs r
        obtain ⟨v, rfl, r1⟩ := r.one
        cases r1
        simp only [bind_ok, iRange] at q
        split at q
        · rename_i ok
          exact ⟨j, rfl, ok.1, ok.2, q F' H' xt bo _ (wk_range 0 _)⟩
        · exact q.elim
      | [.none], _, q => exact q.elim
      | [.bool _], _, q => exact q.elim
      | [.str _], _, q => exact q.elim
      | [.list _], _, q => exact q.elim
      | [.tuple _], _, q => exact q.elim
      | [.dict _], _, q => exact q.elim
theorem i_range2 {a b : Expr} {ds : Ev → MM (List D)} (hg : Gl X "range") (hm : X.mg "range" = none) (ha : A c W m X [a, b] ds) (hs : starEach [a, b] X.env = [(false, eval a X.env), (false, eval b X.env)] := by rfl) (hs2 : starEach [b] X.env = [(false, eval b X.env)] := by rfl) : PI X tg (.Call (.Name "range" p) [a, b] [] pos) (TID c W m (iArgs iRange ds)) :=
  PIimp (pi_range2 hg hm ha.pa hs hs2) fun σ H R ⟨F, ρ, ω, S, q⟩ => by
    have al := ha.len ρ ω
    refine ⟨F, ρ, ω, S, ?_⟩
    unfold iArgs at q
    cases hd : ds ρ ω with
    | bad => rw [hd] at q; exact q.elim
    | exc x y => rw [hd] at q; exact q
    | ok as w =>
      rw [hd, bind_ok] at q
      have hl := al as w hd
      intro F' H' xt bo xs r
      match as, hl with
      | [d1, d2], _ =>
        obtain ⟨v, u, rfl, r1, r2⟩ := r.two
        cases r1 with
        | int i =>
          cases r2 with
          | int j =>
            simp only [iRange] at q
            split at q
            · rename_i ok
              exact ⟨i, j, rfl, ⟨ok.1.1, ok.1.2, ok.2.1, ok.2.2⟩, q F' H' xt bo _ (wk_range i _)⟩
            · exact q.elim
          | _ => exact q.elim
        | _ => exact q.elim
theorem i_range3 {a b cc : Expr} {ds : Ev → MM (List D)} (hg : Gl X "range") (hm : X.mg "range" = none) (ha : A c W m X [a, b, cc] ds) (hs : starEach [a, b, cc] X.env = (false, eval a X.env) :: starEach [b, cc] X.env := by rfl) (hpl : (backTo pos (starEach [b, cc] X.env)).any (·.1) = false := by rfl) : PI X tg (.Call (.Name "range" p) [a, b, cc] [] pos) (TID c W m (iArgs iRange ds)) :=
  PIimp (pi_range3 hg hm ha.pa hs hpl) fun σ H R ⟨F, ρ, ω, S, q⟩ => by
    have al := ha.len ρ ω
    refine ⟨F, ρ, ω, S, ?_⟩
    unfold iArgs at q
    cases hd : ds ρ ω with
    | bad => rw [hd] at q; exact q.elim
    | exc x y => rw [hd] at q; exact q
    | ok as w =>
      rw [hd, bind_ok] at q
      have hl := al as w hd
      intro F' H' xt bo xs r
      match as, hl with
      | [d1, d2, d3], _ =>
        obtain ⟨v, u, t, rfl, r1, r2, r3⟩ := r.three
        cases r1 with
        | int i =>
          cases r2 with
          | int j =>
            cases r3 with
            | int k =>
              simp only [iRange] at q
              split at q
              · rename_i ok
                exact ⟨i, j, k, _, rfl, ⟨ok.1, ok.2.1, ok.2.2.1, by omega⟩, q F' H' xt bo _ (wk_rangeC i k _)⟩
              · exact q.elim
            | _ => exact q.elim
          | _ => exact q.elim
        | _ => exact q.elim
theorem i_enum {elts : List Expr} {kk : Nat} {tpos : Pos} {ds : Ev → MM (List D)} (hk : X.K = c.K) (hg : Gl X "enumerate") (hm : X.mg "enumerate" = none) (ha : A c W m X [e] ds) (hs : starEach [e] X.env = [(false, eval e X.env)] := by rfl) : PI X (.Tuple elts kk tpos) (.Call (.Name "enumerate" p) [e] [] pos) (TID c W m (iArgs iEnumF ds)) :=
  PIimp (pi_enum hg hm ha.pa hs) fun σ H R ⟨F, ρ, ω, S, q⟩ => iargs_step S q fun F1 H1 xs as l s r e1 q1 => by
    match as, e1, r with
    | [.list ds], e1, r =>
      obtain ⟨v, rfl, r1⟩ := r.one
      obtain ⟨a, ys, rfl, h1, h2⟩ := r1.vlst
      simp only [iEnumF, Option.some.injEq] at e1
      subst e1
      refine ⟨a, ys, rfl, SqL.of (s _ _ h1), q1 _ ?_⟩
      rw [hk]
      exact wk_enum h1 h2
theorem i_zip {e2 : Expr} {elts : List Expr} {kk : Nat} {tpos : Pos} {ds : Ev → MM (List D)} (hk : X.K = c.K) (hg : Gl X "zip") (hm : X.mg "zip" = none) (ha : A c W m X [e, e2] ds) (hs : starEach [e, e2] X.env = (false, eval e X.env) :: starEach [e2] X.env := by rfl) (hpl : (backTo pos (starEach [e2] X.env)).any (·.1) = false := by rfl) :
    PI X (.Tuple elts kk tpos) (.Call (.Name "zip" p) [e, e2] [] pos) (TID c W m (iArgs iZipF ds)) :=
  PIimp (pi_zip hg hm ha.pa hs hpl) fun σ H R ⟨F, ρ, ω, S, q⟩ => iargs_step S q fun F1 H1 xs as l s r e1 q1 => by
    match as, e1, r with
    | [.list ds, .list es], e1, r =>
      obtain ⟨v, u, rfl, r1, r2⟩ := r.two
      obtain ⟨a, ys, rfl, h1, h2⟩ := r1.vlst
      obtain ⟨b, zs, rfl, h3, h4⟩ := r2.vlst
      simp only [iZipF, Option.some.injEq] at e1
      subst e1
      refine ⟨a, b, ys, zs, rfl, SqL.of (s _ _ h1), SqL.of (s _ _ h3), q1 _ ?_⟩
      rw [hk]
      exact wk_zip h1 h2 h3 h4
theorem i_rev {ds : Ev → MM (List D)} (hk : X.K = c.K) (hg : Gl X "reversed") (hm : X.mg "reversed" = none) (ha : A c W m X [e] ds) (hs : starEach [e] X.env = [(false, eval e X.env)] := by rfl) : PI X tg (.Call (.Name "reversed" p) [e] [] pos) (TID c W m (iArgs iRevF ds)) :=
  PIimp (pi_reversed hg hm ha.pa hs) fun σ H R ⟨F, ρ, ω, S, q⟩ => iargs_step S q fun F1 H1 xs as l s r e1 q1 => by
    match as, e1, r with
    | [.list ds], e1, r =>
      obtain ⟨v, rfl, r1⟩ := r.one
      obtain ⟨a, ys, rfl, h1, h2⟩ := r1.vlst
      simp only [iRevF, Option.some.injEq] at e1
      subst e1
      refine ⟨a, ys, rfl, SqL.of (s _ _ h1), q1 _ ?_⟩
      rw [hk]
      exact wk_rev h1 h2

/-! ### for, while -/
theorem s_for {is : List Nat} {di : Ev → MM (List D)} {g : D → Ev → Option Ev} {db : Ev → MM Fl} {body : List Stmt} (hp : PassesOwn (model X.prog X.w) X.A X.env X.xe) (hc : X.calm = true) (hi : PI X tg iter (TID c W m di)) (hg : PG X tg (TGD c m m1 is g)) (hb : PSs X body (TSD c W m1 m m m db))
    (hs : ∀ x, foldedSetIterable iter X.env x = pure x := by intro _; rfl) : PS X (.For tg iter body [] pos) (TSD c W m m mb mc (sFor di g db)) := PSimp (ps_for hp hc hi hg hb hs) fun D' σ H ⟨F, ρ, ω, S, q⟩ => by
  have q' : GS c W m mb mc D' F H (sFor di g db ρ ω) := ⟨S.fr.xt, q⟩
  unfold sFor at q'
  refine ⟨F, ρ, ω, S, bindT S GS.pg q' fun ds F1 H1 w1 x1 S1 q1 J hJ => ?_⟩
  refine ⟨fun i n σ' H' => n = ds.length - i ∧ i ≤ ds.length ∧ ∃ F' ρ' ω', Same F1 F' ∧ SR c m F' ρ' ω' σ' H' ∧ PostS c W m mb mc F' D' (sFor.go g db (ds.drop i) ρ' ω'), ⟨_, rfl, Nat.zero_le _, F1, ρ, w1, Same.refl _, S1, q1.2⟩, ?_⟩
  rintro i n σ' H' ⟨rfl, hi, F', ρ', ω', s', S', q2⟩
  by_cases hlt : i < ds.length
  · refine .inr ⟨hJ.go i F' H' hlt s' S'.fh, fun σ2 H2 => ∃ F2 ρ2 ω2, Same F1 F2 ∧ SR c m F2 ρ2 ω2 σ2 H2 ∧ PostS c W m mb mc F2 D' (sFor.go g db (ds.drop (i + 1)) ρ2 ω2), fun σ2 H2 hN => ⟨ds.length - (i + 1), by omega, rfl, hlt, hN⟩, fun x H2 y => ?_⟩
    obtain ⟨F2, x2, r2⟩ := hJ.yld i ds[i] F' H' x H2 (by simp [hlt]) s' S'.fh y
    have S2 := S'.step x2.any (S'.bo.ext x2)
    have q3 := q2.mono x2.ff
    rw [List.drop_eq_getElem_cons hlt, sFor.go] at q3
    cases eg : g ds[i] ρ' with
    | none => rw [eg] at q3; exact q3.elim
    | some ρ1 =>
      rw [eg, ofO_some, bind_ok] at q3
      refine ⟨F2, ρ', ω', ds[i], ρ1, S2, r2, eg, fun σ3 S3 _ => ⟨F2, ρ1, ω', S3, ?_⟩⟩
      cases eb : db ρ1 ω' with
      | bad => rw [eb] at q3; exact q3.elim
      | exc ex y => rw [eb] at q3; exact q3
      | ok f w =>
        rw [eb, bind_ok] at q3
        cases f with
        | next ρ4 => exact fun F4 σ4 H4 s4 S4 => ⟨F4, ρ4, w, (s'.trans x2.ff).trans s4, S4, q3.mono s4⟩
        | cont ρ4 => exact fun F4 σ4 H4 s4 S4 => ⟨F4, ρ4, w, (s'.trans x2.ff).trans s4, S4, q3.mono s4⟩
        | brk ρ4 => exact q3
        | ret v => exact q3
  · have e : i = ds.length := by omega
    subst e
    rw [List.drop_length, sFor.go] at q2
    exact .inl ⟨hJ.stop F' H' s' S'.fh, q2 F' σ' H' (Same.refl _) S'⟩
theorem s_while {t : Expr} {dt : Ev → MM Bool} {db : Ev → MM Fl} {body : List Stmt} (hp : PassesOwn (model X.prog X.w) X.A X.env X.xe) (ht : B c W m X t dt) (hb : PSs X body (TSD c W m m m m db)) : PS X (.While t body [] pos) (TSD c W m m mb mc (sWhile dt db)) := PSimp (ps_while hp ht hb) fun D' σ H ⟨F, ρ, ω, S, q⟩ => by
  have hne : sWhile dt db ρ ω ≠ .bad := fun z => by rw [z] at q; exact q
  obtain ⟨n, hn⟩ := sWhile_some hne
  rw [← hn] at q
  refine ⟨fun n σ' H' => ∃ F' ρ' ω', SR c m F' ρ' ω' σ' H' ∧ PostS c W m mb mc F' D' (whileN dt db n ρ' ω'), ⟨n, F, ρ, ω, S, q⟩, ?_⟩
  rintro n σ' H' ⟨F', ρ', ω', S', q2⟩
  cases n with
  | zero => exact q2.elim
  | succ n =>
    have q' : GS c W m mb mc D' F' H' (whileN dt db (n + 1) ρ' ω') := ⟨S'.fr.xt, q2⟩
    unfold whileN at q'
    refine ⟨F', ρ', ω', S', bindT S' GS.pg q' fun b F1 H1 w1 x1 S1 q1 => ?_⟩
    cases b with
    | false => exact iteF (q1.2 F1 σ' H1 (Same.refl _) S1)
    | true =>
      refine iteT ⟨fun σ2 H2 => ∃ F2 ρ2 ω2, SR c m F2 ρ2 ω2 σ2 H2 ∧ PostS c W m mb mc F2 D' (whileN dt db n ρ2 ω2), fun σ2 H2 hN => ⟨n, by omega, hN⟩, F1, ρ', w1, S1, ?_⟩
      have q3 := q1.2
      cases eb : db ρ' w1 with
      | bad => simp only [eb, bind_bad] at q3; exact q3.elim
      | exc ex y => simp only [eb, bind_exc] at q3; exact q3
      | ok f w =>
        simp only [eb, bind_ok] at q3
        cases f with
        | next ρ4 => exact fun F4 σ4 H4 s4 S4 => ⟨F4, ρ4, w, S4, q3.mono s4⟩
        | cont ρ4 => exact fun F4 σ4 H4 s4 S4 => ⟨F4, ρ4, w, S4, q3.mono s4⟩
        | brk ρ4 => exact q3
        | ret v => exact q3

/-! ### lists that are one's own -/
def TDf (c : CM) (W : WX) (m : Md) (d : Ev → MM (List D)) : TE := fun σ H Q => ∃ F ρ ω, SR c m F ρ ω σ H ∧ Post c W F H σ (fun ds F' H' _ => ∀ l us, H l = none → F' l = none → H' l = some (.lst us) → RpL c.K F' us ds → Q (.ref l) H') (d ρ ω)
abbrev EF (c : CM) (W : WX) (m : Md) (X : Cx) (e : Expr) (d : Ev → MM (List D)) : Prop := PE X e (TDf c W m d)
def eOfF (d : Ev → MM (List D)) : Ev → MM D := fun ρ ω => (d ρ ω).bind fun ds w => .ok (.list ds) w
theorem freeze_new {F H F' H' : Hp} {l : Addr} {us : List V} (xt : Xt c.b F H F' H') (h0 : H l = none) (h1 : F' l = none) (h2 : H' l = some (.lst us)) : Xt c.b F H (upd F' l (.lst us)) H' := by
  refine ⟨xt.ff.trans (same_upd h1), fun a o e => ?_, xt.keep, xt.dom, fun a h => ?_⟩
  · by_cases ha : a = l
    · subst ha; rw [upd_same] at e; cases e; exact h2
    · rw [upd_ne ha] at e; exact xt.fh _ _ e
  · have ha : a ≠ l := fun z => h (z ▸ h0)
    rw [upd_ne ha]; exact xt.new a h
theorem bo_freeze {F' H' : Hp} {ω : Wd} {l : Addr} {us : List V} (bo : BorOk c F' ω H') (h1 : F' l = none) (hb : c.b ≠ some l) : BorOk c (upd F' l (.lst us)) ω H' := fun b e => by
  obtain ⟨b0, b1, bu, b2, b3⟩ := bo b e
  have hbl : b ≠ l := fun z => hb (z ▸ e)
  exact ⟨b0, by rw [upd_ne hbl]; exact b1, bu, b2, b3.mono (same_upd h1)⟩
theorem new_ne_b {F : Hp} {ρ : Ev} {ω : Wd} {σ : L2.St} {H : Hp} {l : Addr} (S : SR c m F ρ ω σ H) (h : H l = none) : c.b ≠ some l := fun z => by
  obtain ⟨_, _, _, b2, _⟩ := S.bo l z
  rw [b2] at h
  cases h
theorem new_h0 {F : Hp} {ρ : Ev} {ω : Wd} {σ : L2.St} {H : Hp} {l : Addr} (S : SR c m F ρ ω σ H) (h : H l = none) : c.H0 l = none := by
  cases e : c.H0 l with
  | none => rfl
  | some o => exact absurd h (S.fr.xt.dom l (by rw [e]; simp))
theorem f_imp {d : Ev → MM (List D)} : ∀ σ H Q, TD c W m (eOfF d) σ H Q → TDf c W m d σ H Q := fun σ H Q ⟨F, ρ, ω, S, q⟩ => by
  refine ⟨F, ρ, ω, S, ?_⟩
  unfold eOfF at q
  cases hd : d ρ ω with
  | bad => rw [hd] at q; exact q
  | exc x y => rw [hd] at q; exact q
  | ok ds w =>
    rw [hd] at q
    exact fun F' H' xt bo l us h0 h1 h2 r => q _ H' (freeze_new xt h0 h1 h2) (bo_freeze bo h1 (new_ne_b S h0)) _ (.lst upd_same (r.mono (same_upd h1)))
theorem e_ofF {d : Ev → MM (List D)} (h : EF c W m X e d) : E c W m X e (eOfF d) := PEimp h f_imp
def sOwn (i : Nat) (d : Ev → MM (List D)) : Ev → MM Fl := fun ρ ω => (d ρ ω).bind fun ds w => .ok (.next (put ρ i (.list ds))) w
theorem own_imp {i : Nat} {d : Ev → MM (List D)} (hb : m.Fr i) : ∀ D' σ H, TSD c W m (m.add i) mb mc (sOwn i d) D' σ H → tAsg (TDf c W m d) (gName i) D' σ H := fun D' σ H ⟨F, ρ, ω, S, q⟩ => by
  refine ⟨F, ρ, ω, S, ?_⟩
  unfold sOwn at q
  cases hd : d ρ ω with
  | bad => rw [hd] at q; exact q
  | exc x y =>
    rw [hd] at q
    exact fun F' H' cls dd xt bo r => q F' σ H' cls dd xt.ff ⟨S.fr.xt.trans xt, bo⟩ r
  | ok ds w =>
    rw [hd] at q
    intro F' H' xt bo l us h0 h1 h2 r
    refine q F' _ H' xt.ff ((S.step xt bo).putOwn (new_h0 S h0) h1 h2 r hb fun j dj hj hO e z => ?_)
    obtain ⟨l', us', ds', k1, k2, k3, k4, k5, k6⟩ := S.own j dj e hO
    rw [z] at k1
    cases k1
    rw [h0] at k5
    cases k5
theorem s_own {i : Nat} {t1 v1 : Expr} {d : Ev → MM (List D)} (hv : EF c W m X v1 d) (h : PE X v1 (TDf c W m d) → PS X (.Assign [t1] v1 pos) (tAsg (TDf c W m d) (gName i))) (hb : m.Fr i := by decide) : PS X (.Assign [t1] v1 pos) (TSD c W m (m.add i) mb mc (sOwn i d)) := PSimp (h hv) (own_imp hb)
theorem s_ownLc {i : Nat} {te : TE} {d : Ev → MM (List D)} (h : PS X st (tAsg te (gName i))) (hi : ∀ σ H Q, TDf c W m d σ H Q → te σ H Q) (hb : m.Fr i := by decide) : PS X st (TSD c W m (m.add i) mb mc (sOwn i d)) := PSimp h fun D' σ H q => hi _ _ _ (own_imp hb D' σ H q)
theorem f_lst {ds : Ev → MM (List D)} (h : A c W m X es ds) (hl : es.length ≤ 1000 := by decide) : EF c W m X (.List es pos) ds :=
  PEimp (pe_lst h.pa) fun σ H Q ⟨F, ρ, ω, S, q⟩ => by
    refine ⟨F, ρ, ω, S, ?_⟩
    have al := h.len ρ ω
    cases e : ds ρ ω with
    | bad => rw [e] at q; exact q
    | exc x y => rw [e] at q; exact q
    | ok r w =>
      rw [e] at q
      intro F' H' xt bo xs rp
      refine ⟨by rw [rp.length, al r w e]; exact Nat.le_of_lt (small1000 hl), fun p np => ?_⟩
      have x2 : Xt none F' H' F' (upd H' p (.lst xs)) := Xt.alloc0 xt.fh np
      have hp : H p = none := by
        cases z : H p with
        | none => rfl
        | some o => exact absurd np (xt.dom p (by rw [z]; simp))
      exact q _ _ (xt.trans x2.any) (bo.ext x2) p xs hp (Same.none xt.fh np) upd_same rp
theorem new_none {F H F' H' : Hp} {p : Addr} {b : Option Addr} (xt : Xt b F H F' H') (np : H' p = none) : H p = none := by
  cases z : H p with
  | none => rfl
  | some o => exact absurd np (xt.dom p (by rw [z]; simp))
/-- xs * k as a list of one's own -/
def fRep (d1 d2 : Ev → MM D) : Ev → MM (List D) := fun ρ ω => (d1 ρ ω).bind fun a w => (d2 ρ w).bind fun b w => match a, b with
  | .list xs, .int k => if -(2 ^ 63) ≤ k ∧ k < 2 ^ 63 ∧ xs.length * k.toNat ≤ sizeLine then .ok (List.replicate k.toNat xs).flatten w else .bad
  | _, _ => .bad
theorem f_rep {a b : Expr} {d1 d2 : Ev → MM D} (h1 : E c W m X a d1) (h2 : E c W m X b d2) : EF c W m X (.BinOp a .Mult b pos) (fRep d1 d2) :=
  PEimp (pe_op op_rep h1 h2) fun σ H Q ⟨F, ρ, ω, S, q⟩ => bin_step S Post.pg q fun F2 H2 x y a b w x2 S2 r1 r2 q2 => by
    cases r1 with
    | lst g1 g2 =>
      cases r2 with
      | int k =>
        by_cases hz : -(2 ^ 63) ≤ k ∧ k < 2 ^ 63 ∧ (List.length ‹List D›) * k.toNat ≤ sizeLine
        · simp only [if_pos hz] at q2
          refine ⟨_, k, _, rfl, rfl, S2.fh _ _ g1, hz.1, hz.2.1, by rw [g2.length]; exact hz.2.2, fun p np => ?_⟩
          exact q2 F2 _ (Xt.alloc0 S2.fh np) (S2.bo.ext (Xt.alloc0 S2.fh np)) p _ (new_none x2 np) (Same.none S2.fh np) upd_same (g2.rep _)
        · simp only [if_neg hz] at q2
          exact q2.elim
      | _ => exact q2.elim
    | _ => exact q2.elim
/-- list(xs) as a list of one's own -/
def fListF (d : Ev → MM (List D)) : Ev → MM (List D) := fun ρ ω => (d ρ ω).bind fun r w => match r with
  | [.list xs] => .ok xs w
  | [.tuple xs] => .ok xs w
  | _ => .bad
theorem f_list {x : PySem.Str} {p : Pos} {ds : Ev → MM (List D)} (hk : X.K = c.K) (hg : Gl X "list") (hm : X.mg "list" = none) (ha : A c W m X [e] ds)
    (he : starEach [e] X.env = (false, eval e X.env) :: starEach [] X.env := by rfl) (hpl : (backTo pos (starEach [] X.env)).any (·.1) = false := by rfl) : EF c W m X (.Call (.Name "list" p) [e] [] pos) (fListF ds) :=
  PEimp (pe_callTy call_list_of hg hm boot_list ha.pa (by decide) (by decide) he hpl) fun σ H Q ⟨F, ρ, ω, S, q⟩ => ⟨F, ρ, ω, S, bindT S Post.pg q fun as F1 H1 w1 x1 S1 q1 xs r => by
    match as, q1, r with
    | [.list ds], q1, r =>
      obtain ⟨v, rfl, r1⟩ := r.one
      obtain ⟨a, ys, rfl, h1, h2⟩ := r1.vlst
      exact ⟨a, ys, rfl, .inl (SqL.of (S1.fh _ _ h1)), fun p np => q1 F1 _ (Xt.alloc0 S1.fh np) (S1.bo.ext (Xt.alloc0 S1.fh np)) p _ (new_none x1 np) (Same.none S1.fh np) upd_same h2⟩
    | [.tuple ds], q1, r =>
      obtain ⟨v, rfl, r1⟩ := r.one
      obtain ⟨a, ys, rfl, h1, h2⟩ := r1.vtup
      exact ⟨a, ys, rfl, .inr (by rw [hk]; exact sameT S1.fh h1), fun p np => q1 F1 _ (Xt.alloc0 S1.fh np) (S1.bo.ext (Xt.alloc0 S1.fh np)) p _ (new_none x1 np) (Same.none S1.fh np) upd_same h2⟩
    | [], q1, r => exact q1.elim
    | [.none], q1, r => exact q1.elim
    | [.bool _], q1, r => exact q1.elim
    | [.int _], q1, r => exact q1.elim
    | [.str _], q1, r => exact q1.elim
    | [.dict _], q1, r => exact q1.elim
    | a :: _ :: _, q1, r => cases a <;> exact q1.elim⟩
def sApp (i : Nat) (d : Ev → MM D) : Ev → MM Fl := fun ρ ω => match look ρ i with
  | some (.list ds) => (d ρ ω).bind fun v w => if ds.length < sizeLine then .ok (.next (put ρ i (.list (ds ++ [v])))) w else .bad
  | _ => .bad
theorem s_app {i : Nat} {o a1 : Expr} {nm : Str} {p2 p3 p4 : Pos} {d : Ev → MM D} (hO : i ∈ m.O) (he : E c W m X a1 d) (h : PE X a1 (TD c W m d) → PS X (.Expr (.Call (.Attribute o nm p2) [a1] [] p3) p4) (tDrop (tBM X.K "list" rAppend (tVar i) (tCons (TD c W m d) tNil)))) : PS X (.Expr (.Call (.Attribute o nm p2) [a1] [] p3) p4) (TSD c W m m mb mc (sApp i d)) := PSimp (h he) fun D' σ H ⟨F, ρ, ω, S, q⟩ => by
  unfold sApp at q
  cases hl : look ρ i with
  | none => rw [hl] at q; exact q.elim
  | some a =>
    rw [hl] at q
    obtain ⟨l, us, ds, k1, k2, k3, k4, k5, k6⟩ := S.own i a (look_iff hl) hO
    subst k2
    refine ⟨_, k1, .inl ⟨rfl, _, SqL.of k5⟩, F, ρ, ω, S, bindT S (GS.pg (D' := D')) (k := fun v w => if ds.length < sizeLine then .ok (.next (put ρ i (.list (ds ++ [v])))) w else .bad) (⟨S.fr.xt, q⟩ : GS c W m mb mc D' F H _) fun v F1 H1 w1 x1 S1 q1 y r1 => ?_⟩
    have h5 : H1 l = some (.lst us) := x1.keep l _ k5 fun z => (S.bo l z).1 k3
    refine ⟨l, us, y, rfl, rfl, h5, ?_, ?_⟩
    · by_cases hz : ds.length < sizeLine
      · rw [k6.length]; exact hz
      · rw [if_neg hz] at q1; exact q1.2.elim
    · by_cases hz : ds.length < sizeLine
      · rw [if_pos hz] at q1
        exact q1.2 F1 σ _ (Same.refl _) (S1.write hO (look_iff hl) k1 h5 ((k6.mono x1.ff).append (.cons r1 .nil)))
      · rw [if_neg hz] at q1; exact q1.2.elim
def sExt (i : Nat) (d : Ev → MM D) : Ev → MM Fl := fun ρ ω => match look ρ i with
  | some (.list ds) => (d ρ ω).bind fun v w => match v with
    | .list es => if ds.length + es.length ≤ sizeLine then .ok (.next (put ρ i (.list (ds ++ es)))) w else .bad
    | _ => .bad
  | _ => .bad
theorem s_ext {i : Nat} {o a1 : Expr} {nm : Str} {p2 p3 p4 : Pos} {d : Ev → MM D} (hO : i ∈ m.O) (he : E c W m X a1 d) (h : PE X a1 (TD c W m d) → PS X (.Expr (.Call (.Attribute o nm p2) [a1] [] p3) p4) (tDrop (tBM X.K "list" rExtend (tVar i) (tCons (TD c W m d) tNil)))) : PS X (.Expr (.Call (.Attribute o nm p2) [a1] [] p3) p4) (TSD c W m m mb mc (sExt i d)) := PSimp (h he) fun D' σ H ⟨F, ρ, ω, S, q⟩ => by
  unfold sExt at q
  cases hl : look ρ i with
  | none => rw [hl] at q; exact q.elim
  | some a =>
    rw [hl] at q
    obtain ⟨l, us, ds, k1, k2, k3, k4, k5, k6⟩ := S.own i a (look_iff hl) hO
    subst k2
    have q' : GS c W m mb mc D' F H _ := ⟨S.fr.xt, q⟩
    refine ⟨_, k1, .inl ⟨rfl, _, SqL.of k5⟩, F, ρ, ω, S, bindT S GS.pg q' fun v F1 H1 w1 x1 S1 q1 y r1 => ?_⟩
    have h5 : H1 l = some (.lst us) := x1.keep l _ k5 fun z => (S.bo l z).1 k3
    cases r1 with
    | lst g1 g2 =>
      by_cases hz : ds.length + (List.length ‹List D›) ≤ sizeLine
      · simp only [if_pos hz] at q1
        exact ⟨l, _, us, _, rfl, rfl, h5, S1.fh _ _ g1, by rw [k6.length, g2.length]; exact hz, q1.2 F1 σ _ (Same.refl _) (S1.write hO (look_iff hl) k1 h5 ((k6.mono x1.ff).append g2))⟩
      · simp only [if_neg hz] at q1
        exact q1.2.elim
    | _ => exact q1.2.elim
/-- xs[i] = v of a list of one's own -/
def sSetIx (i : Nat) (dv dk : Ev → MM D) : Ev → MM Fl := fun ρ ω => (dv ρ ω).bind fun v w => match look ρ i with
  | some (.list ds) => (dk ρ w).bind fun k w => match k with
    | .int k => (ofO (ixN ds.length k) w).bind fun j w => .ok (.next (put ρ i (.list (ds.set j v)))) w
    | _ => .bad
  | _ => .bad
theorem s_setix {i : Nat} {o k1 v1 : Expr} {p2 p3 : Pos} {dv dk : Ev → MM D} (hO : i ∈ m.O) (hv : E c W m X v1 dv) (hk : E c W m X k1 dk) (h : PE X v1 (TD c W m dv) → PE X k1 (TD c W m dk) → PS X (.Assign [.Subscript o k1 p2] v1 p3) (tAsg (TD c W m dv) (gSub (tVar i) (TD c W m dk) rSetL))) : PS X (.Assign [.Subscript o k1 p2] v1 p3) (TSD c W m m mb mc (sSetIx i dv dk)) := PSimp (h hv hk) fun D' σ H ⟨F, ρ, ω, S, q⟩ => by
  have q' : GS c W m mb mc D' F H _ := ⟨S.fr.xt, q⟩
  refine ⟨F, ρ, ω, S, bindT S GS.pg q' fun v F1 H1 w1 x1 S1 q1 y r1 => ?_⟩
  cases hl : look ρ i with
  | none => simp only [hl] at q1; exact q1.2.elim
  | some a =>
    simp only [hl] at q1
    obtain ⟨l, us, ds, k1, k2, k3, k4, k5, k6⟩ := S1.own i a (look_iff hl) hO
    subst k2
    refine ⟨_, k1, F1, ρ, w1, S1, bindT S1 GS.pg q1 fun k F2 H2 w2 x2 S2 q2 z r2 => ?_⟩
    have h5 : H2 l = some (.lst us) := x2.keep l _ k5 fun z => (S1.bo l z).1 k3
    cases r2 with
    | int k =>
      cases hj : ixN ds.length k with
      | none => simp only [hj] at q2; exact q2.2.elim
      | some j =>
        simp only [hj, ofO_some, bind_ok] at q2
        exact ⟨l, us, k, j, rfl, rfl, h5, by rw [k6.length]; exact hj, q2.2 F2 σ _ (Same.refl _) (S2.write hO (look_iff hl) k1 h5 ((k6.mono x2.ff).set (r1.mono x2.ff) j))⟩
    | _ => exact q2.2.elim
/-- xs[i] of a list of one's own -/
def eIxO (i : Nat) (dk : Ev → MM D) : Ev → MM D := fun ρ ω => match look ρ i with
  | some (.list ds) => (dk ρ ω).bind fun k w => match k with
    | .int k => ofO (atI ds k) w
    | _ => .bad
  | _ => .bad
theorem e_ixO {i : Nat} {o k1 : Expr} {dk : Ev → MM D} (hO : i ∈ m.O) (hk : E c W m X k1 dk) (h : PE X k1 (TD c W m dk) → PE X (.Subscript o k1 pos) (tOp (rIxL X.K) (tVar i) (TD c W m dk))) : E c W m X (.Subscript o k1 pos) (eIxO i dk) := PEimp (h hk) fun σ H Q ⟨F, ρ, ω, S, q⟩ => by
  unfold eIxO at q
  cases hl : look ρ i with
  | none => rw [hl] at q; exact q.elim
  | some a =>
    rw [hl] at q
    obtain ⟨l, us, ds, k1, k2, k3, k4, k5, k6⟩ := S.own i a (look_iff hl) hO
    subst k2
    refine ⟨_, k1, F, ρ, ω, S, bindT S Post.pg q fun k F1 H1 w1 x1 S1 q1 z r1 => ?_⟩
    have h5 : H1 l = some (.lst us) := x1.keep l _ k5 fun z => (S.bo l z).1 k3
    cases r1 with
    | int k =>
      obtain ⟨v, e1, q3⟩ := post_ofO S1.fh S1.bo q1
      have e1' := e1
      unfold atI at e1'
      obtain ⟨j, e2, e3⟩ := Option.bind_eq_some_iff.mp e1'
      obtain ⟨u, e4, e5⟩ := k6.get e3
      refine ⟨l, us, k, u, rfl, rfl, SqL.of h5, ?_, q3 F1 H1 (Xt.refl S1.fh) u (e5.mono x1.ff)⟩
      unfold atI
      rw [k6.length, e2]
      exact e4
    | _ => exact q1.elim
/-- len(xs) of a list of one's own -/
def eLenO (i : Nat) : Ev → MM D := fun ρ ω => match look ρ i with
  | some (.list ds) => .ok (.int ds.length) ω
  | _ => .bad
theorem e_lenO {i : Nat} (hO : i ∈ m.O) (h : PE X e (tCB (fun xs H Q => ∃ x n, xs = [x] ∧ LenV X.K x H n ∧ Q (.int n) H) (tCons (tVar i) tNil))) : E c W m X e (eLenO i) := PEimp h fun σ H Q ⟨F, ρ, ω, S, q⟩ => by
  unfold eLenO at q
  cases hl : look ρ i with
  | none => rw [hl] at q; exact q.elim
  | some a =>
    rw [hl] at q
    obtain ⟨l, us, ds, k1, k2, k3, k4, k5, k6⟩ := S.own i a (look_iff hl) hO
    subst k2
    exact ⟨_, k1, _, ds.length, rfl, .inl ⟨us, SqL.of k5, k6.length.symm⟩, q F H (Xt.refl S.fh) S.bo _ (.int _)⟩

/-! ### the borrowed list -/
def eIxB (dk : Ev → MM D) : Ev → MM D := fun ρ ω => (dk ρ ω).bind fun k w => match k with
  | .int k => ofO (atI w k) w
  | _ => .bad
theorem e_ixB {i : Nat} {o k1 : Expr} {dk : Ev → MM D} (hB : m.B = some i) (hk : E c W m X k1 dk) (h : PE X k1 (TD c W m dk) → PE X (.Subscript o k1 pos) (tOp (rIxL X.K) (tVar i) (TD c W m dk))) : E c W m X (.Subscript o k1 pos) (eIxB dk) := PEimp (h hk) fun σ H Q ⟨F, ρ, ω, S, q⟩ => by
  obtain ⟨_, b, hb, k1⟩ := S.bsl i hB
  refine ⟨_, k1, F, ρ, ω, S, bindT S Post.pg q fun k F1 H1 w1 x1 S1 q1 z r1 => ?_⟩
  obtain ⟨_, _, us, h5, k6⟩ := S1.bo b hb
  cases r1 with
  | int k =>
    obtain ⟨v, e1, q3⟩ := post_ofO S1.fh S1.bo q1
    have e1' := e1
    unfold atI at e1'
    obtain ⟨j, e2, e3⟩ := Option.bind_eq_some_iff.mp e1'
    obtain ⟨u, e4, e5⟩ := k6.get e3
    refine ⟨b, us, k, u, rfl, rfl, SqL.of h5, ?_, q3 F1 H1 (Xt.refl S1.fh) u e5⟩
    unfold atI
    rw [k6.length, e2]
    exact e4
  | _ => exact q1.elim
def sSetB (dv dk : Ev → MM D) : Ev → MM Fl := fun ρ ω => (dv ρ ω).bind fun v w => (dk ρ w).bind fun k w => match k with
  | .int k => (ofO (ixN w.length k) w).bind fun j w => .ok (.next ρ) (w.set j v)
  | _ => .bad
theorem s_setB {i : Nat} {o k1 v1 : Expr} {p2 p3 : Pos} {dv dk : Ev → MM D} (hB : m.B = some i) (hv : E c W m X v1 dv) (hk : E c W m X k1 dk) (h : PE X v1 (TD c W m dv) → PE X k1 (TD c W m dk) → PS X (.Assign [.Subscript o k1 p2] v1 p3) (tAsg (TD c W m dv) (gSub (tVar i) (TD c W m dk) rSetL))) : PS X (.Assign [.Subscript o k1 p2] v1 p3) (TSD c W m m mb mc (sSetB dv dk)) := PSimp (h hv hk) fun D' σ H ⟨F, ρ, ω, S, q⟩ => by
  have q' : GS c W m mb mc D' F H _ := ⟨S.fr.xt, q⟩
  refine ⟨F, ρ, ω, S, bindT S GS.pg q' fun v F1 H1 w1 x1 S1 q1 y r1 => ?_⟩
  obtain ⟨_, b, hb, k1⟩ := S1.bsl i hB
  refine ⟨_, k1, F1, ρ, w1, S1, bindT S1 GS.pg q1 fun k F2 H2 w2 x2 S2 q2 z r2 => ?_⟩
  obtain ⟨_, _, us, h5, k6⟩ := S2.bo b hb
  cases r2 with
  | int k =>
    cases hj : ixN w2.length k with
    | none => simp only [hj] at q2; exact q2.2.elim
    | some j =>
      simp only [hj, ofO_some, bind_ok] at q2
      exact ⟨b, us, k, j, rfl, rfl, h5, by rw [k6.length]; exact hj, q2.2 F2 σ _ (Same.refl _) (S2.writeB hb (k6.set (r1.mono x2.ff) j))⟩
  | _ => exact q2.2.elim
end
end M

set_option Elab.async false
set_option linter.all false
set_option maxRecDepth 100000
set_option maxHeartbeats 4000000
namespace M
open PySem PySem.Spec PyProof.Rows L2

/-! ### comprehensions -/
def wipeD (ρ : Ev) : List Nat → Ev
  | [] => ρ
  | v :: vs => (wipeD ρ vs).set v none
def Md.delL (m : Md) : List Nat → Md
  | [] => m
  | v :: vs => (m.delL vs).del v
theorem delL_B (m : Md) : ∀ vs, (m.delL vs).B = m.B
  | [] => rfl
  | v :: vs => delL_B m vs
theorem delL_T (m : Md) : ∀ vs, (m.delL vs).T = m.T
  | [] => rfl
  | v :: vs => delL_T m vs
theorem delL_Fr {m : Md} {vs : List Nat} {i : Nat} (h : m.Fr i) : (m.delL vs).Fr i := by unfold Md.Fr at h ⊢; rw [delL_B, delL_T]; exact h
theorem SR.forget {c : CM} {m : Md} {F : Hp} {ρ : Ev} {ω : Wd} {σ : L2.St} {H : Hp} (S : SR c m F ρ ω σ H) {v : Nat} (hb : m.Fr v) : SR c (m.del v) F (ρ.set v none) ω (σ.set v none) H where
  fr := S.fr
  len := by simp [S.len]
  dat := fun i d e n => by
    have hi : i ≠ v := fun z => by
      subst z
      by_cases hl : i < ρ.length
      · rw [List.getElem?_set_self hl] at e; cases e
      · rw [List.getElem?_eq_none (by simpa using hl)] at e; cases e
    rw [List.getElem?_set_ne (Ne.symm hi)] at e ⊢
    exact S.dat i d e ⟨fun z => n.1 (mem_del.mpr ⟨z, hi⟩), n.2⟩
  own := fun i d e n => by
    obtain ⟨n1, n2⟩ := mem_del.mp n
    rw [List.getElem?_set_ne (Ne.symm n2)] at e ⊢
    exact S.own i d e n1
  sep := fun i j l di dj oi oj ei ej si sj => by
    obtain ⟨n1, n2⟩ := mem_del.mp oi
    obtain ⟨n3, n4⟩ := mem_del.mp oj
    rw [List.getElem?_set_ne (Ne.symm n2)] at ei si
    rw [List.getElem?_set_ne (Ne.symm n4)] at ej sj
    exact S.sep i j l di dj n1 n3 ei ej si sj
  bsl := fun i e => by
    have hi : i ≠ v := fun z => hb.1 (by rw [← z]; exact e)
    obtain ⟨h1, b, h2, h3⟩ := S.bsl i e
    exact ⟨by rw [List.getElem?_set_ne (Ne.symm hi)]; exact h1, b, h2, by rw [List.getElem?_set_ne (Ne.symm hi)]; exact h3⟩
  tsl := fun i d n e => by
    have hi : i ≠ v := fun z => hb.2 (by rw [← z]; exact n)
    rw [List.getElem?_set_ne (Ne.symm hi)] at e ⊢
    exact S.tsl i d n e
theorem SR.wipe {c : CM} {m : Md} {F : Hp} {ρ : Ev} {ω : Wd} {σ : L2.St} {H : Hp} (S : SR c m F ρ ω σ H) : ∀ {vs : List Nat}, (∀ v ∈ vs, m.Fr v) → SR c (m.delL vs) F (wipeD ρ vs) ω (L2.wipe σ vs) H
  | [], _ => S
  | v :: vs, h => (SR.wipe S fun v hv => h v (by simp [hv])).forget (delL_Fr (h v (by simp)))
theorem wipe_get (σ : L2.St) (j : Nat) : ∀ vs : List Nat, (L2.wipe σ vs)[j]? = if j ∈ vs then (if j < σ.length then some none else none) else σ[j]?
  | [] => by simp [L2.wipe]
  | v :: vs => by
    unfold L2.wipe
    by_cases hj : v = j
    · subst hj
      by_cases hl : v < σ.length
      · rw [List.getElem?_set_self (by rw [wipe_length]; exact hl)]; simp [hl]
      · rw [List.getElem?_eq_none (by simp [wipe_length]; omega)]; simp [hl]
    · rw [List.getElem?_set_ne hj, wipe_get σ j vs]
      have : (j ∈ v :: vs) ↔ j ∈ vs := by simp [Ne.symm hj]
      by_cases hv : j ∈ vs
      · rw [if_pos hv, if_pos (this.mpr hv)]
      · rw [if_neg hv, if_neg (fun z => hv (this.mp z))]
theorem wipe_off {σ σ' : L2.St} {is vs : List Nat} (h : Off is (L2.wipe σ vs) σ') (hs : ∀ i ∈ is, i ∈ vs) : L2.wipe σ' vs = L2.wipe σ vs := by
  have hl : σ'.length = σ.length := by rw [h.1, wipe_length]
  apply List.ext_getElem?
  intro j
  rw [wipe_get, wipe_get, hl]
  by_cases hj : j ∈ vs
  · rw [if_pos hj, if_pos hj]
  · rw [if_neg hj, if_neg hj, h.2 j fun z => hj (hs j z), wipe_get, if_neg hj]
def noX {α : Type} : Res α → Res α
  | .exc _ _ => .bad
  | r => r
@[simp] theorem noX_ok {α : Type} (a : α) (w : Wd) : noX (.ok a w) = .ok a w := rfl
@[simp] theorem noX_bad {α : Type} : noX (.bad : Res α) = .bad := rfl
@[simp] theorem noX_exc {α : Type} (e : Ex) (w : Wd) : noX (.exc e w : Res α) = .bad := rfl
def W0 : WX := fun _ _ _ _ => False
def lcGo (g : D → Ev → Option Ev) (t : Ev → MM Bool) (d : Ev → MM D) (ρ0 : Ev) : List D → Wd → Res (List D)
  | [], w => .ok [] w
  | x :: xs, w => (ofO (g x ρ0) w).bind fun ρ1 w => (noX (t ρ1 w)).bind fun b w => match b with
    | true => (noX (d ρ1 w)).bind fun y w => (lcGo g t d ρ0 xs w).bind fun ys w => .ok (y :: ys) w
    | false => lcGo g t d ρ0 xs w
def lcD (di : Ev → MM (List D)) (g : D → Ev → Option Ev) (t : Ev → MM Bool) (d : Ev → MM D) (vs : List Nat) : Ev → MM (List D) := fun ρ ω => (di ρ ω).bind fun xs w => if xs.length ≤ sizeLine then lcGo g t d (wipeD ρ vs) xs w else .bad
def bYes : Ev → MM Bool := fun _ ω => .ok true ω
section
variable {c : CM} {W : WX} {m : Md} {X : Cx} {elt tg iter : Expr} {ifs : List Expr} {pos : Pos}
theorem PTsimp {X : Cx} {es : List Expr} {t t' : TT} (h : PTs X es t) (i : ∀ σ H Q, t' σ H Q → t σ H Q) : PTs X es t' := ⟨fun p s σ H Q I q => h.run p s σ H Q I (i _ _ _ q)⟩
theorem t_nil : PTs X [] (TDb c W m bYes) := PTsimp pts_nil fun σ H Q ⟨F, ρ, ω, S, q⟩ => q F H (Xt.refl S.fh) S.bo
theorem t_one {a : Expr} {d : Ev → MM Bool} (h : B c W m X a d) : PTs X [a] (TDb c W m d) := pts_one h
theorem noX_ne {α : Type} {r : Res α} {a : α} {w : Wd} (h : noX r = .ok a w) : r = .ok a w := by
  cases r with
  | ok b v => exact h
  | bad => cases h
  | exc e v => cases h
theorem bind_split {α β : Type} {r : Res α} {k : α → Wd → Res β} {b : β} {w : Wd} (h : r.bind k = .ok b w) : ∃ a v, r = .ok a v ∧ k a v = .ok b w := by
  cases r with
  | bad => cases h
  | exc e v => cases h
  | ok a v => exact ⟨a, v, rfl, h⟩
theorem lcGo_noexc (g : D → Ev → Option Ev) (t : Ev → MM Bool) (d : Ev → MM D) (ρ0 : Ev) : ∀ (xs : List D) (w : Wd) (e : Ex) (v : Wd), lcGo g t d ρ0 xs w ≠ .exc e v
  | [], _, _, _, h => by cases h
  | x :: xs, w, e, v, h => by
    unfold lcGo at h
    cases hg : g x ρ0 with
    | none => rw [hg] at h; cases h
    | some ρ1 =>
      rw [hg, ofO_some, bind_ok] at h
      cases ht : noX (t ρ1 w) with
      | bad => rw [ht] at h; cases h
      | exc ee vv =>
        have : ∀ r : Res Bool, noX r ≠ .exc ee vv := fun r => by cases r <;> intro z <;> cases z
        exact this _ ht
      | ok b w1 =>
        rw [ht, bind_ok] at h
        cases b with
        | false => exact lcGo_noexc g t d ρ0 xs w1 e v h
        | true =>
          simp only at h
          cases hd : noX (d ρ1 w1) with
          | bad => rw [hd] at h; cases h
          | exc ee vv =>
            have : ∀ r : Res D, noX r ≠ .exc ee vv := fun r => by cases r <;> intro z <;> cases z
            exact this _ hd
          | ok y w2 =>
            rw [hd, bind_ok] at h
            cases hr : lcGo g t d ρ0 xs w2 with
            | bad => rw [hr] at h; cases h
            | exc ee vv => exact lcGo_noexc g t d ρ0 xs w2 ee vv hr
            | ok ys w3 => rw [hr] at h; cases h
theorem lc_imp {is vs : List Nat} {di : Ev → MM (List D)} {g : D → Ev → Option Ev} {t : Ev → MM Bool} {d : Ev → MM D} {mt : Md} (hv : ∀ v ∈ vs, m.Fr v) (his : ∀ i ∈ is, i ∈ vs) :
    ∀ σ H Q, TDf c W m (lcD di g t d vs) σ H Q → tLc (TID c W m di) (TGD c (m.delL vs) mt is g) (TDb c W0 mt t) (TD c W0 mt d) vs σ H Q := fun σ H Q ⟨F, ρ, ω, S, q⟩ => by
  unfold lcD at q
  refine ⟨F, ρ, ω, S, bindT S Post.pg q fun items F1 H1 w1 x1 S1 q1 J hJ => ?_⟩
  intro D1 hD
  by_cases hz : items.length ≤ sizeLine
  · rw [if_pos hz] at q1
    have SW := S1.wipe hv
    -- the whole has a value
    obtain ⟨out, wf, hout⟩ : ∃ out wf, lcGo g t d (wipeD ρ vs) items w1 = .ok out wf := by
      cases e : lcGo g t d (wipeD ρ vs) items w1 with
      | bad => rw [e] at q1; exact q1.elim
      | exc ee vv => exact absurd e (lcGo_noexc _ _ _ _ _ _ _ _)
      | ok a b => exact ⟨a, b, rfl⟩
    rw [hout] at q1
    have hbD : c.b ≠ some D1 := new_ne_b S1 hD
    have hD0 : H D1 = none := by
      cases z : H D1 with
      | none => rfl
      | some o => exact absurd hD (x1.dom D1 (by rw [z]; simp))
    refine ⟨fun i n H' => n = items.length - i ∧ i ≤ items.length ∧ ∃ F' ω' acc accD rest, Xt c.b F1 H1 F' H' ∧ BorOk c F' ω' H' ∧ F' D1 = none ∧ H' D1 = some (.lst acc) ∧ RpL c.K F' acc accD ∧ acc.length ≤ i ∧ lcGo g t d (wipeD ρ vs) (items.drop i) ω' = .ok rest wf ∧ out = accD ++ rest, ?_, ?_⟩
    · refine ⟨_, rfl, Nat.zero_le _, F1, w1, [], [], out, Xt.alloc0 S1.fh hD, S1.bo.ext (Xt.alloc0 S1.fh hD), Same.none S1.fh hD, upd_same, .nil, Nat.le_refl _, hout, rfl⟩
    · rintro i n H' ⟨rfl, hi, F', ω', acc, accD, rest, x', bo', fD, hD', racc, hlen, hgo, hsum⟩
      by_cases hlt : i < items.length
      · refine .inr ⟨hJ.go i F' H' hlt x'.ff x'.fh, fun H2 => ∃ F2 ω2 acc2 accD2 rest2, Xt c.b F1 H1 F2 H2 ∧ BorOk c F2 ω2 H2 ∧ F2 D1 = none ∧ H2 D1 = some (.lst acc2) ∧ RpL c.K F2 acc2 accD2 ∧ acc2.length ≤ i + 1 ∧ lcGo g t d (wipeD ρ vs) (items.drop (i + 1)) ω2 = .ok rest2 wf ∧ out = accD2 ++ rest2, fun H2 hN => ⟨items.length - (i + 1), by omega, rfl, hlt, hN⟩, fun x H2 y => ?_⟩
        obtain ⟨F2, xt2, r2⟩ := hJ.yld i items[i] F' H' x H2 (by simp [hlt]) x'.ff x'.fh y
        rw [List.drop_eq_getElem_cons hlt, lcGo] at hgo
        obtain ⟨ρ1, w2, e1, hgo1⟩ := bind_split hgo
        have eg : g items[i] (wipeD ρ vs) = some ρ1 ∧ w2 = ω' := by
          cases q : g items[i] (wipeD ρ vs) with
          | none => rw [q] at e1; cases e1
          | some z => rw [q] at e1; cases e1; exact ⟨rfl, rfl⟩
        obtain ⟨eg, rfl⟩ := eg
        obtain ⟨b, w3, e2, hgo2⟩ := bind_split hgo1
        have e2 := noX_ne e2
        have x2' : Xt c.b F1 H1 F2 H2 := x'.trans xt2.any
        have bo2 := bo'.ext xt2
        have S2 : SR c (m.delL vs) F2 (wipeD ρ vs) w2 (L2.wipe σ vs) H2 := SW.step x2' bo2
        refine ⟨F2, wipeD ρ vs, w2, items[i], ρ1, S2, r2, eg, fun σ2 S3 off => ⟨wipe_off off his, ?_⟩⟩
        · refine ⟨F2, ρ1, w2, S3, ?_⟩
          rw [e2]
          intro F3 H3 xt3 bo3
          have D3 : H3 D1 = some (.lst acc) := xt3.keep D1 _ (xt2.keep D1 _ hD' (by simp)) hbD
          have F3D : F3 D1 = none := by
            rw [xt3.new D1 (by rw [xt2.keep D1 _ hD' (by simp)]; simp), xt2.new D1 (by rw [hD']; simp)]
            exact fD
          cases b with
          | false =>
            refine iteF ⟨F3, w3, acc, accD, rest, x2'.trans xt3, bo3, F3D, D3, (racc.mono xt2.ff).mono xt3.ff, by omega, hgo2, hsum⟩
          | true =>
            obtain ⟨yv, w4, e3, hgo3⟩ := bind_split hgo2
            have e3 := noX_ne e3
            obtain ⟨ys, w5, e4, hgo4⟩ := bind_split hgo3
            cases hgo4
            refine iteT ⟨F3, ρ1, w3, S3.step xt3 bo3, ?_⟩
            rw [e3]
            intro F4 H4 xt4 bo4 z rz
            have D4 : H4 D1 = some (.lst acc) := xt4.keep D1 _ D3 hbD
            have F4D : F4 D1 = none := by rw [xt4.new D1 (by rw [D3]; simp)]; exact F3D
            refine ⟨acc, D4, by omega, F4, w4, acc ++ [z], accD ++ [yv], ys, ?_, ?_, F4D, upd_same, (((racc.mono xt2.ff).mono xt3.ff).mono xt4.ff).append (.cons rz .nil), by simp; omega, e4, by rw [hsum]; simp⟩
            · have xx := (x2'.trans xt3).trans xt4
              refine ⟨xx.ff, fun a o e => ?_, fun a o e nn => ?_, fun a h => ?_, xx.new⟩
              · have ha : a ≠ D1 := fun zz => by rw [zz, F4D] at e; cases e
                rw [upd_ne ha]; exact xx.fh _ _ e
              · have ha : a ≠ D1 := fun zz => by rw [zz, hD] at e; cases e
                rw [upd_ne ha]; exact xx.keep a o e nn
              · by_cases ha : a = D1
                · rw [ha, upd_same]; simp
                · rw [upd_ne ha]; exact xx.dom a h
            · intro b' hb'
              obtain ⟨b0, b1, bu, b2, b3⟩ := bo4 b' hb'
              have hne : b' ≠ D1 := fun zz => hbD (zz ▸ hb')
              exact ⟨b0, b1, bu, by rw [upd_ne hne]; exact b2, b3⟩
      · have e : i = items.length := by omega
        subst e
        rw [List.drop_length] at hgo
        cases hgo
        simp only [List.append_nil] at hsum
        subst hsum
        exact .inl ⟨hJ.stop F' H' x'.ff x'.fh, q1 F' H' x' bo' D1 acc hD0 fD hD' racc⟩
  · rw [if_neg hz] at q1
    exact q1.elim
end
end M

set_option Elab.async false
set_option linter.all false
set_option maxRecDepth 100000
set_option maxHeartbeats 4000000
namespace M
open PySem PySem.Spec PyProof.Rows L2

section
variable {c : CM} {W : WX} {m : Md} {X : Cx} {elt tg iter : Expr} {ifs : List Expr} {pos : Pos}
theorem f_lc {scope : Scope} {own : List (PySem.Str × Nat)} {vs : List Nat} {is : List Nat} {mt : Md} {di : Ev → MM (List D)} {g : D → Ev → Option Ev} {t : Ev → MM Bool} {d : Ev → MM D} (hc : X.calm = true) (hN : X.N.Nodup) (hi : PI X tg iter (TID c W m di)) (ok : BlkOk X.N X.env.scope scope own)
    (hg : ∀ (s : Shared) (H : Hp) (C : Addr) (cl : List (PySem.Str × Addr)) (fp : List Addr), PG (X.blk s H scope (compEnvC scope cl C X.env) fp) tg (TGD c (m.delL vs) mt is g)) (ht : ∀ (s : Shared) (H : Hp) (C : Addr) (cl : List (PySem.Str × Addr)) (fp : List Addr), PTs (X.blk s H scope (compEnvC scope cl C X.env) fp) ifs (TDb c W0 mt t))
    (he : ∀ (s : Shared) (H : Hp) (C : Addr) (cl : List (PySem.Str × Addr)) (fp : List Addr), PE (X.blk s H scope (compEnvC scope cl C X.env) fp) elt (TD c W0 mt d)) (hv : ∀ v ∈ vs, m.Fr v := by decide) (his : ∀ i ∈ is, i ∈ vs := by decide) (hs : ∀ x, foldedSetIterable iter X.env x = pure x := by intro _; rfl) (hvs : own.map (·.2) = vs := by rfl) :
    EF c W m X (.ListComp elt [⟨tg, iter, ifs, 0⟩] scope pos) (lcD di g t d vs) := by
  subst hvs
  exact PEimp (pe_lc hc hN hi ok hg ht he hs) (lc_imp hv his)
/-- y = [..], the list frozen -/
theorem s_lc {i : Nat} {y : PySem.Str} {py spos : Pos} {scope : Scope} {own : List (PySem.Str × Nat)} {vs : List Nat} {is : List Nat} {mt mb mc : Md} {di : Ev → MM (List D)} {g : D → Ev → Option Ev} {t : Ev → MM Bool} {d : Ev → MM D} (hc : X.calm = true) (hN : X.N.Nodup) (hy : X.N[i]? = some y) (hyl : X.env.scope.names.lookup y = some .local)
    (hsw : swapsWith (.ListComp elt [⟨tg, iter, ifs, 0⟩] scope pos) (some (.Name y py)) spos.line X.env = pure true) (hi : PI X tg iter (TID c W m di)) (ok : BlkOk X.N X.env.scope scope own)
    (hg : ∀ (s : Shared) (H : Hp) (C : Addr) (cl : List (PySem.Str × Addr)) (fp : List Addr), PG (X.blk s H scope (compEnvC scope cl C X.env) fp) tg (TGD c (m.delL vs) mt is g)) (ht : ∀ (s : Shared) (H : Hp) (C : Addr) (cl : List (PySem.Str × Addr)) (fp : List Addr), PTs (X.blk s H scope (compEnvC scope cl C X.env) fp) ifs (TDb c W0 mt t))
    (he : ∀ (s : Shared) (H : Hp) (C : Addr) (cl : List (PySem.Str × Addr)) (fp : List Addr), PE (X.blk s H scope (compEnvC scope cl C X.env) fp) elt (TD c W0 mt d)) (hb : m.Fr i := by decide) (hv : ∀ v ∈ vs, m.Fr v := by decide) (his : ∀ i ∈ is, i ∈ vs := by decide) (hs : ∀ x, foldedSetIterable iter X.env x = pure x := by intro _; rfl) (hvs : own.map (·.2) = vs := by rfl) :
    PS X (.Assign [.Name y py] (.ListComp elt [⟨tg, iter, ifs, 0⟩] scope pos) spos) (TSD c W m (m.del i) mb mc (sAsg (eOfF (lcD di g t d vs)) (gN i))) := by
  subst hvs
  exact s_setLc (ps_setLc hc hN hy hyl hsw hi ok hg ht he hs) (fun σ H Q q => lc_imp hv his _ _ _ (f_imp _ _ _ q)) hb
theorem s_lcO {i : Nat} {y : PySem.Str} {py spos : Pos} {scope : Scope} {own : List (PySem.Str × Nat)} {vs : List Nat} {is : List Nat} {mt mb mc : Md} {di : Ev → MM (List D)} {g : D → Ev → Option Ev} {t : Ev → MM Bool} {d : Ev → MM D} (hc : X.calm = true) (hN : X.N.Nodup) (hy : X.N[i]? = some y) (hyl : X.env.scope.names.lookup y = some .local)
    (hsw : swapsWith (.ListComp elt [⟨tg, iter, ifs, 0⟩] scope pos) (some (.Name y py)) spos.line X.env = pure true) (hi : PI X tg iter (TID c W m di)) (ok : BlkOk X.N X.env.scope scope own)
    (hg : ∀ (s : Shared) (H : Hp) (C : Addr) (cl : List (PySem.Str × Addr)) (fp : List Addr), PG (X.blk s H scope (compEnvC scope cl C X.env) fp) tg (TGD c (m.delL vs) mt is g)) (ht : ∀ (s : Shared) (H : Hp) (C : Addr) (cl : List (PySem.Str × Addr)) (fp : List Addr), PTs (X.blk s H scope (compEnvC scope cl C X.env) fp) ifs (TDb c W0 mt t))
    (he : ∀ (s : Shared) (H : Hp) (C : Addr) (cl : List (PySem.Str × Addr)) (fp : List Addr), PE (X.blk s H scope (compEnvC scope cl C X.env) fp) elt (TD c W0 mt d)) (hb : m.Fr i := by decide) (hv : ∀ v ∈ vs, m.Fr v := by decide) (his : ∀ i ∈ is, i ∈ vs := by decide) (hs : ∀ x, foldedSetIterable iter X.env x = pure x := by intro _; rfl) (hvs : own.map (·.2) = vs := by rfl) :
    PS X (.Assign [.Name y py] (.ListComp elt [⟨tg, iter, ifs, 0⟩] scope pos) spos) (TSD c W m (m.add i) mb mc (sOwn i (lcD di g t d vs))) := by
  subst hvs
  exact s_ownLc (ps_setLc hc hN hy hyl hsw hi ok hg ht he hs) (lc_imp hv his) hb
theorem pass_ok {P : Program} {w : World} {K : PySem.W.Frag} {mg : PySem.Str → Option Value} {base : Heap} {N : List PySem.Str} {qual : PySem.Str} {scope : Scope} {f : Addr} {cd : Value} {A : Around} {outer : List Env} {s : Shared} {H : Hp} {E : XK} :
    PassesOwn (model P w) (cxOf (L2.CX P w) P w K mg base N qual scope f cd A outer s H E).A (cxOf (L2.CX P w) P w K mg base N qual scope f cd A outer s H E).env (cxOf (L2.CX P w) P w K mg base N qual scope f cd A outer s H E).xe := passes_of (X := cxOf (L2.CX P w) P w K mg base N qual scope f cd A outer s H E) rfl
theorem takes_ok {P : Program} {w : World} {K : PySem.W.Frag} {mg : PySem.Str → Option Value} {base : Heap} {N : List PySem.Str} {qual : PySem.Str} {scope : Scope} {f : Addr} {cd : Value} {A : Around} {outer : List Env} {s : Shared} {H : Hp} {E : XK} :
    Takes (cxOf (L2.CX P w) P w K mg base N qual scope f cd A outer s H E) (fun cls d _ H => E cls d H) := takes_of rfl rfl rfl rfl
end

/-! ### defs -/
def endF : Res Fl → Res D
  | .ok (.ret d) w => .ok d w
  | .ok (.next _) w => .ok .none w
  | .exc e w => .exc e w
  | _ => .bad
def runF (nl n : Nat) (db : Ev → MM Fl) : List D → Res D := fun ds => if ds.length = n then endF (db (ds.map some ++ List.replicate (nl - n) none) []) else .bad
def runS (nl n : Nat) (db : Ev → MM Fl) : List D → MM D := fun ds ω => if ds.length + 1 = n then endF (db (none :: (ds.map some ++ List.replicate (nl - n) none)) ω) else .bad
section
variable {P : Program} {w : World} {K : PySem.W.Frag} {mg : PySem.Str → Option Value} {base : Heap}
theorem start_get {N : List PySem.Str} {vs : List V} {i : Nat} {v : V} (h : vs[i]? = some v) : (L2.start N vs)[i]? = some (some v) := by
  unfold L2.start
  have hl := (List.getElem?_eq_some_iff.mp h).1
  rw [List.getElem?_append_left (by simpa using hl), List.getElem?_map, h]
  rfl
theorem ev_get {ds : List D} {r : Nat} {i : Nat} {d : D} (h : (ds.map some ++ List.replicate r (none : Option D))[i]? = some (some d)) : ds[i]? = some d := by
  by_cases hl : i < ds.length
  · rw [List.getElem?_append_left (by simpa using hl), List.getElem?_map] at h
    cases e : ds[i]? with
    | none => rw [e] at h; cases h
    | some x => rw [e] at h; simpa using h
  · rw [List.getElem?_append_right (by simpa using hl), List.getElem?_replicate] at h
    split at h <;> simp at h
theorem fn_P {x qual : PySem.Str} {st : Stmt} {f : Addr} {fd : FuncData} {N ps : List PySem.Str} {k n : Nat} {mn mb mc : Md} {t : Option Nat} {db : Ev → MM Fl} (F : Fun K x qual st f fd) (S : FnScope N ps (defScope st)) (hn : ps.length = n) (ht : ∀ i, t = some i → n ≤ i)
    (der : ∀ (F0 : Hp) (cdv : Value) (A : Around) (outer : List Env) (s : Shared) (H : Hp) (E : XK), Room k (A.deeper (envOfC qual (defScope st) s.heap.objs.size f cdv)) →
      PSs (cxOf (L2.CX P w) P w K mg base N qual (defScope st) f cdv A outer s H E) (defBody st) (TSD ⟨K, mg, H, F0, none⟩ (fun cls d _ H => E cls d H) { T := t } mn mb mc db)) :
    FnOk P w K mg base (L2.CX P w) (k + 1) f fd ps (spP K mg n (runF N.length n db)) := by
  refine F.okX S (fun vs H Q E ⟨_, _, h, _⟩ => by rw [h, hn]) fun cdv A outer s H vs Q E hr ⟨F0, ds, hlen, s0, r0, q⟩ => ?_
  refine ⟨_, der F0 cdv A outer s H E hr, F0, ds.map some ++ List.replicate (N.length - n) none, [], ?_, ?_⟩
  · refine ⟨⟨Xt.refl s0, (fun b e => nomatch e)⟩, ?_, fun i d e _ => ?_, (fun i d _ h => nomatch h), (fun i j l di dj h => nomatch h), (fun i e => nomatch e), fun i d e z => absurd (List.getElem?_eq_some_iff.mp (ev_get z)).1 (by have := ht i e; rw [← r0.length, hlen]; omega)⟩
    · unfold L2.start
      simp [← r0.length, hlen]
    · obtain ⟨v, h1, h2⟩ := r0.get (ev_get e)
      exact ⟨v, start_get h1, h2⟩
  · have hl : ds.length = n := by rw [← r0.length]; exact hlen
    unfold runF at q
    rw [if_pos hl] at q
    cases e : db (ds.map some ++ List.replicate (N.length - n) none) [] with
    | bad => rw [e] at q; exact q.elim
    | exc ex w' =>
      rw [e] at q
      exact fun F' σ' H' cls dd s' fr rx => q F' H' cls dd fr.xt rx
    | ok fl w' =>
      rw [e] at q
      cases fl with
      | next ρ => exact fun F' σ' H' s' S' => q F' H' .non S'.fr.xt .non
      | ret d => exact fun F' H' z s' fr rz => q F' H' z fr.xt rz
      | brk ρ => exact q.elim
      | cont ρ => exact q.elim
theorem fn_S {x qual : PySem.Str} {st : Stmt} {f : Addr} {fd : FuncData} {N ps : List PySem.Str} {k n : Nat} {mn mb mc : Md} {db : Ev → MM Fl} (F : Fun K x qual st f fd) (S : FnScope N ps (defScope st)) (hn : ps.length = n)
    (der : ∀ (F0 : Hp) (b : Addr) (cdv : Value) (A : Around) (outer : List Env) (s : Shared) (H : Hp) (E : XK), Room k (A.deeper (envOfC qual (defScope st) s.heap.objs.size f cdv)) →
      PSs (cxOf (L2.CX P w) P w K mg base N qual (defScope st) f cdv A outer s H E) (defBody st) (TSD ⟨K, mg, H, F0, some b⟩ (fun cls d _ H => E cls d H) ⟨[], some 0, none⟩ mn mb mc db)) :
    FnOk P w K mg base (L2.CX P w) (k + 1) f fd ps (spS K mg n (runS N.length n db)) := by
  refine F.okX S (fun vs H Q E ⟨_, _, _, _, _, _, _, h, _⟩ => by rw [h, hn]) fun cdv A outer s H vs Q E hr ⟨F0, b, us, ω, vs', ds, hv, hlen, s0, fb, hb, rω, r0, q⟩ => ?_
  subst hv
  have hl : ds.length + 1 = n := by rw [← r0.length]; simpa using hlen
  refine ⟨_, der F0 b cdv A outer s H E hr, F0, none :: (ds.map some ++ List.replicate (N.length - n) none), ω, ?_, ?_⟩
  · refine ⟨⟨Xt.refl s0, fun b' e => ?_⟩, ?_, fun i d e _ => ?_, (fun i d _ h => nomatch h), (fun i j l di dj h => nomatch h), fun i e => ?_, fun i d e => nomatch e⟩
    · cases e
      exact ⟨by show H b ≠ none; rw [hb]; simp, fb, us, hb, rω⟩
    · unfold L2.start
      have : vs'.length = ds.length := r0.length
      simp only [List.length_cons, List.length_append, List.length_map, List.length_replicate]
      omega
    · cases i with
      | zero => simp at e
      | succ i =>
        obtain ⟨v, h1, h2⟩ := r0.get (ev_get (by simpa using e))
        exact ⟨v, start_get (by simpa using h1), h2⟩
    · cases e
      exact ⟨rfl, b, rfl, start_get rfl⟩
  · unfold runS at q
    rw [if_pos hl] at q
    have bor : ∀ {F' H' : Hp} {w' : Wd}, BorOk ⟨K, mg, H, F0, some b⟩ F' w' H' → ∃ us', H' b = some (.lst us') ∧ RpL K F' us' w' := fun {F' H' w'} bo => by
      obtain ⟨_, _, us', h1, h2⟩ := bo b rfl
      exact ⟨us', h1, h2⟩
    cases e : db (none :: (ds.map some ++ List.replicate (N.length - n) none)) ω with
    | bad => rw [e] at q; exact q.elim
    | exc ex w' =>
      rw [e] at q
      intro F' σ' H' cls dd s' fr rx
      obtain ⟨us', h1, h2⟩ := bor fr.bo
      exact q F' H' cls dd us' fr.xt h1 h2 rx
    | ok fl w' =>
      rw [e] at q
      cases fl with
      | next ρ =>
        intro F' σ' H' s' S'
        obtain ⟨us', h1, h2⟩ := bor S'.fr.bo
        exact q F' H' .non us' S'.fr.xt h1 h2 .non
      | ret d =>
        intro F' H' z s' fr rz
        obtain ⟨us', h1, h2⟩ := bor fr.bo
        exact q F' H' z us' fr.xt h1 h2 rz
      | brk ρ => exact q.elim
      | cont ρ => exact q.elim
/-- how a def stands behind the top -/
def Def (K : PySem.W.Frag) (mg : PySem.Str → Option Value) (x : PySem.Str) (st : Stmt) (ps : List PySem.Str) : Prop := ∃ f fd, Fun K x x st f fd ∧ Binds K fd ps [] ∧ mg x = some (.ref f)
theorem own_P {x : PySem.Str} {st : Stmt} {N ps : List PySem.Str} {k n : Nat} {mn mb mc : Md} {t : Option Nat} {db : Ev → MM Fl} (G : Def K mg x st ps) (S : FnScope N ps (defScope st)) (hn : ps.length = n)
    (der : ∀ (f : Addr) (F0 : Hp) (cdv : Value) (A : Around) (outer : List Env) (s : Shared) (H : Hp) (E : XK), Room k (A.deeper (envOfC x (defScope st) s.heap.objs.size f cdv)) →
      PSs (cxOf (L2.CX P w) P w K mg base N x (defScope st) f cdv A outer s H E) (defBody st) (TSD ⟨K, mg, H, F0, none⟩ (fun cls d _ H => E cls d H) { T := t } mn mb mc db)) (ht : ∀ i, t = some i → n ≤ i := by intro i h; cases h <;> decide) :
    FnD P w K mg base x (k + 1) n (runF N.length n db) := by
  obtain ⟨f, fd, F, b, g⟩ := G
  exact ⟨f, fd, ps, g, F.kp, b, fn_P F S hn ht (der f)⟩
theorem own_S {x : PySem.Str} {st : Stmt} {N ps : List PySem.Str} {k n : Nat} {mn mb mc : Md} {db : Ev → MM Fl} (G : Def K mg x st ps) (S : FnScope N ps (defScope st)) (hn : ps.length = n)
    (der : ∀ (f : Addr) (F0 : Hp) (b : Addr) (cdv : Value) (A : Around) (outer : List Env) (s : Shared) (H : Hp) (E : XK), Room k (A.deeper (envOfC x (defScope st) s.heap.objs.size f cdv)) →
      PSs (cxOf (L2.CX P w) P w K mg base N x (defScope st) f cdv A outer s H E) (defBody st) (TSD ⟨K, mg, H, F0, some b⟩ (fun cls d _ H => E cls d H) ⟨[], some 0, none⟩ mn mb mc db)) :
    FnS P w K mg base x (k + 1) n (runS N.length n db) := by
  obtain ⟨f, fd, F, b, g⟩ := G
  exact ⟨f, fd, ps, g, F.kp, b, fn_S F S hn (der f)⟩
/-- a def's value, told otherwise -/
theorem own_eq {x : PySem.Str} {k n : Nat} {fd fd' : List D → Res D} (G : FnD P w K mg base x k n fd) (h : ∀ ds, fd' ds ≠ .bad → fd ds = fd' ds) : FnD P w K mg base x k n fd' := by
  obtain ⟨f, fdat, ps, g, kp, b, ok⟩ := G.ex
  refine ⟨f, fdat, ps, g, kp, b, ok.imp fun vs H Q E ⟨F, ds, h1, h2, h3, q⟩ => ⟨F, ds, h1, h2, h3, ?_⟩⟩
  rw [h ds fun z => by rw [z] at q; exact q]
  exact q

/-! ### the law's own helper that makes the state, and the law -/
def ω0 (ns : List Int) : Wd := [.list (ns.map .int), .int 0, .int 0, .int 0, .bool false, .int 500]
def spI (K : PySem.W.Frag) : Sp := fun vs H Q _ => ∃ F a ns, vs = [.ref a] ∧ Same F H ∧ SqL K H a (ns.map V.int) ∧ ∀ F' H' l us, Xt none F H F' H' → H l = none → F' l = none → H' l = some (.lst us) → RpL K F' us (ω0 ns) → Q (.ref l) H'
theorem PSs_ex {X : Cx} {sts : List Stmt} {ι : Type} {T : ι → TS} (h : ∀ i, PSs X sts (T i)) : PSs X sts (fun D' σ H => ∃ i, T i D' σ H) := ⟨fun p s σ H D' I ⟨i, q⟩ => (h i).run p s σ H D' I q⟩
def spLaw (K : PySem.W.Frag) : Sp := fun vs H Q _ => ∃ (a : Addr) (ns : List Int), vs = [.ref a] ∧ SqL K H a (ns.map V.int) ∧ ns.length ≤ 63 ∧ ∀ H', Q (.bl true) H'
theorem init_reading {F H : Hp} {a : Addr} {ns : List Int} {Q : VK} (s : Same F H) (hs : SqL K H a (ns.map V.int)) (q : ∀ F' H' l us, Xt none F H F' H' → H l = none → F' l = none → H' l = some (.lst us) → RpL K F' us (ω0 ns) → Q (.ref l) H') :
    ∀ l, H l = none → ∀ p, upd H l (.lst (ns.map V.int)) p = none → Q (.ref p) (upd (upd H l (.lst (ns.map V.int))) p (.lst [.ref l, .int 0, .int 0, .int 0, .bl false, .int 500])) := fun l hl p hp => by
  have x1 : Xt none F H (upd F l (.lst (ns.map V.int))) (upd H l (.lst (ns.map V.int))) := Xt.alloc s hl
  have x2 : Xt none (upd F l (.lst (ns.map V.int))) (upd H l (.lst (ns.map V.int))) (upd F l (.lst (ns.map V.int))) (upd (upd H l (.lst (ns.map V.int))) p (.lst [.ref l, .int 0, .int 0, .int 0, .bl false, .int 500])) := Xt.alloc0 x1.fh hp
  have hpH : H p = none := by
    cases e : H p with
    | none => rfl
    | some o => exact absurd hp (x1.dom p (by rw [e]; simp))
  exact q _ _ p _ (x1.trans x2) hpH (Same.none x1.fh hp) upd_same (.cons (.lst upd_same (RpL.of_ints ns)) (.cons (.int 0) (.cons (.int 0) (.cons (.int 0) (.cons (.bl false) (.cons (.int 500) .nil))))))
theorem law_first {X : Cx} {k : Nat} {p p1 p2 p3 pos : Pos} {x : PySem.Str} {y : PySem.Str} (G : Own X.prog X.w X.K X.mg X.base "_law_state" k (spI X.K)) (hr : Room k X.A) (hN : X.N.Nodup) (hi : X.N[1]? = some y) (hx : Loc X.env.scope y) (hv : PE X (.Name x p1) (tVar 0)) (hg : Gl X "_law_state")
    (he : starEach [.Name x p1] X.env = (false, eval (.Name x p1) X.env) :: starEach [] X.env := by rfl) (hpl : (backTo p2 (starEach [] X.env)).any (·.1) = false := by rfl)
    (hs : swapsWith (.Call (.Name "_law_state" p) [.Name x p1] [] p2) (some (.Name y p3)) pos.line X.env = pure false := by rfl) (hf : X.fn y = true ∨ X.env.scope.names.lookup y = some .local := by first | exact .inl rfl | exact .inr rfl | assumption) :
    PS X (.Assign [.Name y p3] (.Call (.Name "_law_state" p) [.Name x p1] [] p2) pos) (tAsg (tCallS (spI X.K) (fun _ => E0) (tCons (tVar 0) tNil)) (gName 1)) := by
  obtain ⟨f, fdat, ps, gm, kp, bd, ok⟩ := G.ex
  exact ps_set hN hi hx (pe_callS ok hr hg gm kp bd (fun σ pins H s e s' I h => passL pins σ H s e s' I h) (pa_cons hv pa_nil he) (by decide) he hpl) hs hf
theorem own_I {st : Stmt} {N : List PySem.Str} (G : Def K mg "_law_state" st ["script"]) (S : FnScope N ["script"] (defScope st))
    (der : ∀ (f : Addr) (cdv : Value) (A : Around) (outer : List Env) (s : Shared) (H : Hp) (E : XK),
      PSs (cxOf (L2.CX P w) P w K mg base N "_law_state" (defScope st) f cdv A outer s H E) (defBody st) (tRet (tLst (tCons (tCB (fun xs H Q => ∃ p ys, xs = [.ref p] ∧ (SqL K H p ys ∨ SqT K H p ys) ∧ ∀ l, H l = none → Q (.ref l) (upd H l (.lst ys))) (tCons (tVar 0) tNil)) (tCons (tC (.int 0)) (tCons (tC (.int 0)) (tCons (tC (.int 0)) (tCons (tC (.bl false)) (tCons (tC (.int 500)) tNil))))))))) :
    Own P w K mg base "_law_state" 1 (spI K) := by
  obtain ⟨f, fd, F, b, g⟩ := G
  refine ⟨f, fd, _, g, F.kp, b, F.okX S (fun vs H Q E ⟨_, _, _, h, _⟩ => by rw [h]; rfl) fun cdv A outer s H vs Q E hr ⟨F0, a, ns, hv, s0, hs, q⟩ => ?_⟩
  subst hv
  exact ⟨_, der f cdv A outer s H E, _, start_get (vs := [.ref a]) rfl, a, ns.map V.int, rfl, .inl hs, fun l hl => ⟨by show 6 ≤ sizeLine; decide, fun p hp => init_reading s0 hs q l hl p hp⟩⟩
theorem law_F {st : Stmt} {f : Addr} {fd : FuncData} {N : List PySem.Str} {k : Nat} {mn mb mc : Md} {db : Ev → MM Fl} {s0 : Stmt} {sts : List Stmt} (F : Fun K "law" "law" st f fd) (S : FnScope N ["script"] (defScope st)) (hbd : defBody st = s0 :: sts) (hN : 2 ≤ N.length)
    (der0 : ∀ (cdv : Value) (A : Around) (outer : List Env) (s : Shared) (H : Hp) (E : XK), Room k (A.deeper (envOfC "law" (defScope st) s.heap.objs.size f cdv)) →
      PS (cxOf (L2.CX P w) P w K mg base N "law" (defScope st) f cdv A outer s H E) s0 (tAsg (tCallS (spI K) (fun _ => E0) (tCons (tVar 0) tNil)) (gName 1)))
    (der : ∀ (H0 F0 : Hp) (b : Addr) (cdv : Value) (A : Around) (outer : List Env) (s : Shared) (H : Hp) (E : XK), Room k (A.deeper (envOfC "law" (defScope st) s.heap.objs.size f cdv)) →
      PSs (cxOf (L2.CX P w) P w K mg base N "law" (defScope st) f cdv A outer s H E) sts (TSD ⟨K, mg, H0, F0, some b⟩ (fun cls d _ H => E cls d H) ⟨[], some 1, none⟩ mn mb mc db))
    (math : ∀ ns : List Int, ns.length ≤ 63 → ∃ w, db (none :: none :: List.replicate (N.length - 2) none) (ω0 ns) = .ok (.ret (.bool true)) w) :
    FnOk P w K mg base (L2.CX P w) (k + 1) f fd ["script"] (spLaw K) := by
  refine F.okX S (fun vs H Q E ⟨_, _, h, _⟩ => by rw [h]; rfl) fun cdv A outer s H vs Q E hr ⟨a, ns, hv, hs, hl, q⟩ => ?_
  subst hv
  have h2 : PSs (cxOf (L2.CX P w) P w K mg base N "law" (defScope st) f cdv A outer s H E) sts (fun D' σ H' => ∃ i : Hp × Hp × Addr, TSD ⟨K, mg, i.1, i.2.1, some i.2.2⟩ (fun cls d _ H => E cls d H) ⟨[], some 1, none⟩ mn mb mc db D' σ H') :=
    PSs_ex fun i => der i.1 i.2.1 i.2.2 cdv A outer s H E hr
  rw [hbd]
  refine ⟨_, pss_cons (der0 cdv A outer s H E hr) h2, ?_⟩
  refine ⟨.ref a, start_get (vs := [.ref a]) rfl, H, a, ns, rfl, Same.refl _, hs, fun F' H' l us xt n0 n1 e1 r1 => ?_⟩
  refine ⟨(H', F', l), F', none :: none :: List.replicate (N.length - 2) none, ω0 ns, ⟨⟨Xt.refl xt.fh, fun b e => ?_⟩, ?_, fun i d e _ => ?_, (fun i d _ h => nomatch h), (fun i j l di dj h => nomatch h), fun i e => ?_, fun i d e => nomatch e⟩, ?_⟩
  · cases e
    exact ⟨by show H' l ≠ none; rw [e1]; simp, n1, us, e1, r1⟩
  · simp [L2.start]
    omega
  · rcases i with _ | _ | i
    · simp at e
    · simp at e
    · simp only [List.getElem?_cons_succ, List.getElem?_replicate] at e
      split at e <;> simp at e
  · cases e
    refine ⟨rfl, l, rfl, ?_⟩
    rw [List.getElem?_set_self (by simp [L2.start]; omega)]
  · obtain ⟨w', hw⟩ := math ns hl
    rw [hw]
    exact fun F2 H2 x s2 fr rx => by cases rx; exact q H2
end
end M

set_option Elab.async false
set_option linter.all false
set_option maxRecDepth 100000
set_option maxHeartbeats 4000000
namespace M
open PySem PySem.Spec PyProof.Rows L2

structure ExcT (K : PySem.W.Frag) (mg : PySem.Str → Option Value) (x : PySem.Str) : Prop where
  ex : ∃ C, mg x = some (.ref C) ∧ PySem.W.excIn K C [.type "ValueError", .type "Exception", .type "BaseException", .type "object"] "ValueError.__new__" = true ∧ PySem.W.keepIn K (.ref C) = true ∧ PySem.W.subIn K (.ref C) (.type "BaseException") = some true ∧ PySem.W.typeIn K (.ref C) = some (.type "type") ∧ PySem.W.exmOne K (.ref C) (.ref C) = some true
theorem exm_self {K : PySem.W.Frag} {S : Addr} (h1 : PySem.W.subIn K (.ref S) (.type "BaseException") = some true) (h2 : PySem.W.isClsIn K S = true) (h3 : PySem.W.typeIn K (.ref S) = some (.type "type")) (h4 : PySem.W.subIn K (.ref S) (.ref S) = some true) :
    PySem.W.exmOne K (.ref S) (.ref S) = some true := by
  have e1 : (PySem.W.subIn K (.ref S) (.type "BaseException") == some true) = true := by rw [h1] <;> rfl
  have e2 : ((PySem.W.clsIn K S).isSome && PySem.W.typeIn K (.ref S) == some (.type "type")) = true := by
    have h2' : (PySem.W.clsIn K S).isSome = true := h2
    rw [h2', h3] <;> rfl
  show (if (PySem.W.subIn K (.ref S) (.type "BaseException") == some true) = true then (if ((PySem.W.clsIn K S).isSome && PySem.W.typeIn K (.ref S) == some (.type "type")) = true then PySem.W.subIn K (.ref S) (.ref S) else none) else none) = some true
  rw [if_pos e1, if_pos e2]
  exact h4
theorem exc_mk {K : PySem.W.Frag} {h : Heap} {mg : PySem.Str → Option Value} {x : PySem.Str} {C : Addr} (G : h.Ns mainGlobals mg) (X : K.In h) (a : PySem.W.nsIn K mainGlobals x = some (some (.ref C))) (q : PySem.W.excIn K C [.type "ValueError", .type "Exception", .type "BaseException", .type "object"] "ValueError.__new__" = true) (k : PySem.W.keepIn K (.ref C) = true)
    (h1 : PySem.W.subIn K (.ref C) (.type "BaseException") = some true) (h2 : PySem.W.isClsIn K C = true) (h3 : PySem.W.typeIn K (.ref C) = some (.type "type")) (h4 : PySem.W.subIn K (.ref C) (.ref C) = some true) : ExcT K mg x := ⟨C, PySem.W.mg_of X G a, q, k, h1, h3, exm_self h1 h2 h3 h4⟩
theorem def_mk {K : PySem.W.Frag} {h : Heap} {mg : PySem.Str → Option Value} {x : PySem.Str} {st : Stmt} {ps : List PySem.Str} {f : Addr} {oc : Value} {od an : Option Addr} {osl : Array (Option Value)} {kV doc pm cdv ct : Value} (G : h.Ns mainGlobals mg) (X : K.In h)
    (hb : ∀ (kV doc pm : Value) (an : Option Addr) (cdv ct : Value) (us : List Value), us.length = ps.length → bindArgs (PySem.W.fnOf x x (defArgs st) (defBody st) (defScope st) .none kV doc pm an cdv ct) ⟨us, []⟩ = pure (ps.zip us))
    (a : PySem.W.nsIn K mainGlobals x = some (some (.ref f))) (l : K.lookup f = some ⟨oc, od, .func (PySem.W.fnOf x x (defArgs st) (defBody st) (defScope st) .none kV doc pm an cdv ct), osl⟩) (c : PySem.W.codeIn K cdv x = true) (k : PySem.W.keepIn K (.ref f) = true) : Def K mg x st ps :=
  ⟨f, _, fun_mk l c k, (fun_mk l c k).binds hb, PySem.W.mg_of X G a⟩
/-- a whole number of the module -/
def CInt (mg : PySem.Str → Option Value) (x : PySem.Str) (i : Int) : Prop := ∃ t, mg x = some (.int i t)
theorem cint_mk {K : PySem.W.Frag} {h : Heap} {mg : PySem.Str → Option Value} {x : PySem.Str} {i : Int} {t : Tok} (G : h.Ns mainGlobals mg) (X : K.In h) (a : PySem.W.nsIn K mainGlobals x = some (some (.int i t))) : CInt mg x i := ⟨t, PySem.W.mg_of X G a⟩
/-- a tuple of whole numbers of the module -/
def CTup (K : PySem.W.Frag) (mg : PySem.Str → Option Value) (x : PySem.Str) (ns : List Int) : Prop := ∃ a, mg x = some (.ref a) ∧ ∀ F, SqT K F a (ns.map V.int)
section
variable {c : CM} {W : WX} {m mn mb mc : Md} {X : Cx} {e : Expr} {pos p p1 p2 p3 : Pos} {st : Stmt} {sts : List Stmt}
theorem e_cint {x : PySem.Str} {i : Int} (h : CInt X.mg x i) (hg : Gl X x) (hd : (x == ("__debug__" : PySem.Str)) = false := by decide) : E c W m X (.Name x pos) (eC (.int i)) := by
  obtain ⟨t, h⟩ := h
  exact e_c (pe_glob (v := .int i) hg h ⟨t, rfl⟩ hd) fun _ => .int i
theorem e_ctup {x : PySem.Str} {ns : List Int} (hk : X.K = c.K) (h : CTup X.K X.mg x ns) (hg : Gl X x) (hd : (x == ("__debug__" : PySem.Str)) = false := by decide) : E c W m X (.Name x pos) (eC (.tuple (ns.map .int))) := by
  obtain ⟨a, h, hs⟩ := h
  exact e_c (pe_glob (v := .ref a) hg h rfl hd) fun F => .tup (by rw [← hk]; exact hs F) (RpL.of_ints ns)
theorem s_raiseT {x mm : PySem.Str} {j : Nat} (T : ExcT X.K X.mg x) (hk : X.K = c.K) (hmg : X.mg = c.mg) (hc : X.calm = true) (tk : Takes X W) (hg : Gl X x)
    (hdb : (x == ("__debug__" : PySem.Str)) = false := by decide) : PS X (.Raise (some (.Call (.Name x p) [.Constant (.str mm) j p2] [] p3)) none pos) (TSD c W m mn mb mc (sRaise ⟨x, none⟩)) := by
  obtain ⟨C, g, q, k, h1, h2, h3⟩ := T.ex
  exact s_raise hk hmg hc tk PySem.F.excBase_ValueError q g k (raises_own h1 h2) hg hdb

/-! ### try: the body stores nothing -/
def PostX (c : CM) (W : WX) (m mb mc : Md) (F H : Hp) (σ : L2.St) (D' : Ends) : Res Fl → Prop
  | .exc e ω => ∀ F' H' cls dd, Xt c.b F H F' H' → BorOk c F' ω H' → RepX c e cls dd H' → W cls dd σ H'
  | r => PostS c W m mb mc F D' r
def GX (c : CM) (W : WX) (m mb mc : Md) (σ : L2.St) (D' : Ends) (F H : Hp) (r : Res Fl) : Prop := PostX c W m mb mc F H σ D' r
theorem GX.pg {σ : L2.St} {D' : Ends} : PGd c W σ (GX c W m mb mc σ D') where
  bad := fun _ _ h => h
  exc := fun F H e ω h => h
  mono := fun F H F1 H1 r x h => by
    cases r with
    | bad => exact h
    | exc e ω => exact fun F' H' cls dd y bo r => h F' H' cls dd (x.trans y) bo r
    | ok f ω => exact PostS.mono (r := .ok f ω) x.ff h
def TSX (c : CM) (W : WX) (m mb mc : Md) (d : Ev → MM Fl) : TS := fun D' σ H => ∃ F ρ ω, SR c m F ρ ω σ H ∧ PostX c W m mb mc F H σ D' (d ρ ω)
theorem xs_ret {d : Ev → MM D} (h : E c W m X e d) : PSs X [.Return (some e) pos] (TSX c W m mb mc (sRet d)) := PSsimp (pss_one (ps_ret h)) fun D' σ H ⟨F, ρ, ω, S, q⟩ =>
  ⟨F, ρ, ω, S, bindT S (GX.pg (D' := D')) (k := fun v w => .ok (.ret v) w) (show GX c W m mb mc σ D' F H _ from q) fun a F1 H1 w1 x1 S1 q1 x r1 => q1 F1 H1 x (Same.refl _) S1.fr r1⟩
theorem xs_expr {d : Ev → MM D} (h : E c W m X e d) (hs : swapsWith e none pos.line X.env = pure false := by rfl) : PSs X [.Expr e pos] (TSX c W m mb mc (sExpr d)) := PSsimp (pss_one (ps_expr h hs)) fun D' σ H ⟨F, ρ, ω, S, q⟩ =>
  ⟨F, ρ, ω, S, bindT S (GX.pg (D' := D')) (k := fun v w => .ok (.next ρ) w) (show GX c W m mb mc σ D' F H _ from q) fun a F1 H1 w1 x1 S1 q1 x r1 => q1 F1 σ H1 (Same.refl _) S1⟩
theorem xs_exprC {d : Ev → MM D} {d2 : Ev → MM Fl} (h : E c W m X e d) (h2 : PSs X sts (TSX c W m mb mc d2)) (hs : swapsWith e none pos.line X.env = pure false := by rfl) : PSs X (.Expr e pos :: sts) (TSX c W m mb mc (sSeq (sExpr d) d2)) := PSsimp (pss_cons (ps_expr h hs) h2) fun D' σ H ⟨F, ρ, ω, S, q⟩ => by
  refine ⟨F, ρ, ω, S, ?_⟩
  unfold sSeq sExpr at q
  have q' : GX c W m mb mc σ D' F H ((d ρ ω).bind fun _ w => d2 ρ w) := by
    cases hd : d ρ ω with
    | _ => simpa [GX, hd] using q
  exact bindT S GX.pg q' fun a F1 H1 w1 x1 S1 q1 x r1 => ⟨F1, ρ, w1, S1, q1⟩
theorem xs_if {t : Expr} {p4 : Pos} {dt : Ev → MM Bool} {d : Ev → MM D} {d2 : Ev → MM Fl} (ht : B c W m X t dt) (h : E c W m X e d) (h2 : PSs X sts (TSX c W m mb mc d2)) : PSs X (.If t [.Return (some e) p4] [] pos :: sts) (TSX c W m mb mc (sSeq (sIf dt (sRet d) sNext) d2)) := PSsimp (pss_cons (ps_if ht (pss_one (ps_ret h)) pss_nil) h2) fun D' σ H ⟨F, ρ, ω, S, q⟩ => by
  refine ⟨F, ρ, ω, S, ?_⟩
  unfold sSeq sIf sRet sNext at q
  have q' : GX c W m mb mc σ D' F H ((dt ρ ω).bind fun b w => match b with
      | true => (d ρ w).bind fun v w => .ok (.ret v) w
      | false => d2 ρ w) := by
    cases hd : dt ρ ω with
    | ok b w => cases b with
      | true => cases hd2 : d ρ w <;> simpa [GX, hd, hd2] using q
      | false => simpa [GX, hd] using q
    | _ => simpa [GX, hd] using q
  refine bindT S GX.pg q' fun b F1 H1 w1 x1 S1 q1 => ?_
  cases b with
  | true => exact iteT ⟨F1, ρ, w1, S1, bindT S1 GX.pg q1 fun a F2 H2 w2 x2 S2 q2 x r2 => q2 F2 H2 x (Same.refl _) S2.fr r2⟩
  | false => exact iteF ⟨F1, ρ, w1, S1, q1⟩
def sTry (x : PySem.Str) (db ds : Ev → MM Fl) : Ev → MM Fl := fun ρ ω => match db ρ ω with
  | .exc e w => if e.name = x then noX (ds ρ w) else .bad
  | r => r
theorem s_try {x : PySem.Str} {body suite : List Stmt} {b0 : Stmt} {np pos' : Pos} {db ds : Ev → MM Fl} (T : ExcT X.K X.mg x) (hk : X.K = c.K) (hmg : X.mg = c.mg) (hs : X.stack = X.env :: X.outer) (hf : X.env.frame = some X.env.locals) (hg : Gl X x)
    (hb : ∀ (W : WX) (pn : List (Addr × Obj)) (xe : Value → Shared → Prop), Takes (X.tr pn xe) W → PSs (X.tr pn xe) body (TSX c W m mb mc db))
    (hsu : ∀ (a : Addr) (oe : Obj) (pn : List (Addr × Obj)), PSs (X.suite a ((a, oe) :: pn)) (b0 :: suite) (TSD c W0 m m mb mc ds)) (tk : Takes X (fun _ _ _ _ => False)) (hdb : (x == ("__debug__" : PySem.Str)) = false := by decide) :
    PS X (.Try body [.ExceptHandler (some (.Name x np)) none (b0 :: suite) pos'] [] [] pos) (TSD c W m m mb mc (sTry x db ds)) := by
  obtain ⟨C, g, q, k, h1, h2, h3⟩ := T.ex
  refine PSimp (ps_try_only (c := .ref C) (tb := fun W => TSX c W m mb mc db) (ts := fun _ _ _ => TSD c W0 m m mb mc ds) (Wout := fun _ _ _ _ => False) hs hf ⟨hg, hdb, .inl g⟩ tk (fun W pn xe tk _ => hb W pn xe tk) (fun a oe cls d pn _ _ => hsu a oe pn)) fun D' σ H ⟨F, ρ, ω, S, q⟩ => ?_
  refine ⟨F, ρ, ω, S, ?_⟩
  unfold sTry at q
  cases hd : db ρ ω with
  | bad => rw [hd] at q; exact q
  | ok f w =>
    rw [hd] at q
    cases f with
    | next _ => exact q
    | ret _ => exact q
    | brk _ => exact q
    | cont _ => exact q
  | exc e w =>
    rw [hd] at q
    simp only at q
    split at q
    · rename_i en
      intro F' H' cls dd xt bo rx
      obtain ⟨C', g', hcls, _⟩ := rx
      rw [en, ← hmg, g] at g'
      cases g'
      subst hcls
      refine ⟨true, h3, fun _ a _ => ⟨F', ρ, w, S.step xt bo, ?_⟩, fun z => by cases z⟩
      have q' := q.mono xt.ff
      cases hd2 : ds ρ w with
      | bad => rw [hd2] at q'; exact q'
      | ok f w => rw [hd2] at q'; cases f <;> exact q'
      | exc e2 w => rw [hd2] at q'; exact q'.elim
    · exact q.elim
end
end M

set_option Elab.async false
set_option linter.all false
set_option maxRecDepth 100000
set_option maxHeartbeats 4000000
namespace L2
open PySem PySem.Spec PyProof.Rows
section
variable {P : Program} {w : World} {A : Around} {E : Value → Shared → Prop} {s : Shared}
abbrev oSet0 (w : World) : Obj := { cls := .type "set", dict := none, data := .set #[] 0 (.fresh 0 0 (!w.params.followText "set-order")) }
theorem call_set_lstI {l : Addr} {items : Array Value} (ns : List Int) {Q : Value → Shared → Prop} (hh : A.handled = none) (hl : s.heap.IsList l items) (hit : IntsAre items.toList ns) (hb : ns.length + 1 < scanBound)
    (h : ∀ (h' : Heap) (tk c : Nat), SetR w h' s.heap.objs.size (fun j => decide (j ∈ ns)) c → c ≤ ns.length → (∀ b o, s.heap.get? b = some o → h'.get? b = some o) → Q (.ref s.heap.objs.size) { s with heap := h', toks := tk }) :
    wpAny (model P w) A (call (.type "set") [.ref l]) Q E s := by
  have hisz : items.size = ns.length := by
    have q := IntsAre.length hit
    rw [Array.length_toList] at q
    exact q
  obtain ⟨c, tl, hmro⟩ := F.called_set.mro
  have hmade := F.called_set.made
  have hsub := F.called_set.sub
  refine wpAny_call (codeAny_of_tree ?_)
  show wpAny _ _ (callAny (.type "set") _) _ _ _
  refine wpAny_pure ⟨Code.quiet_builtin _ (by decide +kernel), codeAny_builtin F.entry_type_call ?_⟩
  rw [Around.under_plain (weight_type_call_type "set" [.ref l] []) rfl]
  have h1 := F.called_set.notType
  have h2 := F.called_set.canCreate
  have hct := F.typeCall_set_1 (.ref l)
  repeat (any_goals (first | assumption | wp_step))
  refine codeAny_mono (code_set_led1 (.ref l) (E := E) (Q₁ := fun obj s₁ => obj = .ref s.heap.objs.size ∧ s₁ = { s with heap := s.heap.push (oSet0 w) }) ⟨rfl, rfl⟩) fun r s₁ hr => ?_
  cases r with
  | error e => exact hr
  | ok fl =>
    cases fl with
    | ret obj =>
      obtain ⟨rfl, rfl⟩ := hr
      have hS : (s.heap.push (oSet0 w)).get? s.heap.objs.size = some (oSet0 w) := Heap.get?_push_size _ rfl
      have hT : Shared.TypeIs { s with heap := s.heap.push (oSet0 w) } (.ref s.heap.objs.size) "set" := ⟨_, hS, rfl⟩
      have hli := F.called_set.init.lookup
      have hbi := F.called_set.init.bind (.ref s.heap.objs.size)
      repeat (any_goals (first | assumption | wp_step))
      refine codeAny_mono (codeAny_call_builtin (R := wants (fun r s₂ => r = .none ∧ ∃ h' tk c, s₂ = { s with heap := h', toks := tk } ∧ SetR w h' s.heap.objs.size (fun j => decide (j ∈ ns)) c ∧ c ≤ ns.length ∧
          (∀ b o, s.heap.get? b = some o → h'.get? b = some o)) E) F.called_set.init.plain F.entry_set_init (check_set_init_1 hT ?_)) fun r₂ s₂ hr₂ => ?_
      · obtain ⟨ol, hol, hcl, nl, hdl⟩ := hl
        obtain ⟨ocls, odict, odata, oslots⟩ := ol
        simp only at hcl hdl
        subst hcl; subst hdl
        have hol' : (s.heap.push (oSet0 w)).get? l = some { cls := .type "list", dict := odict, data := .seq items nl, slots := oslots } := Heap.get?_push_of_some _ hol
        have hsls := F.sub_list_set
        have hslf := F.sub_list_frozenset
        have hne : (Value.type "list" == Value.type "dict") = false := by decide
        have hl1 : (s.heap.push (oSet0 w)).IsList l items := ⟨_, hol', rfl, nl, rfl⟩
        unfold Builtin.«set.__init__» noKeywords Builtin.Frozenset.updateFrom
        generalize hPI : pyIter = PI
        wp_walk
        subst hPI
        refine wpAny_pyIter_list hl1 ?_
        refine wpAny_bind (wpAny_runValue ?_)
        have hlS : l < s.heap.objs.size := Heap.lt_size hol
        have hh3 : A.in1.in1.in1.handled = none := by simp [hh]
        have hneI : l ≠ (s.heap.push (oSet0 w)).objs.size := by
          rw [Heap.size_push]; exact Nat.ne_of_lt (Nat.lt_succ_of_lt hlS)
        have hSf : s.heap.objs.size ∉ [(s.heap.push (oSet0 w)).objs.size, l] := by
          rw [Heap.size_push]; simp only [List.mem_cons, List.mem_singleton, List.not_mem_nil, or_false, not_or]
          exact ⟨Nat.ne_of_lt (Nat.lt_succ_self _), Nat.ne_of_gt hlS⟩
        have hval : ∀ (i : Nat) (v : Value), items[i]? = some v → ∃ k t, ns[i]? = some k ∧ v = .int k t := fun i v hv => by
          have hi : i < ns.length := by rw [← hisz]; exact (Array.getElem?_eq_some_iff.mp hv).1
          obtain ⟨t, e⟩ := PyProof.Rows.IntsAre.int_at hit i v (by rw [Array.getElem?_toList]; exact hv)
          refine ⟨ns[i], t, List.getElem?_eq_getElem hi, ?_⟩
          rw [e, List.getD_eq_getElem?_getD, List.getElem?_eq_getElem hi] <;> rfl
        refine set_update_ints ((Walks.list hh3 _ l hneI items).toS) s.heap.objs.size
          hSf ns hisz hb hval (items.size - 0) 0 _ (by omega) (Nat.zero_le _)
          ⟨⟨_, Heap.get?_push_size _ rfl, rfl, rfl⟩, (hl1.push _)⟩ ?hS0 ?hR
        case hS0 =>
          have hget : ((s.heap.push (oSet0 w)).push { cls := .type "list_iterator", data := .fields #[.ref l, .int 0 0] }).get? s.heap.objs.size = some (oSet0 w) := Heap.get?_push_of_some _ hS
          exact ⟨0, Nat.le_refl 0, setR_new_at hget⟩
        case hR =>
          intro s' c' hm hc' hS'
          obtain ⟨h', g2, d', tk', os'⟩ := s'
          have eg : g2 = s.gens := hm.gens
          have ed : d' = s.drawn := hm.drawn
          have eo : os' = s.os := hm.os
          subst eg; subst ed; subst eo
          show wpAny _ _ _ _ _ _
          refine wpAny_pure ?_
          show wpAny _ _ (ret Value.none) _ _ _
          rw [hisz] at hc'
          refine wpAny_pure ⟨rfl, h', tk', c', rfl, hS', hc', fun b o e => ?_⟩
          have hb0 : b < s.heap.objs.size := Heap.lt_size e
          have hb1 : b ≠ s.heap.objs.size := Nat.ne_of_lt hb0
          have hb2 : b ≠ (s.heap.push (oSet0 w)).objs.size := by
            rw [Heap.size_push]; exact Nat.ne_of_lt (Nat.lt_succ_of_lt hb0)
          exact hm.heap b o (by simp only [List.mem_cons, List.mem_singleton, List.not_mem_nil, or_false, not_or]; exact ⟨hb1, hb2⟩) (Heap.get?_push_of_some _ (Heap.get?_push_of_some _ e))
      · cases r₂ with
        | error e => exact hr₂
        | ok fl₂ =>
          cases fl₂ with
          | ret r =>
            obtain ⟨rfl, h', tk, c', rfl, hS', hc', hk'⟩ := hr₂
            repeat (any_goals (first | assumption | wp_step))
            exact h _ _ _ hS' hc' hk'
          | _ => exact hr₂.elim
    | _ => exact hr.elim
end
/-- sorted(s), a set of any size -/
theorem sorted_setG {P : Program} {w : World} {A : Around} {E : Value → Shared → Prop} {s : Shared} {a : Addr} {S : Int → Bool} {n : Nat} {Q : Value → Shared → Prop} (R : SetR w s.heap a S n) (hh : A.handled = none)
    (hQ : ∀ s' p (out : Array Value) (c : Nat) (ns : List Int), (∀ b o, s.heap.get? b = some o → s'.heap.get? b = some o) → s'.gens = s.gens → s'.os = s.os → s.heap.objs.size ≤ p →
      s'.heap.get? p = some (seqObj "list" out c) → IntsAre out.toList ns → ns.Pairwise (· < ·) → (∀ k, k ∈ ns ↔ S k = true) → ns.length = n → Q (.ref p) s') :
    wpAny (model P w) A (call (.builtin "sorted") [.ref a]) Q E s := by
  obtain ⟨o, es, ep, t, ho, hex, hd, g, nd, hm, hb, hf, hn, hr, hl⟩ := R
  refine Calls.call_function_entry kind_sorted plain_sorted entry_sorted (args_sorted1 _) ?_
  unfold Builtin.«sorted»
  refine wpAny_bind (m := checkCount "sorted" 1 1 _) (wpAny_pure ?_)
  refine wpAny_bind (collect_set (A := A.in1) hh ⟨o, ho, hex.1, hd⟩ hf hb hr hl fun s1 vs k1 hz g1 o1 pm => ?_)
  have hvl : vs.length = n := by rw [pm.length_eq, List.length_map, Array.length_toList]; exact hn
  have hI : IntsAre vs (vs.map Builtin.Re.reRawOf) := ints_of vs fun v hv => by
    obtain ⟨e, he, q⟩ := List.mem_map.mp (pm.mem_iff.mp hv)
    obtain ⟨k, tk, h1, _⟩ := g e he
    exact ⟨k, tk, by rw [← q]; exact h1⟩
  have pk : (vs.map Builtin.Re.reRawOf).Perm (es.toList.map keyOf) := by
    have q := pm.map Builtin.Re.reRawOf
    rw [List.map_map] at q
    exact q
  have hsz : vs.length ≤ sizeLine := by rw [hvl, ← hn]; exact fits_of_scanBound hb
  refine wpAny_bind (wpAny_newList ?_ hsz)
  have hoL : (s1.heap.push (seqObj "list" vs.toArray 0)).get? s1.heap.objs.size = some (seqObj "list" vs.toArray 0) := Heap.get?_push_size _ rfl
  refine wpAny_bind (wpAny_holding (wpAny_call_entry slot_list_sort ⟨_, hoL, rfl⟩ entry_list_sort (SrtO.list_sort_ord SrtO.swo_int hoL hsz (fun h2 => SrtO.ints_sortable hI h2) fun out hs hst => ⟨_, rfl, ?_⟩) (args_list_sort _)))
  obtain ⟨b1, b2, b3⟩ := SrtO.ints_out hI hs hst
  obtain ⟨c, hc⟩ := sortedHeap_at (vs := vs) (out := out.toArray) hoL
  have pn : (out.map SrtO.iv).Perm (es.toList.map keyOf) := b2.trans pk
  refine wpAny_pure ⟨_, rfl, hQ _ s1.heap.objs.size out.toArray c _ (fun b u e => ?_) g1 o1 hz hc b1 (lt_of_le_nodup _ b3 (pn.nodup_iff.mpr nd)) (fun k => by rw [pn.mem_iff, ← hm k]) ?_⟩
  · have q := k1 b u e
    have hlt := Heap.lt_size q
    show (sortedHeap (s1.heap.push (seqObj "list" vs.toArray 0)) s1.heap.objs.size vs out.toArray).get? b = some u
    rw [sortedHeap_old (Nat.ne_of_lt hlt) (by rw [size_push']; exact Nat.lt_succ_of_lt hlt)]
    exact Heap.get?_push_of_some _ q
  · rw [pn.length_eq, List.length_map, Array.length_toList]; exact hn
end L2
namespace M
open PySem PySem.Spec PyProof.Rows L2
/-! ### sorted(set(xs)), len(set(xs)) of ints -/
def insU (x : Int) : List Int → List Int
  | [] => [x]
  | y :: r => if x < y then x :: y :: r else if x = y then y :: r else y :: insU x r
def sortU : List Int → List Int
  | [] => []
  | x :: r => insU x (sortU r)
theorem mem_insU (x k : Int) : ∀ l, k ∈ insU x l ↔ k = x ∨ k ∈ l
  | [] => by simp [insU]
  | y :: r => by
    unfold insU
    split
    · simp
    · split
      · rename_i h; subst h; simp
      · simp only [List.mem_cons, mem_insU x k r]
        constructor
        · rintro (h | h | h) <;> simp [h]
        · rintro (h | h | h) <;> simp [h]
theorem mem_sortU (k : Int) : ∀ l, k ∈ sortU l ↔ k ∈ l
  | [] => by simp [sortU]
  | x :: r => by simp [sortU, mem_insU, mem_sortU k r]
theorem insU_lt (x : Int) : ∀ {l : List Int}, l.Pairwise (· < ·) → (insU x l).Pairwise (· < ·)
  | [], _ => by simp [insU]
  | y :: r, h => by
    unfold insU
    rw [List.pairwise_cons] at h
    split
    · rename_i hxy
      refine List.pairwise_cons.mpr ⟨fun z hz => ?_, List.pairwise_cons.mpr h⟩
      rcases List.mem_cons.mp hz with rfl | hz
      · exact hxy
      · exact Int.lt_trans hxy (h.1 z hz)
    · split
      · exact List.pairwise_cons.mpr h
      · refine List.pairwise_cons.mpr ⟨fun z hz => ?_, insU_lt x h.2⟩
        rcases (mem_insU x z r).mp hz with rfl | hz
        · omega
        · exact h.1 z hz
theorem sortU_lt : ∀ l, (sortU l).Pairwise (· < ·)
  | [] => .nil
  | x :: r => insU_lt x (sortU_lt r)
theorem lt_ext : ∀ {l l' : List Int}, l.Pairwise (· < ·) → l'.Pairwise (· < ·) → (∀ k, k ∈ l ↔ k ∈ l') → l = l'
  | [], [], _, _, _ => rfl
  | [], y :: r, _, _, h => absurd ((h y).mpr (by simp)) (by simp)
  | x :: r, [], _, _, h => absurd ((h x).mp (by simp)) (by simp)
  | x :: r, y :: t, h1, h2, h => by
    rw [List.pairwise_cons] at h1 h2
    have e : x = y := by
      have a := (h x).mp (by simp)
      have b := (h y).mpr (by simp)
      rcases List.mem_cons.mp a with a | a
      · exact a
      · rcases List.mem_cons.mp b with b | b
        · exact b.symm
        · have := h1.1 y b; have := h2.1 x a; omega
    subst e
    refine congrArg _ (lt_ext h1.2 h2.2 fun k => ?_)
    have hk := h k
    constructor
    · intro m
      rcases List.mem_cons.mp (hk.mp (by simp [m])) with z | z
      · subst z; have := h1.1 k m; omega
      · exact z
    · intro m
      rcases List.mem_cons.mp (hk.mpr (by simp [m])) with z | z
      · subst z; have := h2.1 k m; omega
      · exact z
def setOk (n : Nat) : Prop := n + 1 < scanBound
instance (n : Nat) : Decidable (setOk n) := by unfold setOk; infer_instance
def fSortSet : List D → Option D
  | [.list xs] => (intsOf xs).bind fun ns => if setOk ns.length then some (.list ((sortU ns).map .int)) else none
  | _ => none
def fLenSet : List D → Option D
  | [.list xs] => (intsOf xs).bind fun ns => if setOk ns.length then some (.int (sortU ns).length) else none
  | _ => none
def rSetL (w : World) (K : PySem.W.Frag) : List V → Hp → VK → Prop := fun vs H Q => ∃ (a : Addr) (ns : List Int), vs = [V.ref a] ∧ SqL K H a (ns.map V.int) ∧ setOk ns.length ∧ ∀ p c, H p = none → Q (.ref p) (upd H p (SetO w p (fun j => decide (j ∈ ns)) c))
theorem cr_setL {X : Cx} (hc : X.calm = true) : CallR X (.type "set") (rSetL X.w X.K) := by
  intro pins s σ H vs us Q I r h
  obtain ⟨a, ns, rfl, hs, hz, q⟩ := h
  obtain ⟨its, rv, hl, _⟩ := I.list hs
  rw [Vals.ref1 r]
  have hi : IntsAre its.toArray.toList ns := rv.ints
  refine call_set_lstI ns (I.ok.hd hc) hl.isList hi hz fun h' tk c R hcn k => ?_
  have hn := I.hok.fresh (Nat.le_refl s.heap.objs.size)
  exact ⟨.ref _, _, I.laid (t' := tk) k (Nat.le_refl _) (setO_new R), rfl, q _ c hn⟩
def rSortedSetG (w : World) : List V → Hp → VK → Prop := fun vs H Q => ∃ (a : Addr) (S : Int → Bool) (n : Nat), vs = [V.ref a] ∧ H a = some (SetO w a S n) ∧
  ∀ (ns : List Int) (p : Addr), ns.Pairwise (· < ·) → (∀ k : Int, k ∈ ns ↔ S k = true) → H p = none → Q (.ref p) (upd H p (.lst (ns.map V.int)))
theorem cr_sortedSetG {X : Cx} (hc : X.calm = true) : CallR X (.builtin "sorted") (rSortedSetG X.w) := by
  intro pins s σ H vs us Q I r h
  obtain ⟨a, S, n, rfl, ha, q⟩ := h
  have R := setO_get I ha
  rw [Vals.ref1 r]
  have hnb : n ≤ sizeLine := by
    obtain ⟨o, es, ep, t, ho, hex, hd, g, nd, hm, hb, hf, hn, hr, hl⟩ := R
    rw [← hn]; exact fits_of_scanBound hb
  refine sorted_setG R (I.ok.hd hc) fun s' p out c ns k g o hp hg hi hs hm hl => ?_
  have hlen : (ns.map V.int).length ≤ sizeLine := by rw [List.length_map, hl]; exact hnb
  have hn : H p = none := I.hok.fresh hp
  have J : Inv X pins σ (upd H p (.lst (ns.map V.int))) { s with heap := s'.heap, gens := s'.gens, drawn := s'.drawn, toks := s'.toks } :=
    I.call (ch := []) (Un.laid k hp hn) (I.hok.laid k hp ⟨hlen, out.toList, c, vals_of_ints hi, hg⟩) (by rw [g]; exact I.bare) (fun _ z => nomatch z)
  have e : s' = { s with heap := s'.heap, gens := s'.gens, drawn := s'.drawn, toks := s'.toks } := by
    cases s'
    cases s
    cases o
    rfl
  rw [e]
  exact ⟨.ref p, _, J, rfl, q ns p hs hm hn⟩
section
variable {c : CM} {W : WX} {m : Md} {X : Cx} {a : Expr} {pos p p2 p3 : Pos}
theorem e_sortedSet {d : Ev → MM D} (hk : X.K = c.K) (hc : X.calm = true) (hg : Gl X "sorted") (hm : X.mg "sorted" = none) (hg2 : Gl X "set") (hm2 : X.mg "set" = none) (ha : E c W m X a d)
    (h1 : starEach [a] X.env = (false, eval a X.env) :: starEach [] X.env := by rfl)
    (h2 : starEach [.Call (.Name "set" p2) [a] [] p3] X.env = (false, eval (.Call (.Name "set" p2) [a] [] p3) X.env) :: starEach [] X.env := by rfl) :
    E c W m X (.Call (.Name "sorted" p) [.Call (.Name "set" p2) [a] [] p3] [] pos) (eArgs fSortSet (aCons d aNil)) := by
  have hs : PE X (.Call (.Name "set" p2) [a] [] p3) (tCB (rSetL X.w X.K) (tCons (TD c W m d) tNil)) := pe_callTy (cr_setL hc) hg2 hm2 boot_set (pa_cons ha pa_nil h1) (by decide) (by decide) h1 rfl
  refine PEimp (pe_callB (cr_sortedSetG hc) hg hm boot_sorted (pa_cons hs pa_nil h2) (by decide) (by decide) h2 rfl) fun σ H Q ⟨F, ρ, ω, S, q⟩ => ?_
  have q' : Post c W F H σ (fun v F' H' _ => ∀ x, Rp c.K F' x v → Q x H') ((d ρ ω).bind fun v w => ofO (fSortSet [v]) w) := by
    unfold eArgs aCons aNil at q
    cases hd : d ρ ω <;> simpa [hd] using q
  refine ⟨F, ρ, ω, S, bindT S Post.pg q' fun v F1 H1 w1 x1 S1 q1 x r1 => ?_⟩
  obtain ⟨z, e1, q3⟩ := post_ofO S1.fh S1.bo q1
  cases r1 with
  | lst g1 g2 =>
    simp only [fSortSet, Option.bind_eq_some_iff, Option.ite_none_right_eq_some, Option.some.injEq] at e1
    obtain ⟨ns, e2, e3, rfl⟩ := e1
    rw [intsOf_eq e2] at g2
    rw [g2.ints] at g1
    refine ⟨_, ns, rfl, SqL.of (S1.fh _ _ g1), e3, fun p0 c0 np => ?_⟩
    refine ⟨p0, _, c0, rfl, upd_same, fun ms p1 k1 k2 np1 => ?_⟩
    have x2 : Xt none F1 H1 F1 (upd H1 p0 (SetO X.w p0 (fun j => decide (j ∈ ns)) c0)) := Xt.alloc0 S1.fh np
    have : ms = sortU ns := lt_ext k1 (sortU_lt ns) fun k => by rw [k2 k, mem_sortU]; simp
    subst this
    exact rp_new_lst x2.fh np1 (RpL.of_ints _) fun F' H' z' xt rz => q3 F' H' (x2.trans xt) z' rz
  | _ => simp [fSortSet] at e1
end
end M

set_option Elab.async false
set_option linter.all false
set_option maxRecDepth 100000
set_option maxHeartbeats 4000000
namespace M
open PySem PySem.Spec PyProof.Rows L2
/-! ### isinstance -/
def isiT (t T : String) : Bool := t == T || (t == "bool" && T == "int")
def tyD : D → Option String
  | .none => some "NoneType"
  | .bool _ => some "bool"
  | .int _ => some "int"
  | .str _ => some "str"
  | .list _ => some "list"
  | .tuple _ => some "tuple"
  | .dict _ => none
def fIsi (T : String) (d : D) : Option D := (tyD d).map fun t => .bool (isiT t T)
theorem ty_of {K : PySem.W.Frag} {F H : Hp} (s : Same F H) : ∀ {d : D} {x : V} {t : String}, Rp K F x d → tyD d = some t → TyX K H x (.type t)
  | .none, _, _, h, e => by cases h; cases e; exact .base .non
  | .bool b, _, _, h, e => by cases h; cases e; exact .base (.bl b)
  | .int i, _, _, h, e => by cases h; cases e; exact .base (.int i)
  | .str z, _, _, h, e => by cases h; cases e; exact .base (.str z)
  | .list ds, _, _, h, e => by
    cases h with
    | lst h1 h2 => cases e; exact .base (.lst (s _ _ h1))
  | .tuple ds, _, _, h, e => by
    cases h with
    | tup h1 h2 =>
      cases e
      rcases h1 with (h | ⟨o, h⟩) | ⟨o, its, n, h, hc, _⟩
      · exact .base (.tup (s _ _ h))
      · exact .fTuple (s _ _ h)
      · exact .kTuple h hc
  | .dict _, _, _, h, e => by cases h
/-- the classes that are asked for -/
def TyOk (T : String) : Prop := ∀ t ∈ ["NoneType", "bool", "int", "str", "list", "tuple"], kitB t T = some (isiT t T)
theorem tyOk_int : TyOk "int" := by unfold TyOk; decide +kernel
theorem tyOk_bool : TyOk "bool" := by unfold TyOk; decide +kernel
theorem tyOk_str : TyOk "str" := by unfold TyOk; decide +kernel
theorem tyOk_list : TyOk "list" := by unfold TyOk; decide +kernel
theorem tyOk_tuple : TyOk "tuple" := by unfold TyOk; decide +kernel
theorem tyD_mem {d : D} {t : String} (h : tyD d = some t) : t ∈ ["NoneType", "bool", "int", "str", "list", "tuple"] := by
  cases d <;> simp [tyD] at h <;> subst h <;> simp
section
variable {c : CM} {W : WX} {m : Md} {X : Cx} {e : Expr} {pos p p2 : Pos}
theorem e_isi {y : PySem.Str} {T : String} {d : Ev → MM D} (hT : TyOk T) (hk : X.K = c.K) (hg : Gl X "isinstance") (hm : X.mg "isinstance" = none) (hg2 : Gl X y) (hm2 : X.mg y = none) (hv2 : bootBuiltins y = some (.type T)) (h : E c W m X e d)
    (hn : y ≠ "__name__" := by decide) (hd : (y == ("__debug__" : PySem.Str)) = false := by decide)
    (hs1 : starEach [e, .Name y p2] X.env = (false, eval e X.env) :: starEach [.Name y p2] X.env := by rfl) (hs2 : starEach [.Name y p2] X.env = (false, eval (.Name y p2) X.env) :: starEach [] X.env := by rfl)
    (hpl : (backTo pos (starEach [.Name y p2] X.env)).any (·.1) = false := by rfl) : E c W m X (.Call (.Name "isinstance" p) [e, .Name y p2] [] pos) (eUn (fIsi T) d) :=
  PEimp (pe_callB call_isi hg hm boot_isinstance (pa_cons h (pa_cons (pe_bltn hg2 hm2 hv2 (v := .ty T) rfl hn hd) pa_nil hs2) hs1) (by decide) (by decide) hs1 hpl) fun σ H Q ⟨F, ρ, ω, S, q⟩ =>
    ⟨F, ρ, ω, S, bindT S Post.pg q fun a F1 H1 w1 x1 S1 q1 v r => by
      obtain ⟨z, e1, q3⟩ := post_ofO S1.fh S1.bo q1
      show rIsi X.K [v, .ty T] H1 Q
      unfold fIsi at e1
      cases ht : tyD a with
      | none => rw [ht] at e1; exact nomatch e1
      | some t =>
        rw [ht] at e1
        cases e1
        refine ⟨v, .ty T, .type t, .type T, _, rfl, .ty T, ?_, kit_ty (hT t (tyD_mem ht)), q3 _ _ (Xt.refl S1.fh) _ (.bl _)⟩
        exact ty_of S1.fh (by rw [hk]; exact r) ht⟩
end
@[simp] theorem fIsi_none (T : String) : fIsi T .none = some (.bool (isiT "NoneType" T)) := (rfl)
@[simp] theorem fIsi_bool (T : String) (b : Bool) : fIsi T (.bool b) = some (.bool (isiT "bool" T)) := (rfl)
@[simp] theorem fIsi_int (T : String) (b : Int) : fIsi T (.int b) = some (.bool (isiT "int" T)) := (rfl)
@[simp] theorem fIsi_str (T : String) (b : PySem.Str) : fIsi T (.str b) = some (.bool (isiT "str" T)) := (rfl)
@[simp] theorem fIsi_list (T : String) (b : List D) : fIsi T (.list b) = some (.bool (isiT "list" T)) := (rfl)
@[simp] theorem fIsi_tuple (T : String) (b : List D) : fIsi T (.tuple b) = some (.bool (isiT "tuple" T)) := (rfl)
/-! ### a tuple of whole numbers of the module -/
def valsB : List Value → List Int → Bool
  | [], [] => true
  | .int i _ :: vs, n :: ns => i == n && valsB vs ns
  | _, _ => false
theorem valsB_ok : ∀ {vs : List Value} {ns : List Int}, valsB vs ns = true → Vals (ns.map V.int) vs
  | [], [], _ => .nil
  | .int i t :: vs, n :: ns, h => by
    simp only [valsB, Bool.and_eq_true, beq_iff_eq] at h
    obtain ⟨rfl, h⟩ := h
    exact .cons ⟨t, rfl⟩ (valsB_ok h)
  | [], _ :: _, h => nomatch h
  | .int _ _ :: _, [], h => nomatch h
  | .none :: _, [], h => nomatch h
  | .none :: _, _ :: _, h => nomatch h
def tupB (o : Obj) (ns : List Int) : Bool := o.cls == .type "tuple" && match o.data with
  | .seq its _ => valsB its.toList ns && decide (its.size ≤ sizeLine)
  | _ => false
theorem ctup_mk {K : PySem.W.Frag} {h : Heap} {mg : PySem.Str → Option Value} {x : PySem.Str} {ns : List Int} {a : Addr} {o : Obj} (G : h.Ns mainGlobals mg) (X : K.In h) (h1 : PySem.W.nsIn K mainGlobals x = some (some (.ref a))) (h2 : K.lookup a = some o) (h3 : tupB o ns = true) : CTup K mg x ns := by
  refine ⟨a, PySem.W.mg_of X G h1, fun F => .inr ?_⟩
  unfold tupB at h3
  rw [Bool.and_eq_true] at h3
  obtain ⟨hc, hd⟩ := h3
  cases e : o.data with
  | seq its n =>
    rw [e] at hd
    rw [Bool.and_eq_true] at hd
    exact ⟨o, its, n, h2, by simpa using hc, e, of_decide_eq_true hd.2, valsB_ok hd.1⟩
  | _ => rw [e] at hd; exact nomatch hd
end M

set_option Elab.async false
set_option linter.all false
set_option maxRecDepth 100000
set_option maxHeartbeats 4000000
namespace M
open PySem PySem.Spec PyProof.Rows L2 PySem.W
/-! ### enumerate of a tuple -/
abbrev enumO (a : Addr) : Obj := ⟨.type "enumerate", none, .fields #[Value.none, Value.bool false, Value.ref a, rawInt 0, Value.none, Value.none], #[]⟩
theorem enum_new1 {v : Value} {o : Obj} {H : Heap → Prop} (B : Begins v o H) :
    Meets (Builtin.«enumerate.__new__» ⟨[.type "enumerate", v], []⟩) (fun _ R s => H s.heap ∧ R (.ok (.ret (.ref (s.heap.push o).objs.size))) { s with heap := (s.heap.push o).push (enumO s.heap.objs.size) }) :=
  .of_wp fun P w A R s ⟨h1, h⟩ => by
    obtain ⟨hp, g, d, tk, os⟩ := s
    have hsub := sub_enumerate
    have go : ∀ {A1 : Around} {E1 : Value → Shared → Prop} {Q1 : Value → Shared → Prop}, Q1 (.ref hp.objs.size) ⟨hp.push o, g, d, tk, os⟩ → wpAny (model P w) A1 (pyIter v) Q1 E1 ⟨hp, g, d, tk, os⟩ := fun q => B.iter _ _ _ _ _ _ h1 q
    wp_walk using go
    refine wpAny_stack_any fun st => wpAny_pure ?_
    split
    · rename_i cl _ _ _ _ _
      cases (cl == Value.type "enumerate") <;> (wp_walk using go; exact ⟨_, rfl, h⟩)
    · wp_walk using go; exact ⟨_, rfl, h⟩
theorem enum_call1 {P : Program} {w : World} {A : Around} {E : Value → Shared → Prop} {s : Shared} {v : Value} {o : Obj} {H : Heap → Prop} {Q : Value → Shared → Prop} (B : Begins v o H) (h1 : H s.heap)
    (h : ∀ h2, IsEnum h2 (s.heap.objs.size + 1) s.heap.objs.size 0 .none → h2.get? s.heap.objs.size = some o → (∀ b q, s.heap.get? b = some q → h2.get? b = some q) → Q (.ref (s.heap.objs.size + 1)) { s with heap := h2 }) :
    wpAny (model P w) A (call (.type "enumerate") [v]) Q E s := by
  have e1 : (s.heap.push o).objs.size = s.heap.objs.size + 1 := Heap.size_push _ _
  have e2 : IsEnum ((s.heap.push o).push (enumO s.heap.objs.size)) (s.heap.objs.size + 1) s.heap.objs.size 0 .none := by
    have q := Heap.get?_push_size (s.heap.push o) (o := enumO s.heap.objs.size) rfl
    rwa [e1] at q
  refine callType_new F.called_enumerate (by decide) (F.typeCall_enumerate_1 _) (F.newCall_enumerate_1 _) (fun z => F.args_object_init_2 z _) F.entry_enumerate_new (enum_new1 B) ?_
  refine ⟨h1, ?_⟩
  show _ ∧ _
  rw [e1]
  exact ⟨⟨_, e2, rfl⟩, h _ e2 (Heap.get?_push_of_some _ (Heap.get?_push_size _ B.free)) fun b q x => Heap.get?_push_of_some _ (Heap.get?_push_of_some _ x)⟩
/-- what is drawn: pairs of a place and an item of the tuple at a -/
def ItE (K : PySem.W.Frag) (a : Addr) : It :=
  ⟨fun i H => ∃ (xs : List V) (x : V), SqT K H a xs ∧ xs[i]? = some x, fun i H v H2 => ∃ T x, v = .ref T ∧ H T = none ∧ H2 = upd H T (.tup [.int (i : Nat), x]) ∧ ∀ xs, SqT K H a xs → xs[i]? = some x, fun i H => ∃ xs : List V, SqT K H a xs ∧ xs.length ≤ i⟩
theorem two_of {b e it : Addr} (h : b ∈ [e, it]) : b = e ∨ b = it := by simpa using h
theorem turnE {P : Program} {w : World} {K : PySem.W.Frag} {elts : List Expr} {kk : Nat} {tpos : Pos} (a e it : Addr) :
    Turn P w K (.Tuple elts kk tpos) (ItE K a) [e, it] e (fun i h => (∃ old, IsEnum h e it ((i : Nat) : Int) old) ∧ h.IsTupleIter it a i ∧ e ≠ it ∧ a ≠ it ∧ e ≠ a) where
  mem := by simp
  obj := fun i h st b hb => by
    obtain ⟨⟨old, he⟩, ⟨o, ho, hc, hd⟩, _⟩ := st
    rcases two_of hb with rfl | rfl
    · exact ⟨_, he, fun v q => nomatch q⟩
    · exact ⟨o, ho, fun v q => by rw [hd] at q; cases q⟩
  keep := fun i h h2 st k => let ⟨⟨old, he⟩, hi, hn⟩ := st; ⟨⟨old, k e (by simp) _ he⟩, hi.at fun o q => k it (by simp) o q, hn⟩
  item := by
    intro X hP hw hK hc i pins s σ H E I hf st hg
    cases hP; cases hw; cases hK
    obtain ⟨⟨old, he⟩, hit, hne, hai, hea⟩ := st
    obtain ⟨xs, x, hq, hx⟩ := hg
    obtain ⟨its, rv, p, hz⟩ := I.tuple hq
    obtain ⟨u, hu, ru⟩ := rv.get hx
    have e_lt : e < s.heap.objs.size := Heap.lt_size he
    have i_lt : it < s.heap.objs.size := by obtain ⟨_, q, _⟩ := hit; exact Heap.lt_size q
    have D := Draws.tuple (prog := X.prog) (w := X.w) (A := X.A.in1) (I.ok.hd hc) it a hai its.toArray
    have hi : i < its.toArray.size := by
      have := rv.length
      have h2 := (List.getElem?_eq_some_iff.1 hx).1
      simp; omega
    refine wpAny_pyNext_enum_itemD D he ⟨hit, p⟩ hi hne (by simp [hne, hea]) fun y h2 tk hy ho st2 hT hsz hk => ?_
    have hyu : y = u := by
      have : its.toArray[i]? = some u := by simpa using hu
      rw [this] at hy; cases hy; rfl
    subst hyu
    refine ⟨_, rfl, wpAny_letOwnedTupleGo_enum (s := { s with heap := h2, toks := tk + 1 }) ho fun h3 he3 sb => ?_⟩
    have hT3 : h3.get? s.heap.objs.size = some { cls := .type "tuple", data := .seq #[.int i tk, y] } := (sb.2 _ (Nat.ne_of_gt e_lt)).trans hT
    have nw : ObjOk X.prog X.w (upd H s.heap.objs.size (.tup [.int (i : Nat), x])) h3 s.heap.objs.size (.tup [.int (i : Nat), x]) :=
      ⟨by show 2 ≤ sizeLine; decide, [.int i tk, y], .cons ⟨_, rfl⟩ (.cons ru .nil), ⟨_, hT3, rfl, _, rfl⟩⟩
    have hsz3 : h3.objs.size = h2.objs.size := sb.1
    have I3 : Inv X pins σ (upd H s.heap.objs.size (.tup [.int (i : Nat), x])) { s with heap := h3, toks := tk + 1 } :=
      I.turnedNew (ch := [e, it]) (fun b q hb w => (sb.2 b (fun z => hb (by simp [z]))).trans (hk b q (fun z => hb (by simp [z])) (fun z => hb (by simp [z])) w)) hf (Nat.le_refl _) nw
    refine ⟨.ref s.heap.objs.size, _, I3, rfl, ⟨_, x, rfl, I.hok.fresh (Nat.le_refl _), rfl, fun ys hy => by rw [I.tuple_inj hy hq]; exact hx⟩, ⟨⟨y, ?_⟩, st2.1.at fun q z => (sb.2 it (Ne.symm hne)).trans z, hne, hai, hea⟩, fun b hb => ?_⟩
    · rw [show (((i + 1 : Nat)) : Int) = (i : Int) + 1 by omega]; exact he3
    · have hb2 : b < s.heap.objs.size := by rcases two_of hb with rfl | rfl <;> assumption
      rw [upd_ne (Nat.ne_of_lt hb2)]; exact (hf b hb).1
  done := by
    intro X hP hw hK hc i pins s σ H E I hf st hg
    cases hP; cases hw; cases hK
    obtain ⟨⟨old, he⟩, hit, hne, hai, hea⟩ := st
    obtain ⟨xs, hq, hx⟩ := hg
    obtain ⟨its, rv, p, hz⟩ := I.tuple hq
    obtain ⟨f0, f1, f2, f3, f4, f5⟩ := hf it (by simp)
    have hl := rv.length
    have D : Draws X.prog X.w X.A.in1 it [it, a] i (fun _ _ => False) (fun j h => j = i ∧ h.IsTupleIter it a i ∧ h.IsTuple a its.toArray) := ⟨fun _ _ st => let ⟨o, ho, _⟩ := st.2.1; ⟨o, ho⟩,
      fun _ _ _ st hk => ⟨st.1, st.2.1.at fun o e => hk it (by simp) o e, st.2.2.at fun o e => hk a (by simp) o e⟩, fun j _ _ _ hj st _ => absurd st.1 (Nat.ne_of_lt hj),
      fun s Q E st hE => wpAny_nextOf_tuple_end (I.ok.hd hc) st.2.1 st.2.2 (by simp; omega) hE⟩
    exact wpAny_pyNext_enum_endD D he ⟨rfl, hit, p⟩ fun h2 eb => ⟨rfl, I.turned (t' := s.toks) (fun b o hb e => eb b o hb e) f0 f1 f3 f4 f5⟩
  self := fun A i s Q E st h => let ⟨⟨_, he⟩, _⟩ := st; wpAny_pyIter_enum he h
def iEnumT (K : PySem.W.Frag) (ta : TA) : TI := fun σ H R => ta σ H fun vs H1 => ∃ a xs, vs = [.ref a] ∧ SqT K H1 a xs ∧ R (ItE K a) H1
theorem pi_enumT {X : Cx} {e : Expr} {ta : TA} {p pos tpos : Pos} {elts : List Expr} {kk : Nat} (hg : Gl X "enumerate") (hm : X.mg "enumerate" = none) (ha : PA X [e] ta) (hs : starEach [e] X.env = [(false, eval e X.env)] := by rfl) :
    PI X (.Tuple elts kk tpos) (.Call (.Name "enumerate" p) [e] [] pos) (iEnumT X.K ta) := by
  refine ⟨fun pins s σ H R I h => ?_⟩
  refine Call_ (ld_blt I hg hm boot_enumerate (PyProof.Rows.callWith_type1 (thn (ha.run pos pins s σ H _ I h) fun us s1 ⟨vs, H1, I1, r1, ⟨a, xs, ex, hq, q⟩⟩ => ?_) hs rfl))
  cases ex
  cases r1 with
  | cons r rr =>
    cases rr; cases r
    obtain ⟨its, rv, p2, hz⟩ := I1.tuple hq
    have a_lt : a < s1.heap.objs.size := by obtain ⟨_, z, _⟩ := p2; exact Heap.lt_size z
    refine enum_call1 (begins_tuple a its.toArray) p2 fun h2 he hit hk => wpAny_pyIter_enum he ?_
    have I2 : Inv X pins σ H1 { s1 with heap := h2 } := I1.kept (t' := s1.toks) hk
    refine ⟨s1.heap.objs.size + 1, [s1.heap.objs.size + 1, s1.heap.objs.size], _, _, H1, rfl, I2, turnE a (s1.heap.objs.size + 1) s1.heap.objs.size, ⟨⟨.none, he⟩, ⟨_, hit, rfl, rfl⟩, Nat.succ_ne_self _, Nat.ne_of_lt a_lt, Ne.symm (Nat.ne_of_lt (Nat.lt_succ_of_lt a_lt))⟩, fun b hb => ?_, q⟩
    have le : s1.heap.objs.size ≤ b := by rcases two_of hb with rfl | rfl <;> omega
    exact I1.fpOk le (I1.hok.fresh le)
theorem wk_enumT {K : PySem.W.Frag} {F : Hp} {a : Addr} {xs : List V} {ds : List D} (h : SqT K F a xs) (r : RpL K F xs ds) : Wk K F (ItE K a) (enumL 0 ds) where
  go := fun i F1 H1 hi s1 s2 => by
    rw [enumL_len] at hi
    exact ⟨xs, xs[i]'(by rw [r.length]; exact hi), sameT s2 (sameT s1 h), by simp [r.length, hi]⟩
  stop := fun F1 H1 s1 s2 => ⟨xs, sameT s2 (sameT s1 h), by rw [enumL_len, r.length]; exact Nat.le_refl _⟩
  yld := fun i d F1 H1 x H2 hd s1 s2 y => by
    obtain ⟨T, z, rfl, nT, rfl, y⟩ := y
    have q := y xs (sameT s2 (sameT s1 h))
    obtain ⟨dd, h0, rfl⟩ := enumL_get 0 ds i d hd
    obtain ⟨v, h1, h2⟩ := r.get h0
    rw [h1] at q
    cases q
    have xt : Xt none F1 H1 (upd F1 T (.tup [.int (i : Nat), z])) (upd H1 T (.tup [.int (i : Nat), z])) := Xt.alloc s2 nT
    exact ⟨_, xt, .tup (SqT.of upd_same) (.cons (by rw [Nat.zero_add]; exact .int _) (.cons ((h2.mono s1).mono xt.ff) .nil))⟩
def iEnumTF : List D → Option (List D)
  | [.tuple ds] => some (enumL 0 ds)
  | _ => none
section
variable {c : CM} {W : WX} {m : Md} {X : Cx} {e : Expr} {pos p tpos : Pos}
theorem i_enumT {elts : List Expr} {kk : Nat} {ds : Ev → MM (List D)} (hk : X.K = c.K) (hg : Gl X "enumerate") (hm : X.mg "enumerate" = none) (ha : A c W m X [e] ds) (hs : starEach [e] X.env = [(false, eval e X.env)] := by rfl) : PI X (.Tuple elts kk tpos) (.Call (.Name "enumerate" p) [e] [] pos) (TID c W m (iArgs iEnumTF ds)) :=
  PIimp (pi_enumT hg hm ha.pa hs) fun σ H R ⟨F, ρ, ω, S, q⟩ => iargs_step S q fun F1 H1 xs as l s r e1 q1 => by
    match as, e1, r with
    | [.tuple ds], e1, r =>
      obtain ⟨v, rfl, r1⟩ := r.one
      cases r1 with
      | @tup a ys _ h1 h2 =>
        simp only [iEnumTF, Option.some.injEq] at e1
        subst e1
        refine ⟨a, ys, rfl, ?_, q1 _ ?_⟩
        · rw [hk]; exact sameT s h1
        · rw [hk]; exact wk_enumT h1 h2
end
@[simp] theorem iEnumTF_t (ds : List D) : iEnumTF [.tuple ds] = some (enumL 0 ds) := (rfl)
@[simp] theorem iEnumF_l (ds : List D) : iEnumF [.list ds] = some (enumL 0 ds) := (rfl)
end M

set_option Elab.async false
set_option linter.all false
set_option maxRecDepth 100000
set_option maxHeartbeats 4000000
namespace M
open PySem PySem.Spec PyProof.Rows L2
/-! ### chains of three comparisons -/
def tChain3 (r1 r2 r3 : R2) (ta tb tc td : TE) : TE := fun σ H Q => ta σ H fun x H1 => tb σ H1 fun y H2 => r1 x y H2 fun z H3 => ∃ k, z = .bl k ∧
  (if k = true then tc σ H3 fun v H4 => r2 y v H4 fun z2 H5 => ∃ k2, z2 = .bl k2 ∧ (if k2 = true then td σ H5 fun u H6 => r3 v u H6 Q else Q (.bl false) H5) else Q (.bl false) H3)
theorem pe_chain3 {X : Cx} {a b c d : Expr} {pos : Pos} {ta tb tc td : TE} {o1 o2 o3 : CmpOp} {r1 r2 r3 : R2} (h1 : OpR X (compareOp o1) r1) (h2 : OpR X (compareOp o2) r2) (h3 : OpR X (compareOp o3) r3) (ha : PE X a ta) (hb : PE X b tb) (hc : PE X c tc) (hd : PE X d td)
    (hm : lastMarks [o1, o2, o3] [b, c, d] = false := by with_unfolding_all rfl) : PE X (.Compare a [o1, o2, o3] [b, c, d] pos) (tChain3 r1 r2 r3 ta tb tc td) := by
  refine ⟨fun pins s σ H Q I h => Compare_chain (thn (ha.run pins s σ H _ I h) fun v s1 ⟨x, H1, I1, x1, q1⟩ => chain_link (thn (hb.run pins s1 σ H1 _ I1 q1) fun u s2 ⟨y, H2, I2, x2, q2⟩ =>
    thn (h1 pins s2 σ H2 x y v u _ I2 x1 x2 q2) fun g s3 ⟨z, H3, I3, x3, k, e, q3⟩ => ?_)) hm⟩
  cases e
  cases x3
  refine wpAny_truthy_bool ?_
  cases k with
  | false => exact ite_ff ⟨.bl false, H3, I3, rfl, q3⟩
  | true =>
    refine ite_tt (chain_link (thn (hc.run pins s3 σ H3 _ I3 q3) fun v2 s4 ⟨w, H4, I4, x4, q4⟩ => thn (h2 pins s4 σ H4 y w u v2 _ I4 x2 x4 q4) fun g2 s5 ⟨z2, H5, I5, x5, k2, e2, q5⟩ => ?_))
    cases e2
    cases x5
    refine wpAny_truthy_bool ?_
    cases k2 with
    | false => exact ite_ff ⟨.bl false, H5, I5, rfl, q5⟩
    | true => exact ite_tt (chain_last (thn (hd.run pins s5 σ H5 _ I5 q5) fun v3 s6 ⟨z3, H6, I6, x6, q6⟩ => h3 pins s6 σ H6 w z3 v2 v3 Q I6 x4 x6 q6))
def ch3c (h : D → D → Option Bool) (d4 : Ev → MM D) (ρ : Ev) (z : D) : Bool → Wd → Res D
  | true, w => (d4 ρ w).bind fun u w => (ofO (h z u) w).bind fun t w => .ok (.bool t) w
  | false, w => .ok (.bool false) w
def ch3b (g h : D → D → Option Bool) (d3 d4 : Ev → MM D) (ρ : Ev) (b : D) : Bool → Wd → Res D
  | true, w => (d3 ρ w).bind fun z w => (ofO (g b z) w).bind (ch3c h d4 ρ z)
  | false, w => .ok (.bool false) w
def eChain3 (f g h : D → D → Option Bool) (d1 d2 d3 d4 : Ev → MM D) : Ev → MM D := fun ρ ω => (d1 ρ ω).bind fun a w => (d2 ρ w).bind fun b w => (ofO (f a b) w).bind (ch3b g h d3 d4 ρ b)
section
variable {c : CM} {W : WX} {m : Md} {X : Cx} {a b x3 x4 : Expr} {pos : Pos}
theorem e_chain3 {o1 o2 o3 : CmpOp} {r1 r2 r3 : R2} {f g h : D → D → Option Bool} {d1 d2 d3 d4 : Ev → MM D} (q1 : OpR X (compareOp o1) r1) (q2 : OpR X (compareOp o2) r2) (q3 : OpR X (compareOp o3) r3) (v1 : VOpB c.K r1 f) (v2 : VOpB c.K r2 g) (v3 : VOpB c.K r3 h)
    (h1 : E c W m X a d1) (h2 : E c W m X b d2) (h3 : E c W m X x3 d3) (h4 : E c W m X x4 d4) (hm : lastMarks [o1, o2, o3] [b, x3, x4] = false := by with_unfolding_all rfl) : E c W m X (.Compare a [o1, o2, o3] [b, x3, x4] pos) (eChain3 f g h d1 d2 d3 d4) :=
  PEimp (pe_chain3 q1 q2 q3 h1 h2 h3 h4 hm) fun σ H Q ⟨F, ρ, ω, S, q⟩ => by
    exact bin_step S Post.pg q fun F2 H2 x y a b w _ S2 y1 y2 z2 => by
      cases e1 : f a b with
      | none => rw [e1] at z2; exact z2.elim
      | some t =>
        rw [e1, ofO_some, bind_ok] at z2
        refine v1 F2 H2 x y a b t _ S2.fh y1 y2 e1 ⟨t, rfl, ?_⟩
        cases t with
        | false => exact iteF (z2 F2 H2 (Xt.refl S2.fh) S2.bo _ (.bl false))
        | true =>
          refine iteT ⟨F2, ρ, w, S2, bindT S2 Post.pg z2 fun z F3 H3 w3 t3 S3 z3 zv y3 => ?_⟩
          cases e2 : g b z with
          | none => rw [e2] at z3; exact z3.elim
          | some t =>
            rw [e2, ofO_some, bind_ok] at z3
            refine v2 F3 H3 y zv b z t _ S3.fh (y2.mono t3.ff) y3 e2 ⟨t, rfl, ?_⟩
            cases t with
            | false => exact iteF (z3 F3 H3 (Xt.refl S3.fh) S3.bo _ (.bl false))
            | true =>
              refine iteT ⟨F3, ρ, w3, S3, bindT S3 Post.pg z3 fun u F4 H4 w4 t4 S4 z4 uv y4 => ?_⟩
              cases e3 : h z u with
              | none => rw [e3] at z4; exact z4.elim
              | some t =>
                rw [e3] at z4
                exact v3 F4 H4 zv uv z u t _ S4.fh (y3.mono t4.ff) y4 e3 (z4 F4 H4 (Xt.refl S4.fh) S4.bo _ (.bl t))
end
end M

set_option Elab.async false
set_option linter.all false
set_option maxRecDepth 100000
set_option maxHeartbeats 4000000
namespace M
open PySem PySem.Spec PyProof.Rows L2
/-! ### sorted of pairs of ints -/
def rSortPT (K : PySem.W.Frag) : List V → Hp → VK → Prop := fun vs H Q => ∃ (a : Addr) (xs : List V) (k : V → Int × Int), vs = [V.ref a] ∧ SqL K H a xs ∧ (∀ x ∈ xs, ∃ t, x = V.ref t ∧ SqT K H t [.int (k x).1, .int (k x).2]) ∧
  ∀ ys p, SrtO.Srtd (ltP k) ys → SrtO.Stb (ltP k) ys xs → H p = none → Q (.ref p) (upd H p (.lst ys))
theorem cr_sortPT {X : Cx} : CallR X (.builtin "sorted") (rSortPT X.K) := fun pins s σ H vs us Q I r h => by
  obtain ⟨a, xs, k, rfl, hs, hx, q⟩ := h
  obtain ⟨items, vals, lst, size⟩ := I.list hs
  obtain ⟨w, rfl, rw'⟩ := vals1 r
  cases (show w = Value.ref a from rw')
  have back := refs_back vals fun x m => let ⟨t, e, _⟩ := hx x m; ⟨t, e⟩
  refine SrtO.sorted_pairsO (k := fun z => k (backV z)) lst.isList (by rw [← vals.length]; exact size) (fun v hv => ?_) fun h2 d out srt stb keep dn dl => ?_
  · obtain ⟨t, rfl⟩ := back.2 v hv
    have mem : V.ref t ∈ xs := by rw [back.1]; exact List.mem_map.2 ⟨_, hv, rfl⟩
    obtain ⟨t2, e, ht⟩ := hx _ mem
    cases e
    obtain ⟨its2, r2, ⟨o, ho, hc, n, hd⟩, _⟩ := I.tuple ht
    obtain ⟨v1, v2, rfl, g1, g2⟩ := vals2 r2
    obtain ⟨t1, rfl⟩ := g1
    obtain ⟨t3, rfl⟩ := g2
    exact ⟨t, o, t1, t3, n, rfl, ho, hc, hd⟩
  · obtain ⟨n, dl⟩ := dl
    have st2 : SrtO.Stb (ltP k) (out.map backV) xs := by rw [back.1]; exact SrtO.Stb.map (ltP_swo k) backV stb
    have sz : (out.map backV).length ≤ sizeLine := by rw [st2.len]; exact size
    exact ⟨.ref d, upd H d (.lst (out.map backV)), I.laid (t' := s.toks) keep dn ⟨sz, out, n, vals_back fun u hu => back.2 u (stb.perm.mem_iff.1 hu), dl⟩, rfl, q _ d (SrtO.srtd_map srt) st2 (I.hok.fresh dn)⟩
/-- lists of pairs -/
inductive PrL (K : PySem.W.Frag) (H : Hp) : List V → List (Int × Int) → Prop
  | nil : PrL K H [] []
  | cons {t : Addr} {p : Int × Int} {xs : List V} {ps : List (Int × Int)} : SqT K H t [.int p.1, .int p.2] → PrL K H xs ps → PrL K H (.ref t :: xs) (p :: ps)
def leQ (a b : Int × Int) : Prop := a.1 < b.1 ∨ (a.1 = b.1 ∧ a.2 ≤ b.2)
instance (a b : Int × Int) : Decidable (leQ a b) := by unfold leQ; infer_instance
theorem leQ_total {a b : Int × Int} (h : ¬ leQ a b) : leQ b a := by unfold leQ at *; omega
theorem leQ_trans {a b c : Int × Int} (h : leQ a b) (g : leQ b c) : leQ a c := by unfold leQ at *; omega
theorem leQ_anti {a b : Int × Int} (h : leQ a b) (g : leQ b a) : a = b := by unfold leQ at *; exact Prod.ext (by omega) (by omega)
def insQ (x : Int × Int) : List (Int × Int) → List (Int × Int)
  | [] => [x]
  | y :: r => if leQ x y then x :: y :: r else y :: insQ x r
def sortQ : List (Int × Int) → List (Int × Int)
  | [] => []
  | x :: r => insQ x (sortQ r)
theorem insQ_perm (x : Int × Int) : ∀ l, (insQ x l).Perm (x :: l)
  | [] => List.Perm.refl _
  | y :: r => by
    unfold insQ
    split
    · exact List.Perm.refl _
    · exact ((insQ_perm x r).cons y).trans (List.Perm.swap x y r)
theorem sortQ_perm : ∀ l, (sortQ l).Perm l
  | [] => List.Perm.refl _
  | x :: r => (insQ_perm x _).trans ((sortQ_perm r).cons x)
theorem insQ_srt (x : Int × Int) : ∀ l, l.Pairwise leQ → (insQ x l).Pairwise leQ
  | [], _ => List.pairwise_singleton _ _
  | y :: r, h => by
    obtain ⟨h1, h2⟩ := List.pairwise_cons.1 h
    unfold insQ
    split
    · rename_i le
      refine List.pairwise_cons.2 ⟨fun z hz => ?_, h⟩
      rcases List.mem_cons.1 hz with rfl | hz
      · exact le
      · exact leQ_trans le (h1 z hz)
    · rename_i le
      refine List.pairwise_cons.2 ⟨fun z hz => ?_, insQ_srt x r h2⟩
      rcases List.mem_cons.1 ((insQ_perm x r).mem_iff.1 hz) with rfl | hz
      · exact leQ_total le
      · exact h1 z hz
theorem sortQ_srt : ∀ l, (sortQ l).Pairwise leQ
  | [] => List.Pairwise.nil
  | x :: r => insQ_srt x _ (sortQ_srt r)
theorem srt_uniq : ∀ {l m : List (Int × Int)}, l.Pairwise leQ → m.Pairwise leQ → l.Perm m → l = m
  | [], m, _, _, h => (List.perm_nil.1 h.symm).symm
  | x :: l, [], _, _, h => (List.perm_nil.1 h)
  | x :: l, y :: m, h1, h2, h => by
    obtain ⟨a1, a2⟩ := List.pairwise_cons.1 h1
    obtain ⟨b1, b2⟩ := List.pairwise_cons.1 h2
    have e : x = y := by
      rcases List.mem_cons.1 (h.mem_iff.1 (List.mem_cons_self (a := x) (l := l))) with e | hx
      · exact e
      · rcases List.mem_cons.1 (h.mem_iff.2 (List.mem_cons_self (a := y) (l := m))) with e | hy
        · exact e.symm
        · exact leQ_anti (a1 y hy) (b1 x hx)
    subst e
    rw [srt_uniq a2 b2 h.cons_inv]
def rSortPD (K : PySem.W.Frag) : List V → Hp → VK → Prop := fun vs H Q => ∃ (F : Hp) (a : Addr) (xs : List V) (ps : List (Int × Int)), Same F H ∧ vs = [V.ref a] ∧ SqL K H a xs ∧ PrL K F xs ps ∧ ∀ ys p, PrL K F ys (sortQ ps) → H p = none → Q (.ref p) (upd H p (.lst ys))
theorem cr_sortPD {X : Cx} : CallR X (.builtin "sorted") (rSortPD X.K) := fun pins s σ H vs us Q I r h => by
  obtain ⟨F, a, xs, ps, sm, rfl, hs, hp, q⟩ := h
  have inj : ∀ {t : Addr} {p q : Int × Int}, SqT X.K F t [.int p.1, .int p.2] → SqT X.K F t [.int q.1, .int q.2] → p = q := fun h1 h2 => by
    have := I.tuple_inj (sameT sm h1) (sameT sm h2)
    simp at this
    exact Prod.ext this.1 this.2
  obtain ⟨k, hk⟩ : ∃ k : V → Int × Int, ∀ t p, SqT X.K F t [.int p.1, .int p.2] → k (.ref t) = p := by
    classical
    refine ⟨fun x => match x with
      | .ref t => if z : ∃ p : Int × Int, SqT X.K F t [.int p.1, .int p.2] then Classical.choose z else (0, 0)
      | _ => (0, 0), fun t p h => ?_⟩
    have z : ∃ p : Int × Int, SqT X.K F t [.int p.1, .int p.2] := ⟨p, h⟩
    simp only [dif_pos z]
    exact inj (Classical.choose_spec z) h
  have all : ∀ {xs : List V} {ps : List (Int × Int)}, PrL X.K F xs ps → xs.map k = ps ∧ ∀ x ∈ xs, ∃ t, x = V.ref t ∧ SqT X.K F t [.int (k x).1, .int (k x).2] := by
    intro xs ps h
    induction h with
    | nil => exact ⟨rfl, fun _ h => nomatch h⟩
    | cons h1 h2 ih =>
      refine ⟨by rw [List.map_cons, ih.1, hk _ _ h1], fun x hx => ?_⟩
      rcases List.mem_cons.1 hx with rfl | hx
      · exact ⟨_, rfl, by rw [hk _ _ h1]; exact h1⟩
      · exact ih.2 x hx
  have back : ∀ {ys : List V}, (∀ y ∈ ys, ∃ t, y = V.ref t ∧ SqT X.K F t [.int (k y).1, .int (k y).2]) → PrL X.K F ys (ys.map k) := by
    intro ys
    induction ys with
    | nil => intro _; exact .nil
    | cons y ys ih =>
      intro h
      obtain ⟨t, e, ht⟩ := h y (by simp)
      subst e
      exact .cons ht (ih fun z hz => h z (by simp [hz]))
  obtain ⟨e1, e2⟩ := all hp
  refine cr_sortPT pins s σ H _ us Q I r ⟨a, xs, k, rfl, hs, (fun x hx => let ⟨t, e, h⟩ := e2 x hx; ⟨t, e, sameT sm h⟩), fun ys p srt stb np => q ys p ?_ np⟩
  have hy := back fun y hy => e2 y (stb.perm.mem_iff.1 hy)
  have e3 : ys.map k = sortQ ps := by
    refine srt_uniq ?_ (sortQ_srt ps) (((stb.perm.map k).trans (by rw [e1])).trans (sortQ_perm ps).symm)
    rw [List.pairwise_map]
    exact srt.imp fun {x y} h => by
      have := SrtO.lexB_no.mp h
      unfold leQ
      omega
  rw [← e3]
  exact hy
def encP (p : Int × Int) : D := .tuple [.int p.1, .int p.2]
def pairsOf : List D → Option (List (Int × Int))
  | [] => some []
  | .tuple [.int i, .int j] :: r => (pairsOf r).map ((i, j) :: ·)
  | _ => none
theorem pairsOf_map : ∀ ps : List (Int × Int), pairsOf (ps.map encP) = some ps
  | [] => rfl
  | p :: ps => by simp [encP, pairsOf, pairsOf_map ps]
theorem pairs_in {K : PySem.W.Frag} {F : Hp} : ∀ {ds : List D} {xs : List V} {ps : List (Int × Int)}, RpL K F xs ds → pairsOf ds = some ps → PrL K F xs ps
  | [], _, _, h, e => by cases h; simp [pairsOf] at e; subst e; exact .nil
  | .tuple [.int i, .int j] :: r, _, ps, h, e => by
    cases h with
    | cons h1 h2 =>
      simp only [pairsOf, Option.map_eq_some_iff] at e
      obtain ⟨qs, e, rfl⟩ := e
      cases h1 with
      | tup g1 g2 =>
        cases g2 with
        | cons a1 a2 =>
          cases a1
          cases a2 with
          | cons b1 b2 =>
            cases b1
            cases b2
            exact .cons (p := (i, j)) g1 (pairs_in h2 e)
theorem pairs_out {K : PySem.W.Frag} {F : Hp} : ∀ {xs : List V} {ps : List (Int × Int)}, PrL K F xs ps → RpL K F xs (ps.map encP)
  | _, _, .nil => .nil
  | _, _, .cons h1 h2 => .cons (.tup h1 (.cons (.int _) (.cons (.int _) .nil))) (pairs_out h2)
def fSortP : List D → Option D
  | [.list xs] => (pairsOf xs).map fun ps => .list ((sortQ ps).map encP)
  | _ => none
theorem v_sortP {K K' : PySem.W.Frag} (hk : K' = K) : VAr K (rSortPD K') fSortP := by
  intro F H xs as v Q S r e q
  match as, e, r with
  | [.list ds], e, r =>
    simp only [fSortP, Option.map_eq_some_iff] at e
    obtain ⟨ps, e1, e2⟩ := e
    subst e2
    obtain ⟨x, rfl, r1⟩ := r.one
    cases r1 with
    | lst g1 g2 =>
      subst hk
      exact ⟨F, _, _, ps, S, rfl, SqL.of (S _ _ g1), pairs_in g2 e1, fun ys p h np => rp_new_lst S np (pairs_out h) q⟩
@[simp] theorem fSortP_map (ps : List (Int × Int)) : fSortP [.list (ps.map encP)] = some (.list ((sortQ ps).map encP)) := by simp [fSortP, pairsOf_map]
end M

set_option Elab.async false
set_option linter.all false
set_option maxRecDepth 100000
set_option maxHeartbeats 4000000
namespace M
open PySem PySem.Spec PyProof.Rows L2
/-! ### comparing data of one kind -/
def noN : D → Bool
  | .none => false
  | _ => true
theorem noN_ne {d : D} (h : noN d = true) : d ≠ .none := fun e => by subst e; cases h
def okC (a b : D) : Bool := PySem.W.alike a b && (noN a && decide (min a.depth b.depth ≤ 64))
def gCmp (f : D → D → Bool) (a b : D) : Option Bool := if okC a b = true then some (f a b) else none
def gLt : D → D → Option Bool := gCmp fun a b => PySem.W.dataLt a b
def gGt : D → D → Option Bool := gCmp fun a b => PySem.W.dataLt b a
def gLe : D → D → Option Bool := gCmp fun a b => !PySem.W.dataLt b a
def gGe : D → D → Option Bool := gCmp fun a b => !PySem.W.dataLt a b
def rCmp (f : D → D → Bool) (K : PySem.W.Frag) : R2 := fun x y H Q => ∃ a b, Dp K H x a ∧ Dp K H y b ∧ okC a b = true ∧ Q (.bl (f a b)) H
theorem okC_it {a b : D} (h : okC a b = true) : PySem.W.alike a b = true ∧ a ≠ .none ∧ min a.depth b.depth ≤ 64 := by
  unfold okC at h
  simp only [Bool.and_eq_true, decide_eq_true_eq] at h
  exact ⟨h.1, noN_ne h.2.1, h.2.2⟩
section
variable {X : Cx}
theorem op_ltG (hu : X.A.units + 65 < cLine) : OpR X (compareOp .Lt) (rCmp (fun a b => PySem.W.dataLt a b) X.K) := by
  intro pins s σ H x y v u Q I rx ry ⟨a, b, ha, hb, ok, q⟩
  obtain ⟨as, r1⟩ := Dp.reads I a x v ha rx
  obtain ⟨bs, r2⟩ := Dp.reads I b y u hb ry
  obtain ⟨k1, k2, k3⟩ := okC_it ok
  exact PySem.W.lt_data r1 r2 k1 k2 (by omega) ⟨.bl _, H, I, rfl, q⟩
theorem op_gtG (hu : X.A.units + 65 < cLine) : OpR X (compareOp .Gt) (rCmp (fun a b => PySem.W.dataLt b a) X.K) := by
  intro pins s σ H x y v u Q I rx ry ⟨a, b, ha, hb, ok, q⟩
  obtain ⟨as, r1⟩ := Dp.reads I a x v ha rx
  obtain ⟨bs, r2⟩ := Dp.reads I b y u hb ry
  obtain ⟨k1, k2, k3⟩ := okC_it ok
  exact PySem.W.gt_data r1 r2 k1 k2 (by omega) ⟨.bl _, H, I, rfl, q⟩
theorem op_leG (hu : X.A.units + 65 < cLine) : OpR X (compareOp .LtE) (rCmp (fun a b => !PySem.W.dataLt b a) X.K) := by
  intro pins s σ H x y v u Q I rx ry ⟨a, b, ha, hb, ok, q⟩
  obtain ⟨as, r1⟩ := Dp.reads I a x v ha rx
  obtain ⟨bs, r2⟩ := Dp.reads I b y u hb ry
  obtain ⟨k1, k2, k3⟩ := okC_it ok
  exact PySem.W.le_data r1 r2 k1 k2 (by omega) ⟨.bl _, H, I, rfl, q⟩
theorem op_geG (hu : X.A.units + 65 < cLine) : OpR X (compareOp .GtE) (rCmp (fun a b => !PySem.W.dataLt a b) X.K) := by
  intro pins s σ H x y v u Q I rx ry ⟨a, b, ha, hb, ok, q⟩
  obtain ⟨as, r1⟩ := Dp.reads I a x v ha rx
  obtain ⟨bs, r2⟩ := Dp.reads I b y u hb ry
  obtain ⟨k1, k2, k3⟩ := okC_it ok
  exact PySem.W.ge_data r1 r2 k1 k2 (by omega) ⟨.bl _, H, I, rfl, q⟩
end
theorem v_cmpG {K K' : PySem.W.Frag} {f : D → D → Bool} (hk : K' = K) : VOpB K (rCmp f K') (gCmp f) := by
  subst hk
  intro F H x y a b v Q S r1 r2 e q
  simp only [gCmp, Option.ite_none_right_eq_some, Option.some.injEq] at e
  obtain ⟨e1, e2⟩ := e
  subst e2
  exact ⟨a, b, (r1.mono S).dp, (r2.mono S).dp, e1, q⟩
/-! ### sorted of a list of data of one kind -/
def leD (a b : D) : Bool := PySem.W.dataLe false (fun d : D => d) a b
structure SrtOk (ds : List D) : Prop where
  al : PySem.W.AllAlike ds
  so : PySem.W.Sortable ds
  len : ds.length ≤ sizeLine
  dp : ∀ d ∈ ds, d.depth ≤ 62
def sortD (ds : List D) : List D := ds.mergeSort leD
open Classical in
noncomputable def fSortD : List D → Option D
  | [.list ds] => if SrtOk ds then some (.list (sortD ds)) else none
  | _ => none
theorem fSortD_ok {ds : List D} (h : SrtOk ds) : fSortD [.list ds] = some (.list (sortD ds)) := if_pos h
def rSortDL (K : PySem.W.Frag) : List V → Hp → VK → Prop := fun vs H Q => ∃ (F : Hp) (a : Addr) (xs : List V) (ds : List D), Same F H ∧ vs = [V.ref a] ∧ SqL K H a xs ∧ RpL K F xs ds ∧ SrtOk ds ∧ ∀ ys p, RpL K F ys (sortD ds) → H p = none → Q (.ref p) (upd H p (.lst ys))
theorem RpL.zip {K : PySem.W.Frag} {H : Hp} : ∀ {ds : List D} {vs : List V}, RpL K H vs ds → ∀ p ∈ ds.zip vs, Rp K H p.2 p.1
  | [], _, h, p, hp => by simp at hp
  | d :: ds, _, h, p, hp => by
    cases h with
    | cons h1 h2 =>
      rcases List.mem_cons.1 (by simpa using hp) with rfl | hp
      · exact h1
      · exact h2.zip p hp
theorem rpL_of {K : PySem.W.Frag} {H : Hp} : ∀ (ps : List (D × V)), (∀ p ∈ ps, Rp K H p.2 p.1) → RpL K H (ps.map (·.2)) (ps.map (·.1))
  | [], _ => .nil
  | p :: ps, h => .cons (h p (by simp)) (rpL_of ps fun q hq => h q (by simp [hq]))
theorem each_vals : ∀ {vs : List V} {us : List Value} {ds : List D}, Vals vs us → vs.length = ds.length → PySem.W.EachIs (fun (u : Value) (p : D × V) => RelV p.2 u) us (ds.zip vs)
  | [], _, [], .nil, _ => .nil
  | v :: vs, _, d :: ds, .cons r t, h => .cons r (each_vals t (by simpa using h))
theorem vals_each : ∀ {us : List Value} {ps : List (D × V)}, PySem.W.EachIs (fun (u : Value) (p : D × V) => RelV p.2 u) us ps → Vals (ps.map (·.2)) us
  | _, _, .nil => .nil
  | _, _, .cons r t => .cons r (vals_each t)
theorem each_reads {X : Cx} {pins : List (Addr × Obj)} {σ : L2.St} {H F : Hp} {s : Shared} (I : Inv X pins σ H s) (sm : Same F H) : ∀ {vs : List V} {us : List Value} {ds : List D}, Vals vs us → RpL X.K F vs ds → PySem.W.EachIs (fun (u : Value) (p : D × V) => ∃ as, Reads s.heap u p.1 as) us (ds.zip vs)
  | [], _, _, .nil, h => by cases h; exact .nil
  | v :: vs, _, _, .cons r t, h => by
    cases h with
    | cons h1 h2 => exact .cons (Dp.reads I _ v _ (h1.mono sm).dp r) (each_reads I sm t h2)
theorem cr_sortDL {X : Cx} (hu : X.A.units + 65 < cLine) : CallR X (.builtin "sorted") (rSortDL X.K) := by
  intro pins s σ H vs us Q I r ⟨F, a, xs, ds, sm, e0, hs, hp, ok, q⟩
  subst e0
  obtain ⟨its, rv, hl, hz⟩ := I.list hs
  rw [Vals.ref1 r]
  have hlen : xs.length = ds.length := hp.length
  have mp : (ds.zip xs).map (fun p => p.1) = ds := by rw [List.map_fst_zip]; omega
  refine PySem.W.sorted_data (β := D × V) (bs := ds.zip xs) (enc := fun p => p.1) hl.isList (each_vals rv hlen) (each_reads I sm rv hp) (by rw [mp]; exact ok.al) (by rw [mp]; exact ok.so) (by rw [List.length_zip]; have := ok.len; omega) (fun b hb => ?_) fun out hol hout => ?_
  · have := ok.dp b.1 (by rw [← mp]; exact List.mem_map.2 ⟨b, hb, rfl⟩)
    omega
  · obtain ⟨ep, he⟩ := PyProof.Rows.sortedAll_at s.heap its (List.toArray out)
    have e1 : ((ds.zip xs).mergeSort (PySem.W.dataLe false fun p : D × V => p.1)).map (fun p => p.1) = sortD ds := by
      have e := List.map_mergeSort (r := PySem.W.dataLe false fun p : D × V => p.1) (s := leD) (f := fun p : D × V => p.1) (l := ds.zip xs) (fun a _ b _ => rfl)
      rw [mp] at e
      exact e
    have e2 : RpL X.K F (((ds.zip xs).mergeSort (PySem.W.dataLe false fun p : D × V => p.1)).map (fun p => p.2)) (sortD ds) := by
      rw [← e1]
      exact rpL_of _ fun p hq => hp.zip p ((List.mergeSort_perm _ _).mem_iff.1 hq)
    have hl2 : (((ds.zip xs).mergeSort (PySem.W.dataLe false fun p : D × V => p.1)).map (fun p => p.2)).length ≤ sizeLine := by
      rw [e2.length]
      unfold sortD
      rw [List.length_mergeSort]
      exact ok.len
    exact ⟨.ref _, upd H (s.heap.objs.size + 1) (.lst (((ds.zip xs).mergeSort (PySem.W.dataLe false fun p : D × V => p.1)).map fun p => p.2)), I.laid (t' := s.toks) (fun _ _ => PyProof.Rows.sortedAll_old) (Nat.le_succ _) ⟨hl2, _, ep, vals_each hout, he⟩, rfl, q _ _ e2 (I.hok.fresh (Nat.le_succ _))⟩
theorem v_sortD {K K' : PySem.W.Frag} (hk : K' = K) : VAr K (rSortDL K') fSortD := by
  intro F H xs as v Q S r e q
  match as, e, r with
  | [.list ds], e, r =>
    simp only [fSortD, Option.ite_none_right_eq_some, Option.some.injEq] at e
    obtain ⟨e1, e2⟩ := e
    subst e2
    obtain ⟨x, rfl, r1⟩ := r.one
    cases r1 with
    | lst g1 g2 =>
      subst hk
      exact ⟨F, _, _, ds, S, rfl, SqL.of (S _ _ g1), g2, e1, fun ys p h np => rp_new_lst S np h q⟩
/-! ### max and min -/
structure MaxOk (ds : List D) : Prop where
  al : PySem.W.AlikeAll ds
  dp : PyData.depthAll ds ≤ 60
theorem maxD_mem (x : D) : ∀ xs : List D, PySem.W.maxD x xs ∈ x :: xs := by
  intro xs
  unfold PySem.W.maxD
  induction xs generalizing x with
  | nil => simp
  | cons y ys ih =>
    rw [List.foldl_cons]
    have := ih (if PySem.W.dataLt x y then y else x)
    rcases List.mem_cons.1 this with h | h
    · rw [h]; split <;> simp
    · simp [h]
theorem minD_mem (x : D) : ∀ xs : List D, PySem.W.minD x xs ∈ x :: xs := by
  intro xs
  unfold PySem.W.minD
  induction xs generalizing x with
  | nil => simp
  | cons y ys ih =>
    rw [List.foldl_cons]
    have := ih (if PySem.W.dataLt y x then y else x)
    rcases List.mem_cons.1 this with h | h
    · rw [h]; split <;> simp
    · simp [h]
def rBest (K : PySem.W.Frag) (f : D → List D → D) : List V → Hp → VK → Prop := fun vs H Q => ∃ (F : Hp) (a : Addr) (xs : List V) (d : D) (ds : List D), Same F H ∧ vs = [V.ref a] ∧ (SqL K H a xs ∨ SqT K H a xs) ∧ RpL K F xs (d :: ds) ∧ MaxOk (d :: ds) ∧ ∀ x, Rp K F x (f d ds) → Q x H
theorem vals_get : ∀ {vs : List V} {us : List Value} {i : Nat} {u : Value}, Vals vs us → us[i]? = some u → ∃ v, vs[i]? = some v ∧ RelV v u
  | [], _, _, _, .nil, h => by simp at h
  | v :: vs, _, 0, _, .cons r t, h => by simp at h; subst h; exact ⟨v, rfl, r⟩
  | v :: vs, _, i + 1, _, .cons r t, h => by
    obtain ⟨x, h1, h2⟩ := vals_get t (by simpa using h)
    exact ⟨x, by simpa using h1, h2⟩
theorem best_end {X : Cx} {pins : List (Addr × Obj)} {σ : L2.St} {H F : Hp} {s : Shared} {xs : List V} {its : List Value} {ds : List D} {b : D} {Q : VK} (I : Inv X pins σ H s) (sm : Same F H) (rv : Vals xs its) (hp : RpL X.K F xs ds) (ok : MaxOk ds) (hb : b ∈ ds)
    (q : ∀ x, Rp X.K F x b → Q x H) (i : Nat) (v : Value) (h' : Heap) (tk : Nat) (bs : List Addr) (hv : its.toArray[i]? = some v) (rd : Reads h' v b bs) (hk : ∀ b o, s.heap.get? b = some o → h'.get? b = some o) : EP X pins σ Q v { s with heap := h', toks := tk } := by
  obtain ⟨x, e1, r1⟩ := vals_get rv (by simpa using hv)
  obtain ⟨d, e2, r2⟩ := hp.get' e1
  obtain ⟨as, r3⟩ := Dp.reads I d x v (r2.mono sm).dp r1
  have e : d = b := PySem.W.alike_unique d b v as bs (ok.al.1 d (List.mem_of_getElem? e2) b hb) (PySem.W.reads_keeps hk r3) rd
  subst e
  exact ⟨x, H, I.kept hk, r1, q x r2⟩
theorem cr_maxDL {X : Cx} (hc : X.calm = true) (hu : X.A.units + 65 < cLine) : CallR X (.builtin "max") (rBest X.K PySem.W.maxD) := by
  intro pins s σ H vs us Q I r ⟨F, a, xs, d, ds, sm, e0, hs, hp, ok, q⟩
  subst e0
  rw [Vals.ref1 r]
  have hd := ok.dp
  have dp : ∀ {its : List Value}, Vals xs its → ∃ as, ReadsAll s.heap its (d :: ds) as := fun rv => Dp.readsAll I (d :: ds) xs _ (hp.mono sm).dp rv
  rcases hs with hs | hs
  · obtain ⟨its, rv, hl, _⟩ := I.list hs
    obtain ⟨as, ra⟩ := dp rv
    exact PySem.W.max_list_data (I.ok.hd hc) hl.isList ra ok.al (by omega) fun i v h' tk bs hv rd hk => best_end I sm rv hp ok (maxD_mem d ds) q i v h' tk bs hv rd hk
  · obtain ⟨its, rv, hl, _⟩ := I.tuple hs
    obtain ⟨as, ra⟩ := dp rv
    exact PySem.W.max_tuple_data (I.ok.hd hc) hl ra ok.al (by omega) fun i v h' tk bs hv rd hk => best_end I sm rv hp ok (maxD_mem d ds) q i v h' tk bs hv rd hk
theorem cr_minDL {X : Cx} (hc : X.calm = true) (hu : X.A.units + 65 < cLine) : CallR X (.builtin "min") (rBest X.K PySem.W.minD) := by
  intro pins s σ H vs us Q I r ⟨F, a, xs, d, ds, sm, e0, hs, hp, ok, q⟩
  subst e0
  rw [Vals.ref1 r]
  have hd := ok.dp
  have dp : ∀ {its : List Value}, Vals xs its → ∃ as, ReadsAll s.heap its (d :: ds) as := fun rv => Dp.readsAll I (d :: ds) xs _ (hp.mono sm).dp rv
  rcases hs with hs | hs
  · obtain ⟨its, rv, hl, _⟩ := I.list hs
    obtain ⟨as, ra⟩ := dp rv
    exact PySem.W.min_list_data (I.ok.hd hc) hl.isList ra ok.al (by omega) fun i v h' tk bs hv rd hk => best_end I sm rv hp ok (minD_mem d ds) q i v h' tk bs hv rd hk
  · obtain ⟨its, rv, hl, _⟩ := I.tuple hs
    obtain ⟨as, ra⟩ := dp rv
    exact PySem.W.min_tuple_data (I.ok.hd hc) hl ra ok.al (by omega) fun i v h' tk bs hv rd hk => best_end I sm rv hp ok (minD_mem d ds) q i v h' tk bs hv rd hk
open Classical in
noncomputable def fBest (f : D → List D → D) : List D → Option D
  | [.list (d :: ds)] => if MaxOk (d :: ds) then some (f d ds) else none
  | [.tuple (d :: ds)] => if MaxOk (d :: ds) then some (f d ds) else none
  | _ => none
noncomputable def fMaxD : List D → Option D := fBest PySem.W.maxD
noncomputable def fMinD : List D → Option D := fBest PySem.W.minD
theorem fBest_list {f : D → List D → D} {d : D} {ds : List D} (h : MaxOk (d :: ds)) : fBest f [.list (d :: ds)] = some (f d ds) := if_pos h
theorem v_best {K K' : PySem.W.Frag} {f : D → List D → D} (hk : K' = K) : VAr K (rBest K' f) (fBest f) := by
  intro F H xs as v Q S r e q
  subst hk
  match as, e, r with
  | [.list (d :: ds)], e, r =>
    simp only [fBest, Option.ite_none_right_eq_some, Option.some.injEq] at e
    obtain ⟨e1, e2⟩ := e
    subst e2
    obtain ⟨x, rfl, r1⟩ := r.one
    cases r1 with
    | lst g1 g2 => exact ⟨F, _, _, d, ds, S, rfl, .inl (SqL.of (S _ _ g1)), g2, e1, fun x h => q F H x (Xt.refl S) h⟩
  | [.tuple (d :: ds)], e, r =>
    simp only [fBest, Option.ite_none_right_eq_some, Option.some.injEq] at e
    obtain ⟨e1, e2⟩ := e
    subst e2
    obtain ⟨x, rfl, r1⟩ := r.one
    cases r1 with
    | tup g1 g2 => exact ⟨F, _, _, d, ds, S, rfl, .inr (sameT S g1), g2, e1, fun x h => q F H x (Xt.refl S) h⟩
end M

set_option Elab.async false
set_option linter.all false
set_option maxRecDepth 100000
set_option maxHeartbeats 4000000
namespace M
open PySem PySem.Spec PyProof.Rows L2
/-! ### what may not be run -/
def eBad : Ev → MM D := fun _ _ => .bad
def sBad : Ev → MM Fl := fun _ _ => .bad
section
variable {c : CM} {W : WX} {m mb mc mn : Md} {X : Cx} {e a b o : Expr} {pos : Pos}
theorem e_bad : E c W m X e eBad := ⟨fun p s σ H Q I h => by
  obtain ⟨F, ρ, ω, S, q⟩ := h
  exact False.elim q⟩
/-! ### xs.index(y) -/
def vIndex (ds : List D) (d : D) : Option D := if SeqAt.shaped (.list ds) = true ∧ SeqAt.shaped d = true then (ds.findIdx? fun z => PyData.eqv z d).map fun j => .int (j : Nat) else none
def eIndex (d1 d2 : Ev → MM D) : Ev → MM D := fun ρ ω => (d1 ρ ω).bind fun a w => match a with
  | .list ds => (d2 ρ w).bind fun b w => ofO (vIndex ds b) w
  | _ => .bad
theorem e_index {nm : PySem.Str} {p2 p3 : Pos} {d1 d2 : Ev → MM D} (hk : X.K = c.K) (ho : E c W m X o d1) (ha : E c W m X a d2) (h : PE X o (TD c W m d1) → PE X a (TD c W m d2) → PE X (.Call (.Attribute o nm p2) [a] [] p3) (tBM X.K "list" (rIndexD X.K) (TD c W m d1) (tCons (TD c W m d2) tNil))) : E c W m X (.Call (.Attribute o nm p2) [a] [] p3) (eIndex d1 d2) :=
  PEimp (h ho ha) fun σ H Q ⟨F, ρ, ω, S, q⟩ => ⟨F, ρ, ω, S, bindT S Post.pg q fun v F1 H1 w1 x1 S1 q1 x r1 => by
    cases r1 with
    | lst g1 g2 =>
      rename_i l us ds
      refine ⟨.inl ⟨rfl, us, SqL.of (S1.fh _ _ g1)⟩, F1, ρ, w1, S1, bindT S1 Post.pg q1 fun u F2 H2 w2 x2 S2 q2 y r2 => ?_⟩
      obtain ⟨z, e1, q3⟩ := post_ofO S2.fh S2.bo q2
      simp only [vIndex, Option.ite_none_right_eq_some, Option.map_eq_some_iff] at e1
      obtain ⟨⟨s1, s2⟩, j, e2, rfl⟩ := e1
      obtain ⟨k1, k2, k3⟩ := List.findIdx?_eq_some_iff_getElem.1 e2
      refine ⟨l, y, u, ds, j, ds[j], rfl, rfl, ?_, ?_, s1, s2, List.getElem?_eq_getElem k1, k2, fun i z' hi hz => ?_, q3 F2 H2 (Xt.refl S2.fh) _ (.int _)⟩
      · rw [hk]; exact ((Rp.lst g1 g2).mono (x2.ff.trans S2.fh)).dp
      · rw [hk]; exact (r2.mono S2.fh).dp
      · obtain ⟨hl, rfl⟩ := List.getElem?_eq_some_iff.1 hz
        simpa using k3 i hi
    | _ => exact q1.elim⟩
/-! ### y in xs, xs a list of one's own -/
def bInO (i : Nat) (d1 : Ev → MM D) : Ev → MM Bool := fun ρ ω => (d1 ρ ω).bind fun a w => match look ρ i with
  | some (.list ds) => ofO (vIn a (.list ds)) w
  | _ => .bad
def bNotInO (i : Nat) (d1 : Ev → MM D) : Ev → MM Bool := fun ρ ω => (d1 ρ ω).bind fun a w => match look ρ i with
  | some (.list ds) => ofO (vNotIn a (.list ds)) w
  | _ => .bad
theorem b_inO {i : Nat} {d1 : Ev → MM D} (hi : i ∈ m.O) (hk : X.K = c.K) (hu : X.A.units + 65 < cLine) (h1 : E c W m X a d1) (h2 : PE X b (tVar i)) (hm : behindInMarks .In b = false) : B c W m X (.Compare a [.In] [b] pos) (bInO i d1) :=
  PTimp (pt_cmpR (op_inD hu) h1 h2 hm) fun σ H Q ⟨F, ρ, ω, S, q⟩ => ⟨F, ρ, ω, S, bindT S Post.pg q fun v F1 H1 w1 x1 S1 q1 x r1 => by
    cases hl : look ρ i with
    | none => rw [hl] at q1; exact q1.elim
    | some u =>
      rw [hl] at q1
      obtain ⟨l, us, ds, k1, rfl, k3, k4, k5, k6⟩ := S1.own i u (look_iff hl) hi
      obtain ⟨z, e1, q3⟩ := post_ofO S1.fh S1.bo q1
      simp only [vIn, Option.ite_none_right_eq_some, Option.some.injEq] at e1
      obtain ⟨⟨s1, s2⟩, rfl⟩ := e1
      refine ⟨_, k1, v, ds, ?_, ?_, s1, s2, _, rfl, q3 F1 H1 (Xt.refl S1.fh)⟩
      · rw [hk]; exact (r1.mono S1.fh).dp
      · rw [hk]; exact .lst (SqL.of k5) (k6.mono S1.fh).dp⟩
theorem b_notInO {i : Nat} {d1 : Ev → MM D} (hi : i ∈ m.O) (hk : X.K = c.K) (hu : X.A.units + 65 < cLine) (h1 : E c W m X a d1) (h2 : PE X b (tVar i)) (hm : behindInMarks .NotIn b = false) : B c W m X (.Compare a [.NotIn] [b] pos) (bNotInO i d1) :=
  PTimp (pt_cmpR (op_notInD hu) h1 h2 hm) fun σ H Q ⟨F, ρ, ω, S, q⟩ => ⟨F, ρ, ω, S, bindT S Post.pg q fun v F1 H1 w1 x1 S1 q1 x r1 => by
    cases hl : look ρ i with
    | none => rw [hl] at q1; exact q1.elim
    | some u =>
      rw [hl] at q1
      obtain ⟨l, us, ds, k1, rfl, k3, k4, k5, k6⟩ := S1.own i u (look_iff hl) hi
      obtain ⟨z, e1, q3⟩ := post_ofO S1.fh S1.bo q1
      simp only [vNotIn, Option.ite_none_right_eq_some, Option.some.injEq] at e1
      obtain ⟨⟨s1, s2⟩, rfl⟩ := e1
      refine ⟨_, k1, v, ds, ?_, ?_, s1, s2, _, rfl, q3 F1 H1 (Xt.refl S1.fh)⟩
      · rw [hk]; exact (r1.mono S1.fh).dp
      · rw [hk]; exact .lst (SqL.of k5) (k6.mono S1.fh).dp⟩
end
end M

set_option Elab.async false
set_option linter.all false
set_option maxRecDepth 100000
set_option maxHeartbeats 4000000
namespace M
open PySem PySem.Spec PyProof.Rows L2
/-! ### {e for x in xs if ..} of ints -/
section
variable {X : Cx}
/-- how the block of the comprehension is read: the set at D grows by what te tells -/
def tSi (w : World) (wi : TI) (g : TG) (tt : TT) (te : TE) (vs : List Nat) : TE := fun σ H Q => wi σ H fun J H1 => ∀ D, H1 D = none →
  ∃ V : Nat → Nat → Hp → Prop, (∃ n0, V 0 n0 (upd H1 D (SetO w D (fun _ => false) 0))) ∧ ∀ i n Hc, V i n Hc →
    ((J.stop i Hc ∧ Q (.ref D) Hc) ∨
     (J.go i Hc ∧ ∃ Nx : Hp → Prop, (∀ Hd, Nx Hd → ∃ n', n' < n ∧ V (i + 1) n' Hd) ∧ ∀ x Hd, J.yld i Hc x Hd → g x (wipe σ vs) Hd fun σa Ha =>
       wipe σa vs = wipe σ vs ∧ tt σa Ha fun yes Hb => if yes = true then te σa Hb fun y He => ∃ (k : Int) (S : Int → Bool) (sz : Nat), y = .int k ∧ He D = some (SetO w D S sz) ∧ sz + 1 < scanBound ∧ Nx (upd He D (SetO w D (fun j => S j || decide (j = k)) (if S k = true then sz else sz + 1))) else Nx Hb))
theorem pe_setI {elt tg iter : Expr} {ifs : List Expr} {scope : Scope} {own : List (PySem.Str × Nat)} {pos : Pos} {wi : TI} {g : TG} {tt : TT} {te : TE} (calm : X.calm = true) (nd : X.N.Nodup) (it : PI X tg iter wi) (blk : BlkOk X.N X.env.scope scope own)
    (hg : ∀ (s0 : Shared) (H0 : Hp) (C : Addr) (cl : List (PySem.Str × Addr)) (fp : List Addr), PG (X.blk s0 H0 scope (compEnvC scope cl C X.env) fp) tg g)
    (ht : ∀ (s0 : Shared) (H0 : Hp) (C : Addr) (cl : List (PySem.Str × Addr)) (fp : List Addr), PTs (X.blk s0 H0 scope (compEnvC scope cl C X.env) fp) ifs tt)
    (he : ∀ (s0 : Shared) (H0 : Hp) (C : Addr) (cl : List (PySem.Str × Addr)) (fp : List Addr), PE (X.blk s0 H0 scope (compEnvC scope cl C X.env) fp) elt te)
    (hfold : ∀ x, foldedSetIterable iter X.env x = pure x := by intro _; rfl) : PE X (.SetComp elt [⟨tg, iter, ifs, 0⟩] scope pos) (tSi X.w wi g tt te (own.map (·.2))) := by
  refine ⟨fun pins s σ H Q I h => ?_⟩
  rw [PpSet.eval_SetComp]
  have frees : ∀ y ∈ scope.names, y.2 = .free → ∃ c, X.env.cells.lookup y.1 = some c := fun y hy e =>
    (blk.free y hy e).elim (fun k => I.ok.has _ (.inl k)) (fun k => I.ok.has _ (.inr k))
  refine wpAny_comprehension_free rfl hfold (closure_ok frees) blk.kind (fun y hy e => by rw [blk.uniq y hy, e]) (thn (it.run pins s σ H _ I h) fun xv sA hx => thn hx fun itv sB hB => ?_)
  obtain ⟨ia, fp, tn, J, HB, rfl, IB, T, stB, fB, q⟩ := hB
  refine PpSet.newSet_ok (newEnv_comp ?_)
  have fresh : HB sB.heap.objs.size = none := IB.hok.fresh (Nat.le_of_eq rfl)
  obtain ⟨V, ⟨n0, v0⟩, turn⟩ := q sB.heap.objs.size fresh
  -- the heap with the new set
  obtain ⟨D, hD⟩ : ∃ D, D = sB.heap.objs.size := ⟨_, rfl⟩
  rw [← hD] at v0 turn fresh ⊢
  obtain ⟨sC, hC⟩ : ∃ sC : Shared, sC = { sB with heap := sB.heap.push { cls := .type "set", dict := none, data := .set #[] 0 (.fresh 0 0 (!X.w.params.followText "set-order")) } } := ⟨_, rfl⟩
  rw [← hC]
  have hpC : sC.heap = sB.heap.push { cls := .type "set", dict := none, data := .set #[] 0 (.fresh 0 0 (!X.w.params.followText "set-order")) } := by rw [hC]
  obtain ⟨HC, hHC⟩ : ∃ HC, HC = upd HB D (SetO X.w D (fun _ => false) 0) := ⟨_, rfl⟩
  have IC : Inv X pins σ HC sC := by
    rw [hC, hHC, hD]
    exact IB.laid (t' := sB.toks) (fun b o e => Heap.get?_push_of_some _ e) (Nat.le_of_eq rfl) (setO_new (setR_fresh X.w))
  rw [← hHC] at v0
  have low : ∀ b ∈ fp, b < D := fun b hb => by
    obtain ⟨o, e, _⟩ := T.obj _ _ stB b hb
    rw [hD]; exact Heap.lt_size e
  have fC : ∀ b ∈ fp, FpOk X pins HC b ∧ b < sC.heap.objs.size := fun b hb => by
    refine ⟨⟨?_, (fB b hb).2⟩, by rw [hpC, Heap.size_push, ← hD]; exact Nat.lt_succ_of_lt (low b hb)⟩
    rw [hHC, upd_ne (Nat.ne_of_lt (low b hb))]
    exact (fB b hb).1
  have stC : tn 0 sC.heap := T.keep _ _ _ stB fun b _ o e => by rw [hpC]; exact Heap.get?_push_of_some _ e
  -- inside the block
  have ID := block_start IC blk nd fC
  obtain ⟨ce, hce⟩ : ∃ ce, ce = compEnvC scope (cellsFrom (sC.heap.objs.size + 1) scope.names (cloFrom X.env.cells scope.names [])) sC.heap.objs.size X.env := ⟨_, rfl⟩
  have pg := hg sC HC sC.heap.objs.size (cellsFrom (sC.heap.objs.size + 1) scope.names (cloFrom X.env.cells scope.names [])) fp
  have pt := ht sC HC sC.heap.objs.size (cellsFrom (sC.heap.objs.size + 1) scope.names (cloFrom X.env.cells scope.names [])) fp
  have pe := he sC HC sC.heap.objs.size (cellsFrom (sC.heap.objs.size + 1) scope.names (cloFrom X.env.cells scope.names [])) fp
  show codeAny _ _ (.compStart _ 0 (.ref ia) (.ref D) (compEnvC scope (cellsFrom (sC.heap.objs.size + 1) scope.names (cloFrom X.env.cells scope.names [])) sC.heap.objs.size X.env)) _ { sC with heap := pushCells (sC.heap.push { cls := .type "dict", data := .dict #[] }) scope.names }
  rw [← hce] at ID pg pt pe ⊢
  have locE : ce.locals = sC.heap.objs.size := by rw [hce]; rfl
  obtain ⟨sD, hsD⟩ : ∃ sD : Shared, sD = { sC with heap := pushCells (sC.heap.push { cls := .type "dict", data := .dict #[] }) scope.names } := ⟨_, rfl⟩
  rw [← hsD] at ID ⊢
  have stD : tn 0 sD.heap := T.keep _ _ _ stC fun b _ o e => by rw [hsD]; exact pushCells_keeps _ _ _ _ (Heap.get?_push_of_some _ e)
  have none0 : ∀ b ∈ fp, HC b = none := fun b hb => (fC b hb).1.1
  have fpk : ∀ {τ : L2.St} {Hx : Hp} {sx : Shared}, Inv (X.blk sC HC scope ce fp) [] τ Hx sx → (∀ b ∈ fp, Hx b = none) → ∀ b ∈ fp, FpOk (X.blk sC HC scope ce fp) [] Hx b := fun {τ Hx sx} Ix hn b hb =>
    ⟨hn b hb, (Ix.ok.exf b hb).1, Ix.ok.exfs b hb, .inl hb, fun x c e => (Ix.ok.exf b hb).2 x c e, fun p hp => by cases hp⟩
  refine (fun lp => PpSet.codeAny_compStart_set lp (T.self X.A 0 _ _ _ stD lp)) ?_
  refine PpSet.compLoopS_any (fun n sx => ∃ i Hx, Inv (X.blk sC HC scope ce fp) [] (wipe σ (own.map (·.2))) Hx sx ∧ tn i sx.heap ∧ (∀ b ∈ fp, Hx b = none) ∧ V i n Hx) ?_ n0 ⟨0, HC, ID, stD, none0, v0⟩
  rintro n s5 ⟨i, H5, I5, st5, no5, v5⟩
  rcases turn i n H5 v5 with ⟨halt, fin⟩ | ⟨go, Nx, hNx, step⟩
  · refine thnF (T.done (X.blk sC HC scope ce fp) rfl rfl rfl calm i [] s5 _ H5 (fun _ _ => False) I5 (fpk I5 no5) st5 halt) fun r s6 hr6 => ?_
    obtain ⟨rfl, I6⟩ := hr6
    have I7 : Inv X pins σ H5 s6 := IC.call' (ch := fp) I6.os I6.base I6.hok I6.bare fun b hb => by
      obtain ⟨_, z1, z2, z3, z4⟩ := (fC b hb).1
      exact ⟨z3, z1, z4.1, z4.2⟩
    have nL : H5 sC.heap.objs.size = none := by
      have z : H5 ce.locals = none := I6.free
      rwa [locE] at z
    obtain ⟨mm, hmm, _⟩ := I6.loc
    have hmm : s6.heap.Ns ce.locals mm := hmm
    rw [locE] at hmm
    obtain ⟨f0, f1, f2, f3, f4, f5⟩ := IC.fpOk (Nat.le_refl _) nL
    exact ⟨mm, hmm, fun h'' sb => ⟨.ref D, H5, I7.turned (t' := s6.toks) (fun b o hb e => (sb.2 b hb).trans e) f0 f1 f3 f4 f5, rfl, fin⟩⟩
  · refine thnF (T.item (X.blk sC HC scope ce fp) rfl rfl rfl calm i [] s5 _ H5 (fun _ _ => False) I5 (fpk I5 no5) st5 go) fun r s6 hr6 => ?_
    obtain ⟨u, rfl, h6⟩ := hr6
    refine thnF h6 fun _ s7 h7 => ?_
    obtain ⟨x, H7, I7, r7, y7, st7, no7⟩ := h7
    refine thnF (pg.run _ s7 _ H7 x u _ (I7.pinned (fpk I7 no7) (T.obj _ _ st7)) r7 (step x H7 y7)) fun _ s8 h8 => ?_
    obtain ⟨σ8, H8, I8, w8, q8⟩ := h8
    refine thnF (pt.run _ s8 σ8 H8 _ I8 q8) fun yes s9 h9 => ?_
    obtain ⟨H9, I9, q9⟩ := h9
    have back : ∀ {sx : Shared} {Hx : Hp}, Inv (X.blk sC HC scope ce fp) ([] ++ pinsAt fp s7.heap) σ8 Hx sx → Nx Hx → ∃ m, m < n ∧ ∃ i Hy, Inv (X.blk sC HC scope ce fp) [] (wipe σ (own.map (·.2))) Hy sx ∧ tn i sx.heap ∧ (∀ b ∈ fp, Hy b = none) ∧ V i m Hy := by
      intro sx Hx Ix nx
      obtain ⟨m', lt, v'⟩ := hNx Hx nx
      have held : ∀ b ∈ fp, ∀ o, s7.heap.get? b = some o → sx.heap.get? b = some o ∧ Hx b = none := fun b hb o e => by
        have z := Ix.pin (b, o) (List.mem_append_right _ (List.mem_append_right _ (mem_pinsAt hb e)))
        exact ⟨z.1, z.2.1⟩
      refine ⟨m', lt, i + 1, Hx, (Ix.unpinned (pins := [])).weak (by rw [← w8, wipe_length]) (fun j v e => ?_), T.keep _ _ _ st7 fun b hb o e => (held b hb o e).1, fun b hb => ?_, v'⟩
      · exact (wipe_some (by rw [w8]; exact e)).1
      · obtain ⟨o, e, _⟩ := T.obj _ _ st7 b hb
        exact (held b hb o e).2
    cases yes with
    | false => exact back I9 q9
    | true =>
      refine thnF (pe.run _ s9 σ8 H9 _ I9 q9) fun z s10 h10 => ?_
      obtain ⟨yv, H10, I10, r10, k, S0, sz, rfl, hd10, room, nx⟩ := h10
      obtain ⟨tk, rfl⟩ := r10
      refine wpAny_mono (mt_sadd (X := X.blk sC HC scope ce fp) _ s10 σ8 H10 (.ref D) [.int k] (.ref D) [.int k tk] (fun _ Hz => Nx Hz) I10 rfl (.cons ⟨tk, rfl⟩ .nil) ⟨D, k, S0, sz, rfl, rfl, hd10, room, nx⟩) (fun _ s11 h11 => ?_) fun _ _ e => False.elim e
      obtain ⟨_, Hz, I11, _, nz⟩ := h11
      exact back I11 nz
end
end M

set_option Elab.async false
set_option linter.all false
set_option maxRecDepth 100000
set_option maxHeartbeats 4000000
namespace M
open PySem PySem.Spec PyProof.Rows L2
/-! ### sorted({..}) of ints -/
section
variable {c : CM} {W : WX} {m : Md} {X : Cx} {elt tg iter : Expr} {ifs : List Expr} {pos p p2 p3 : Pos}
def TSet (c : CM) (W : WX) (m : Md) (w : World) (d : Ev → MM (List D)) : TE := fun σ H Q => ∃ F ρ ω, SR c m F ρ ω σ H ∧ (∀ ds w, d ρ ω = .ok ds w → ∃ ns, intsOf ds = some ns ∧ setOk ns.length) ∧
  Post c W F H σ (fun ds F' H' _ => ∀ ns l sz, intsOf ds = some ns → H l = none → F' l = none → H' l = some (SetO w l (fun j => decide (j ∈ ns)) sz) → Q (.ref l) H') (d ρ ω)
theorem sc_imp {is vs : List Nat} {di : Ev → MM (List D)} {g : D → Ev → Option Ev} {t : Ev → MM Bool} {d : Ev → MM D} {mt : Md} {w : World} (hv : ∀ v ∈ vs, m.Fr v) (his : ∀ i ∈ is, i ∈ vs) :
    ∀ σ H Q, TSet c W m w (lcD di g t d vs) σ H Q → tSi w (TID c W m di) (TGD c (m.delL vs) mt is g) (TDb c W0 mt t) (TD c W0 mt d) vs σ H Q := fun σ H Q ⟨F, ρ, ω, S, hi, q⟩ => by
  have hi : ∀ items w1 out wf, di ρ ω = .ok items w1 → items.length ≤ sizeLine → lcGo g t d (wipeD ρ vs) items w1 = .ok out wf → ∃ ns, intsOf out = some ns ∧ setOk ns.length := fun items w1 out wf h1 h2 h3 => hi out wf (by unfold lcD; rw [h1, bind_ok, if_pos h2, h3])
  unfold lcD at q
  cases hdi : di ρ ω with
  | bad => rw [hdi] at q; exact q.elim
  | exc e w => refine ⟨F, ρ, ω, S, ?_⟩; rw [hdi] at q ⊢; exact q
  | ok items0 w0 =>
  rw [hdi] at hi
  have hi := fun out wf => hi items0 w0 out wf rfl
  refine ⟨F, ρ, ω, S, ?_⟩
  rw [hdi, bind_ok] at q
  rw [hdi]
  intro F1 H1 x1 bo1 J hJ
  have S1 := S.step x1 bo1
  have q1 := Post.pg.mono F H F1 H1 _ x1 q
  generalize items0 = items at *
  generalize w0 = w1 at *
  intro D1 hD
  by_cases hz : items.length ≤ sizeLine
  · rw [if_pos hz] at q1
    have SW := S1.wipe hv
    obtain ⟨out, wf, hout⟩ : ∃ out wf, lcGo g t d (wipeD ρ vs) items w1 = .ok out wf := by
      cases e : lcGo g t d (wipeD ρ vs) items w1 with
      | bad => rw [e] at q1; exact q1.elim
      | exc ee vv => exact absurd e (lcGo_noexc _ _ _ _ _ _ _ _)
      | ok a b => exact ⟨a, b, rfl⟩
    rw [hout] at q1
    have hbD : c.b ≠ some D1 := new_ne_b S1 hD
    have hD0 : H D1 = none := by
      cases z : H D1 with
      | none => rfl
      | some o => exact absurd hD (x1.dom D1 (by rw [z]; simp))
    obtain ⟨ns, hns, hset⟩ := hi out wf (by assumption) hout
    have hmap := intsOf_eq hns
    refine ⟨fun i n H' => n = items.length - i ∧ i ≤ items.length ∧ ∃ F' ω', ∃ (acc : List Int), ∃ rest sz, Xt c.b F1 H1 F' H' ∧ BorOk c F' ω' H' ∧ F' D1 = none ∧ H' D1 = some (SetO w D1 (fun j => decide (j ∈ acc)) sz) ∧ sz ≤ acc.length ∧ lcGo g t d (wipeD ρ vs) (items.drop i) ω' = .ok rest wf ∧ ns.map PyData.int = acc.map PyData.int ++ rest, ?_, ?_⟩
    · refine ⟨_, rfl, Nat.zero_le _, F1, w1, [], out, 0, Xt.alloc0 S1.fh hD, S1.bo.ext (Xt.alloc0 S1.fh hD), Same.none S1.fh hD, by rw [upd_same]; simp, Nat.le_refl _, hout, by rw [← hmap]; rfl⟩
    · rintro i n H' ⟨rfl, hi, F', ω', acc, rest, sz, x', bo', fD, hD', hsz, hgo, hsum⟩
      by_cases hlt : i < items.length
      · refine .inr ⟨hJ.go i F' H' hlt x'.ff x'.fh, fun H2 => ∃ F2 ω2, ∃ (acc2 : List Int), ∃ rest2 sz2, Xt c.b F1 H1 F2 H2 ∧ BorOk c F2 ω2 H2 ∧ F2 D1 = none ∧ H2 D1 = some (SetO w D1 (fun j => decide (j ∈ acc2)) sz2) ∧ sz2 ≤ acc2.length ∧ lcGo g t d (wipeD ρ vs) (items.drop (i + 1)) ω2 = .ok rest2 wf ∧ ns.map PyData.int = acc2.map PyData.int ++ rest2, fun H2 hN => ⟨items.length - (i + 1), by omega, rfl, hlt, hN⟩, fun x H2 y => ?_⟩
        obtain ⟨F2, xt2, r2⟩ := hJ.yld i items[i] F' H' x H2 (by simp [hlt]) x'.ff x'.fh y
        rw [List.drop_eq_getElem_cons hlt, lcGo] at hgo
        obtain ⟨ρ1, w2, e1, hgo1⟩ := bind_split hgo
        have eg : g items[i] (wipeD ρ vs) = some ρ1 ∧ w2 = ω' := by
          cases q : g items[i] (wipeD ρ vs) with
          | none => rw [q] at e1; cases e1
          | some z => rw [q] at e1; cases e1; exact ⟨rfl, rfl⟩
        obtain ⟨eg, rfl⟩ := eg
        obtain ⟨b, w3, e2, hgo2⟩ := bind_split hgo1
        have e2 := noX_ne e2
        have x2' : Xt c.b F1 H1 F2 H2 := x'.trans xt2.any
        have bo2 := bo'.ext xt2
        have S2 : SR c (m.delL vs) F2 (wipeD ρ vs) w2 (L2.wipe σ vs) H2 := SW.step x2' bo2
        refine ⟨F2, wipeD ρ vs, w2, items[i], ρ1, S2, r2, eg, fun σ2 S3 off => ⟨wipe_off off his, ?_⟩⟩
        refine ⟨F2, ρ1, w2, S3, ?_⟩
        rw [e2]
        intro F3 H3 xt3 bo3
        have D3 : H3 D1 = some (SetO w D1 (fun j => decide (j ∈ acc)) sz) := xt3.keep D1 _ (xt2.keep D1 _ hD' (by simp)) hbD
        have F3D : F3 D1 = none := by
          rw [xt3.new D1 (by rw [xt2.keep D1 _ hD' (by simp)]; simp), xt2.new D1 (by rw [hD']; simp)]
          exact fD
        cases b with
        | false => exact iteF ⟨F3, w3, acc, rest, sz, x2'.trans xt3, bo3, F3D, D3, hsz, hgo2, hsum⟩
        | true =>
          obtain ⟨yv, w4, e3, hgo3⟩ := bind_split hgo2
          have e3 := noX_ne e3
          obtain ⟨ys, w5, e4, hgo4⟩ := bind_split hgo3
          cases hgo4
          refine iteT ⟨F3, ρ1, w3, S3.step xt3 bo3, ?_⟩
          rw [e3]
          intro F4 H4 xt4 bo4 z rz
          have D4 : H4 D1 = some (SetO w D1 (fun j => decide (j ∈ acc)) sz) := xt4.keep D1 _ D3 hbD
          have F4D : F4 D1 = none := by rw [xt4.new D1 (by rw [D3]; simp)]; exact F3D
          -- the value is an int
          obtain ⟨l1, l2, hl, h1, h2⟩ := List.map_eq_append_iff.1 hsum
          obtain ⟨k, l3, hk3, hk1, hk2⟩ := List.map_eq_cons_iff.1 h2
          subst hk1
          cases rz
          have hlen : acc.length + 1 ≤ ns.length := by
            have e5 := congrArg List.length hsum
            simp at e5
            omega
          refine ⟨k, _, sz, rfl, D4, by unfold setOk at hset; omega, F4, w4, acc ++ [k], ys, if decide (k ∈ acc) = true then sz else sz + 1, ?_, ?_, F4D, ?_, ?_, e4, by rw [hsum]; simp⟩
          · have xx := (x2'.trans xt3).trans xt4
            refine ⟨xx.ff, fun a o e => ?_, fun a o e nn => ?_, fun a h => ?_, xx.new⟩
            · have ha : a ≠ D1 := fun zz => by rw [zz, F4D] at e; cases e
              rw [upd_ne ha]; exact xx.fh _ _ e
            · have ha : a ≠ D1 := fun zz => by rw [zz, hD] at e; cases e
              rw [upd_ne ha]; exact xx.keep a o e nn
            · by_cases ha : a = D1
              · rw [ha, upd_same]; simp
              · rw [upd_ne ha]; exact xx.dom a h
          · intro b' hb'
            obtain ⟨b0, b1, bu, b2, b3⟩ := bo4 b' hb'
            have hne : b' ≠ D1 := fun zz => hbD (zz ▸ hb')
            exact ⟨b0, b1, bu, by rw [upd_ne hne]; exact b2, b3⟩
          · rw [upd_same]
            have : (fun j => decide (j ∈ acc) || decide (j = k)) = fun j => decide (j ∈ acc ++ [k]) := by
              funext j
              simp
            rw [this]
          · split <;> simp <;> omega
      · have e : i = items.length := by omega
        subst e
        rw [List.drop_length] at hgo
        cases hgo
        simp only [List.append_nil] at hsum
        have e6 : ns = acc := by
          have := congrArg intsOf hsum
          simpa using this
        exact .inl ⟨hJ.stop F' H' x'.ff x'.fh, q1 F' H' x' bo' ns D1 sz hns hD0 fD (by rw [e6]; exact hD')⟩
  · rw [if_neg hz] at q1
    exact q1.elim
theorem e_sortedSC {scope : Scope} {own : List (PySem.Str × Nat)} {vs is : List Nat} {mt : Md} {di : Ev → MM (List D)} {g : D → Ev → Option Ev} {t : Ev → MM Bool} {d : Ev → MM D} (hk : X.K = c.K) (hc : X.calm = true) (hN : X.N.Nodup) (hg0 : Gl X "sorted") (hm0 : X.mg "sorted" = none)
    (hi : PI X tg iter (TID c W m di)) (ok : BlkOk X.N X.env.scope scope own)
    (hg : ∀ (s : Shared) (H : Hp) (C : Addr) (cl : List (PySem.Str × Addr)) (fp : List Addr), PG (X.blk s H scope (compEnvC scope cl C X.env) fp) tg (TGD c (m.delL vs) mt is g))
    (ht : ∀ (s : Shared) (H : Hp) (C : Addr) (cl : List (PySem.Str × Addr)) (fp : List Addr), PTs (X.blk s H scope (compEnvC scope cl C X.env) fp) ifs (TDb c W0 mt t))
    (he : ∀ (s : Shared) (H : Hp) (C : Addr) (cl : List (PySem.Str × Addr)) (fp : List Addr), PE (X.blk s H scope (compEnvC scope cl C X.env) fp) elt (TD c W0 mt d))
    (hvs : own.map (·.2) = vs := by rfl) (hv : ∀ v ∈ vs, m.Fr v := by decide) (his : ∀ i ∈ is, i ∈ vs := by decide) (hs : ∀ x, foldedSetIterable iter X.env x = pure x := by intro _; rfl)
    (h2 : starEach [.SetComp elt [⟨tg, iter, ifs, 0⟩] scope p3] X.env = (false, eval (.SetComp elt [⟨tg, iter, ifs, 0⟩] scope p3) X.env) :: starEach [] X.env := by rfl) :
    E c W m X (.Call (.Name "sorted" p) [.SetComp elt [⟨tg, iter, ifs, 0⟩] scope p3] [] pos) (eArgs fSortSet (aCons (eOfF (lcD di g t d vs)) aNil)) := by
  subst hvs
  have hset := pe_setI (pos := p3) hc hN hi ok hg ht he hs
  refine PEimp (pe_callB (cr_sortedSetG hc) hg0 hm0 boot_sorted (pa_cons hset pa_nil h2) (by decide) (by decide) h2 rfl) fun σ H Q ⟨F, ρ, ω, S, q⟩ => ?_
  have q' : Post c W F H σ (fun v F' H' _ => ∀ x, Rp c.K F' x v → Q x H') ((lcD di g t d (own.map (·.2)) ρ ω).bind fun ds w => ofO (fSortSet [.list ds]) w) := by
    unfold eArgs aCons aNil eOfF at q
    cases hd : lcD di g t d (own.map (·.2)) ρ ω <;> simpa [hd] using q
  show tSi X.w _ _ _ _ _ σ H fun x H1 => rSortedSetG X.w [x] H1 Q
  refine sc_imp (w := X.w) (mt := mt) hv his σ H _ ⟨F, ρ, ω, S, fun ds w e => ?_, bindT S Post.pg q' fun ds F1 H1 w1 x1 S1 q1 => ?_⟩
  · rw [e, bind_ok] at q'
    cases hf : fSortSet [.list ds] with
    | none => rw [hf] at q'; exact q'.elim
    | some v =>
      simp only [fSortSet, Option.bind_eq_some_iff, Option.ite_none_right_eq_some, Option.some.injEq] at hf
      obtain ⟨ns, e2, e3, _⟩ := hf
      exact ⟨ns, e2, e3⟩
  obtain ⟨z, e1, q3⟩ := post_ofO S1.fh S1.bo q1
  simp only [fSortSet, Option.bind_eq_some_iff, Option.ite_none_right_eq_some, Option.some.injEq] at e1
  obtain ⟨ns, e2, e3, rfl⟩ := e1
  intro ns' l sz e4 hl fl hl1
  rw [e2] at e4
  cases e4
  refine ⟨l, _, sz, rfl, hl1, fun ms p1 k1 k2 np1 => ?_⟩
  have : ms = sortU ns := lt_ext k1 (sortU_lt ns) fun k => by rw [k2 k, mem_sortU]; simp
  subst this
  exact rp_new_lst S1.fh np1 (RpL.of_ints _) fun F' H' z' xt rz => q3 F' H' xt z' rz
end
end M

set_option Elab.async false
set_option linter.all false
set_option maxRecDepth 100000
set_option maxHeartbeats 4000000
namespace M
open PySem PySem.Spec PyProof.Rows L2
/-! ### max of two -/
section
variable {prog : Program} {w : World} {A : Around} {E : Value → Shared → Prop} {s : Shared}
theorem max2_call {a b : Value} {da db : D} {as bs : List Addr} {Q : Value → Shared → Prop} (hh : A.handled = none) (ra : Reads s.heap a da as) (rb : Reads s.heap b db bs) (al : PySem.W.AlikeAll [da, db]) (hu : A.units + 3 + PyData.depthAll [da, db] < cLine)
    (h : ∀ h' tk, (∀ b o, s.heap.get? b = some o → h'.get? b = some o) → Q (if PySem.W.dataLt da db = true then b else a) { s with heap := h', toks := tk }) : wpAny (model prog w) A (call (.builtin "max") [a, b]) Q E s := by
  obtain ⟨s1, hs1⟩ : ∃ s1 : Shared, s1 = { s with heap := s.heap.push { cls := .type "tuple", data := .seq #[a, b] } } := ⟨_, rfl⟩
  have k1 : ∀ c o, s.heap.get? c = some o → s1.heap.get? c = some o := fun c o e => by rw [hs1]; exact Heap.get?_push_of_some _ e
  have ht : s1.heap.IsTuple s.heap.objs.size #[a, b] := by rw [hs1]; exact ⟨_, Heap.get?_push_size _ rfl, rfl, _, rfl⟩
  have rs : ReadsAll s1.heap [a, b] [da, db] (as ++ (bs ++ [])) := .cons (PySem.W.reads_keeps k1 ra) (.cons (PySem.W.reads_keeps k1 rb) .nil)
  refine call_function_tree F.kind_max F.plain_max F.entry_max (F.args_max2 a b) ?_
  refine wpAny_bind (wpAny_of_eq (a := [none, none]) rfl ?_)
  show wpAny _ A.in1 (newTuple [a, b] >>= fun v => _) _ _ s
  refine wpAny_bind (wpAny_newObj_type ?_)
  rw [← hs1]
  refine wpAny_bind (PySem.W.iter_tupleW (A := A.in1) (s := s1) hh ht fun s2 e2 W st hfp hw hk => ?_)
  have out : s2.heap.objs.size ∉ [s1.heap.objs.size, s.heap.objs.size] := fun hm => Nat.lt_irrefl _ (hfp _ hm)
  refine wpAny_bind (wpAny_newObj_type ?_)
  rw [show (toString "max" ++ toString ".loop" : String) = "max.loop" by decide]
  refine wpAny_pure ⟨plainId_quiet F.plain_max_loop _, PySem.codeAny_max_loop_firstH W s1.heap hw _ (PySem.W.cmpIn_gt (A := A.in1) (vs := #[a, b]) rs al (by show A.units + 1 + _ < _; omega)) s2.heap.objs.size out (PySem.fresh_in hk) _ (by show 0 < 2; omega)
    (fun c o e => Heap.get?_push_of_some _ (hk c o e)) (W.frame 0 s2 _ s2.toks st (Nat.le_refl _) fun c _ o e => Heap.get?_push_of_some _ e) (Heap.get?_push_size _ rfl) fun v s' hP hm => ?_⟩
  obtain ⟨h', tk, rfl, k'⟩ := PySem.W.moved_old e2 rfl (PySem.Moved.drop_new (tk := s2.toks) hm (Nat.le_refl _))
  have hv : v = if PySem.W.dataLt da db = true then b else a := by
    have hP : (#[a, b] : Array Value)[argBest _ 1]? = some v := hP
    by_cases z : PySem.W.dataLt da db = true
    · simp [argBest, z] at hP
      rw [if_pos z, hP]
    · simp [argBest, z] at hP
      rw [if_neg z, hP]
  rw [hv, hs1]
  exact h h' tk fun c o e => k' c o (k1 c o e)
end
theorem units_in {X : Cx} (hu : X.A.units + 65 < cLine) : X.A.units + 65 < cLine := hu
def rMax2 (K : PySem.W.Frag) : List V → Hp → VK → Prop := fun vs H Q => ∃ (F : Hp) (x y : V) (d e : D), Same F H ∧ vs = [x, y] ∧ Rp K F x d ∧ Rp K F y e ∧ MaxOk [d, e] ∧ ∀ z, Rp K F z (if PySem.W.dataLt d e = true then e else d) → Q z H
theorem cr_max2D {X : Cx} (hc : X.calm = true) (hu : X.A.units + 65 < cLine) : CallR X (.builtin "max") (rMax2 X.K) := by
  intro pins s σ H vs us Q I r ⟨F, x, y, d, e, sm, e0, h1, h2, ok, q⟩
  subst e0
  obtain ⟨u, u', rfl, r1, r2⟩ := vals2 r
  obtain ⟨as, ra⟩ := Dp.reads I d x u (h1.mono sm).dp r1
  obtain ⟨bs, rb⟩ := Dp.reads I e y u' (h2.mono sm).dp r2
  have := ok.dp
  refine max2_call (I.ok.hd hc) ra rb ok.al (by omega) fun h' tk hk => ?_
  by_cases z : PySem.W.dataLt d e = true
  · rw [if_pos z] at q ⊢
    exact ⟨y, H, I.kept hk, r2, q y h2⟩
  · rw [if_neg z] at q ⊢
    exact ⟨x, H, I.kept hk, r1, q x h1⟩
open Classical in
noncomputable def fMax2D : List D → Option D
  | [d, e] => if MaxOk [d, e] then some (if PySem.W.dataLt d e = true then e else d) else none
  | _ => none
theorem fMax2D_ok {d e : D} (h : MaxOk [d, e]) : fMax2D [d, e] = some (if PySem.W.dataLt d e = true then e else d) := if_pos h
theorem v_max2D {K K' : PySem.W.Frag} (hk : K' = K) : VAr K (rMax2 K') fMax2D := by
  intro F H xs as v Q S r e q
  subst hk
  match as, e, r with
  | [d, e'], e, r =>
    simp only [fMax2D, Option.ite_none_right_eq_some, Option.some.injEq] at e
    obtain ⟨e1, e2⟩ := e
    subst e2
    obtain ⟨x, y, rfl, r1, r2⟩ := r.two
    exact ⟨F, x, y, d, e', S, rfl, r1, r2, e1, fun z h => q F H z (Xt.refl S) h⟩
end M

set_option Elab.async false
set_option linter.all false
set_option maxRecDepth 100000
set_option maxHeartbeats 4000000
namespace M
open PySem PySem.Spec PyProof.Rows L2
/-! ### tuples of ints in order -/
def rLt : List Int → List Int → Bool
  | [], [] => false
  | [], _ :: _ => true
  | _ :: _, [] => false
  | x :: xs, y :: ys => if x = y then rLt xs ys else decide (x < y)
theorem rLt_irrefl : ∀ a, rLt a a = false
  | [] => rfl
  | x :: xs => by simp [rLt, rLt_irrefl xs]
theorem rLt_trans : ∀ {a b c}, rLt a b = true → rLt b c = true → rLt a c = true
  | [], [], _, h, _ => by simp [rLt] at h
  | [], _ :: _, [], _, h => by simp [rLt] at h
  | [], _ :: _, _ :: _, _, _ => rfl
  | _ :: _, [], _, h, _ => by simp [rLt] at h
  | _ :: _, _ :: _, [], _, h => by simp [rLt] at h
  | x :: xs, y :: ys, z :: zs, h1, h2 => by
    simp only [rLt] at h1 h2 ⊢
    by_cases e1 : x = y
    · subst e1
      rw [if_pos rfl] at h1
      by_cases e2 : x = z
      · rw [if_pos e2] at h2 ⊢; exact rLt_trans h1 h2
      · rw [if_neg e2] at h2 ⊢; exact h2
    · rw [if_neg e1] at h1
      have h1 := of_decide_eq_true h1
      by_cases e2 : y = z
      · subst e2; rw [if_neg e1]; exact decide_eq_true h1
      · rw [if_neg e2] at h2
        have h2 := of_decide_eq_true h2
        rw [if_neg (by omega)]
        exact decide_eq_true (by omega)
theorem rLt_tri : ∀ {a b}, rLt a b = false → rLt b a = false → a = b
  | [], [], _, _ => rfl
  | [], _ :: _, h, _ => by simp [rLt] at h
  | _ :: _, [], _, h => by simp [rLt] at h
  | x :: xs, y :: ys, h1, h2 => by
    simp only [rLt] at h1 h2
    by_cases e : x = y
    · subst e
      rw [if_pos rfl] at h1 h2
      rw [rLt_tri h1 h2]
    · rw [if_neg e] at h1
      rw [if_neg (fun z => e z.symm)] at h2
      have h1 := of_decide_eq_false h1
      have h2 := of_decide_eq_false h2
      omega
def encR (r : List Int) : D := .tuple (r.map .int)
theorem toks_rows : ∀ (r q : List Int), PyProof.Rows.lexLt PyProof.Rows.itemOrd (PySem.W.keyToksAll (r.map .int)) (PySem.W.keyToksAll (q.map .int)) = rLt r q
  | [], [] => by simp [PySem.W.keyToksAll, rLt]; exact PyProof.Rows.lex_irrefl _
  | [], y :: ys => by
    have := PySem.W.dataLt_tuple [] (List.map PyData.int (y :: ys))
    simp only [List.map_nil]
    rw [← this]
    simp only [rLt]
    exact (by first | rfl | decide | simp [PySem.W.dataLt, PySem.W.keyToks, PySem.W.keyToksAll, PyProof.Rows.lex_cons, PyProof.Rows.lex_irrefl, PyProof.Rows.itemLt])
  | x :: xs, [] => by
    have := PySem.W.dataLt_tuple (List.map PyData.int (x :: xs)) []
    simp only [List.map_nil]
    rw [← this]
    simp only [rLt]
    exact (by first | rfl | decide | simp [PySem.W.dataLt, PySem.W.keyToks, PySem.W.keyToksAll, PyProof.Rows.lex_cons, PyProof.Rows.lex_irrefl, PyProof.Rows.itemLt])
  | x :: xs, y :: ys => by
    have al : PySem.W.alike (.int x) (.int y) = true := rfl
    simp only [List.map_cons, rLt]
    by_cases e : x = y
    · subst e
      rw [PySem.W.dataLt_all_yes al (by simp [PyData.eqv]), if_pos rfl]
      exact toks_rows xs ys
    · rw [PySem.W.dataLt_all_no al (by simp [PyData.eqv, e]), if_neg e, PySem.W.dataLt_int]
theorem dataLt_row (r q : List Int) : PySem.W.dataLt (encR r) (encR q) = rLt r q := by
  unfold encR
  rw [PySem.W.dataLt_tuple]
  exact toks_rows r q
theorem alike_row (r q : List Int) : PySem.W.alike (encR r) (encR q) = true := PySem.W.alike_ints r q
theorem depth_row (r : List Int) : (encR r).depth = 1 := by
  simp only [encR, PyData.depth, PySem.W.depth_ints]
def leR (a b : List Int) : Bool := !rLt b a
theorem leD_row (r q : List Int) : leD (encR r) (encR q) = leR r q := by
  show (!PySem.W.dataLt (encR q) (encR r)) = _
  rw [dataLt_row]; rfl
theorem perm_sorted {α : Type} {le : α → α → Prop} (anti : ∀ a b, le a b → le b a → a = b) : ∀ {l m : List α}, l.Pairwise le → m.Pairwise le → l.Perm m → l = m
  | [], m, _, _, h => (List.perm_nil.1 h.symm).symm
  | x :: l, [], _, _, h => (List.perm_nil.1 h)
  | x :: l, y :: m, h1, h2, h => by
    obtain ⟨a1, a2⟩ := List.pairwise_cons.1 h1
    obtain ⟨b1, b2⟩ := List.pairwise_cons.1 h2
    have e : x = y := by
      rcases List.mem_cons.1 (h.mem_iff.1 (List.mem_cons_self (a := x) (l := l))) with e | hx
      · exact e
      · rcases List.mem_cons.1 (h.mem_iff.2 (List.mem_cons_self (a := y) (l := m))) with e | hy
        · exact e.symm
        · exact anti _ _ (a1 y hy) (b1 x hx)
    subst e
    rw [perm_sorted anti a2 b2 h.cons_inv]
theorem leR_anti (a b : List Int) (h1 : leR a b = true) (h2 : leR b a = true) : a = b := by
  unfold leR at h1 h2
  exact rLt_tri (by simpa using h2) (by simpa using h1)
theorem leR_trans (a b c : List Int) (h1 : leR a b = true) (h2 : leR b c = true) : leR a c = true := by
  unfold leR at *
  simp only [Bool.not_eq_true'] at *
  cases e : rLt c a with
  | false => rfl
  | true =>
    cases e2 : rLt a b with
    | true => rw [rLt_trans e e2] at h2; cases h2
    | false =>
      have : a = b := rLt_tri e2 h1
      subst this
      rw [e] at h2; cases h2
theorem leR_total (a b : List Int) : (leR a b || leR b a) = true := by
  unfold leR
  cases e : rLt b a with
  | false => rfl
  | true =>
    cases e2 : rLt a b with
    | false => rfl
    | true => have := rLt_trans e e2; rw [rLt_irrefl] at this; cases this
def sortR (rs : List (List Int)) : List (List Int) := rs.mergeSort leR
theorem sortR_perm (rs : List (List Int)) : (sortR rs).Perm rs := List.mergeSort_perm _ _
theorem sortR_srt (rs : List (List Int)) : (sortR rs).Pairwise fun a b => leR a b = true := List.pairwise_mergeSort leR_trans leR_total rs
theorem sortR_eq {rs qs : List (List Int)} (h : rs.Perm qs) (hs : qs.Pairwise fun a b => leR a b = true) : sortR rs = qs := perm_sorted leR_anti (sortR_srt rs) hs ((sortR_perm rs).trans h)
theorem sortD_rows (rs : List (List Int)) : sortD (rs.map encR) = (sortR rs).map encR := by
  unfold sortD sortR
  rw [List.map_mergeSort (f := encR) (s := leD) (r := leR) (l := rs) fun a _ b _ => (leD_row a b).symm]
theorem srtOk_rows {rs : List (List Int)} (h : ∀ r ∈ rs, r ≠ []) (hl : rs.length ≤ sizeLine) : SrtOk (rs.map encR) where
  al := PySem.W.AllAlike.of alike_row
  so := .inl fun d hd => by
    obtain ⟨r, hr, rfl⟩ := List.mem_map.1 hd
    cases r with
    | nil => exact absurd rfl (h _ hr)
    | cons x xs => exact ⟨.int x, xs.map .int, rfl⟩
  len := by rw [List.length_map]; exact hl
  dp := fun d hd => by
    obtain ⟨r, _, rfl⟩ := List.mem_map.1 hd
    rw [depth_row]; omega
theorem fSortD_rows {rs : List (List Int)} (h : ∀ r ∈ rs, r ≠ []) (hl : rs.length ≤ sizeLine) : fSortD [.list (rs.map encR)] = some (.list ((sortR rs).map encR)) := by
  rw [fSortD_ok (srtOk_rows h hl), sortD_rows]
theorem depthAll_rows : ∀ rs : List (List Int), PyData.depthAll (rs.map encR) ≤ 1
  | [] => by simp [PyData.depthAll]
  | r :: rs => by
    have := depthAll_rows rs
    simp only [List.map_cons, PyData.depthAll, depth_row]
    omega
theorem maxOk_rows (rs : List (List Int)) : MaxOk (rs.map encR) where
  al := ⟨fun x hx y hy => by
    obtain ⟨r, _, rfl⟩ := List.mem_map.1 hx
    obtain ⟨q, _, rfl⟩ := List.mem_map.1 hy
    exact alike_row r q, fun x hx => by
    obtain ⟨r, _, rfl⟩ := List.mem_map.1 hx
    intro z; cases z⟩
  dp := Nat.le_trans (depthAll_rows rs) (by omega)
def minR (r : List Int) (rs : List (List Int)) : List Int := rs.foldl (fun a y => if rLt y a then y else a) r
def maxR (r : List Int) (rs : List (List Int)) : List Int := rs.foldl (fun a y => if rLt a y then y else a) r
theorem minD_rows (r : List Int) (rs : List (List Int)) : PySem.W.minD (encR r) (rs.map encR) = encR (minR r rs) := by
  unfold PySem.W.minD minR
  induction rs generalizing r with
  | nil => rfl
  | cons q qs ih =>
    simp only [List.map_cons, List.foldl_cons, dataLt_row]
    cases rLt q r with
    | true => exact ih q
    | false => exact ih r
theorem maxD_rows (r : List Int) (rs : List (List Int)) : PySem.W.maxD (encR r) (rs.map encR) = encR (maxR r rs) := by
  unfold PySem.W.maxD maxR
  induction rs generalizing r with
  | nil => rfl
  | cons q qs ih =>
    simp only [List.map_cons, List.foldl_cons, dataLt_row]
    cases rLt r q with
    | true => exact ih q
    | false => exact ih r
theorem fMinD_rows (r : List Int) (rs : List (List Int)) : fMinD [.list ((r :: rs).map encR)] = some (encR (minR r rs)) := by
  have := maxOk_rows (r :: rs)
  show fBest PySem.W.minD [.list (encR r :: rs.map encR)] = _
  rw [fBest_list this, minD_rows]
theorem fMax2D_rows (r q : List Int) : fMax2D [encR r, encR q] = some (encR (if rLt r q then q else r)) := by
  rw [fMax2D_ok (maxOk_rows [r, q]), dataLt_row]
  cases rLt r q <;> rfl
theorem okC_row (r q : List Int) : okC (encR r) (encR q) = true := by
  unfold okC
  rw [alike_row, depth_row, depth_row]
  rfl
theorem gLt_row (r q : List Int) : gLt (encR r) (encR q) = some (rLt r q) := by
  unfold gLt gCmp; rw [if_pos (okC_row r q)]; exact congrArg some (dataLt_row r q)
theorem gGt_row (r q : List Int) : gGt (encR r) (encR q) = some (rLt q r) := by
  unfold gGt gCmp; rw [if_pos (okC_row r q)]; exact congrArg some (dataLt_row q r)

/-! ### sorted(set(xs)) of tuples of ints -/
def insR (x : List Int) : List (List Int) → List (List Int)
  | [] => [x]
  | y :: r => if x = y then y :: r else if rLt x y then x :: y :: r else y :: insR x r
def sortUR : List (List Int) → List (List Int)
  | [] => []
  | x :: r => insR x (sortUR r)
theorem mem_insR (x : List Int) : ∀ (l : List (List Int)) (z), z ∈ insR x l ↔ z = x ∨ z ∈ l
  | [], z => by simp [insR]
  | y :: r, z => by
    unfold insR
    split
    · rename_i e; subst e; simp
    · split
      · simp
      · simp [mem_insR x r z]
        exact ⟨fun h => by rcases h with h | h | h <;> simp [h], fun h => by rcases h with h | h | h <;> simp [h]⟩
theorem mem_sortUR : ∀ (l : List (List Int)) (z), z ∈ sortUR l ↔ z ∈ l
  | [], z => by simp [sortUR]
  | x :: r, z => by rw [sortUR, mem_insR, mem_sortUR r z]; simp
theorem insR_lt (x : List Int) : ∀ l : List (List Int), l.Pairwise (fun a b => rLt a b = true) → (insR x l).Pairwise fun a b => rLt a b = true
  | [], _ => List.pairwise_singleton _ _
  | y :: r, h => by
    obtain ⟨h1, h2⟩ := List.pairwise_cons.1 h
    unfold insR
    split
    · exact h
    · rename_i ne
      split
      · rename_i lt
        refine List.pairwise_cons.2 ⟨fun z hz => ?_, h⟩
        rcases List.mem_cons.1 hz with rfl | hz
        · exact lt
        · exact rLt_trans lt (h1 z hz)
      · rename_i nlt
        refine List.pairwise_cons.2 ⟨fun z hz => ?_, insR_lt x r h2⟩
        rcases (mem_insR x r z).1 hz with rfl | hz
        · cases e : rLt y z with
          | true => rfl
          | false => exact absurd (rLt_tri (by simpa using nlt) e) ne
        · exact h1 z hz
theorem sortUR_lt : ∀ l : List (List Int), (sortUR l).Pairwise fun a b => rLt a b = true
  | [] => List.Pairwise.nil
  | x :: r => insR_lt x _ (sortUR_lt r)
theorem rlt_ext : ∀ {l m : List (List Int)}, l.Pairwise (fun a b => rLt a b = true) → m.Pairwise (fun a b => rLt a b = true) → (∀ z, z ∈ l ↔ z ∈ m) → l = m
  | [], [], _, _, _ => rfl
  | [], y :: m, _, _, h => by have := (h y).2 (by simp); cases this
  | x :: l, [], _, _, h => by have := (h x).1 (by simp); cases this
  | x :: l, y :: m, h1, h2, h => by
    obtain ⟨a1, a2⟩ := List.pairwise_cons.1 h1
    obtain ⟨b1, b2⟩ := List.pairwise_cons.1 h2
    have nn : ∀ {a b : List Int}, rLt a b = true → rLt b a = true → False := fun p q => by have := rLt_trans p q; rw [rLt_irrefl] at this; cases this
    have e : x = y := by
      rcases List.mem_cons.1 ((h x).1 (by simp)) with e | hx
      · exact e
      · rcases List.mem_cons.1 ((h y).2 (by simp)) with e | hy
        · exact e.symm
        · exact (nn (a1 y hy) (b1 x hx)).elim
    subst e
    congr 1
    refine rlt_ext a2 b2 fun z => ⟨fun hz => ?_, fun hz => ?_⟩
    · rcases List.mem_cons.1 ((h z).1 (by simp [hz])) with rfl | hz'
      · have := a1 _ hz; rw [rLt_irrefl] at this; cases this
      · exact hz'
    · rcases List.mem_cons.1 ((h z).2 (by simp [hz])) with rfl | hz'
      · have := b1 _ hz; rw [rLt_irrefl] at this; cases this
      · exact hz'
def rowsD : List D → Option (List (List Int))
  | [] => some []
  | .tuple xs :: r => (intsOf xs).bind fun x => (rowsD r).map (x :: ·)
  | _ :: _ => none
theorem rowsD_map : ∀ rs : List (List Int), rowsD (rs.map encR) = some rs
  | [] => rfl
  | r :: rs => by simp [encR, rowsD, rowsD_map rs]
theorem rowsD_eq : ∀ {ds : List D} {rs : List (List Int)}, rowsD ds = some rs → ds = rs.map encR
  | [], _, h => by simp [rowsD] at h; subst h; rfl
  | .tuple xs :: r, rs, h => by
    simp only [rowsD, Option.bind_eq_some_iff, Option.map_eq_some_iff] at h
    obtain ⟨x, h1, y, h2, rfl⟩ := h
    rw [intsOf_eq h1, rowsD_eq h2]; rfl
  | .none :: _, _, h => by simp [rowsD] at h
  | .bool _ :: _, _, h => by simp [rowsD] at h
  | .int _ :: _, _, h => by simp [rowsD] at h
  | .str _ :: _, _, h => by simp [rowsD] at h
  | .list _ :: _, _, h => by simp [rowsD] at h
  | .dict _ :: _, _, h => by simp [rowsD] at h
def fSortSetR : List D → Option D
  | [.list ds] => (rowsD ds).bind fun rs => if (∀ r ∈ rs, r ≠ []) ∧ rs.length < 64 then some (.list ((sortUR rs).map encR)) else none
  | _ => none
theorem fSortSetR_rows {rs : List (List Int)} (h : ∀ r ∈ rs, r ≠ []) (hl : rs.length < 64) : fSortSetR [.list (rs.map encR)] = some (.list ((sortUR rs).map encR)) := by
  simp only [fSortSetR, rowsD_map, Option.bind_some]
  rw [if_pos ⟨h, hl⟩]
section
variable {P : Program} {w : World} {A : Around} {E : Value → Shared → Prop} {s : Shared}
theorem refs_are {L : List (Addr × List Int)} : ∀ us : List Value, (∀ v ∈ us, ∃ q ∈ L, v = Value.ref q.1) → ∃ M : List (Addr × List Int), us = M.map (fun q => Value.ref q.1) ∧ ∀ q ∈ M, q ∈ L
  | [], _ => ⟨[], rfl, fun _ h => nomatch h⟩
  | v :: us, h => by
    obtain ⟨q, hq, e⟩ := h v (by simp)
    obtain ⟨M, e1, h1⟩ := refs_are us fun u hu => h u (by simp [hu])
    exact ⟨q :: M, by rw [e, e1]; rfl, fun r hr => (List.mem_cons.1 hr).elim (fun z => z ▸ hq) (h1 r)⟩
theorem nodup_of_snd {α β : Type} {f : α → β} : ∀ {l : List α}, (l.map f).Nodup → l.Nodup
  | [], _ => List.nodup_nil
  | x :: l, h => by
    rw [List.map_cons, List.nodup_cons] at h
    exact List.nodup_cons.2 ⟨fun hm => h.1 (List.mem_map.2 ⟨x, hm, rfl⟩), nodup_of_snd h.2⟩
theorem reads_tup {h : Heap} {k : List Int} {b : Addr} (x : IsT P w h k b) : ∃ as, Reads h (.ref b) (encR k) as ∧ as = [] := by
  obtain ⟨o, items, n, ho, hc, hd, hi⟩ := x
  have hints := ints_of_items hi
  have key : ∀ {vs : List Value} {ks : List Int}, IntsAre vs ks → ReadsAll h vs (ks.map .int) [] := fun {vs ks} z => by
    induction z with
    | nil => exact .nil
    | cons m t _ ih => exact .cons (as := []) (.int m t) ih
  exact ⟨[], .tuple ho hc hd (key hints), rfl⟩
theorem sortedSetR {a : Addr} {L : List (Addr × List Int)} {es : Array (Int × Value)} {ep : Nat} {t : SetTable} {Q : Value → Shared → Prop} (R : SetTR P w s.heap a L es ep t) (hh : A.handled = none) (ne : ∀ p ∈ L, p.2 ≠ []) (hu : A.units + 10 < cLine)
    (hQ : ∀ (s' : Shared) (p : Addr) (c : Nat) (L' : List (Addr × List Int)), (∀ b o, s.heap.get? b = some o → s'.heap.get? b = some o) → s'.gens = s.gens → s'.os = s.os → s.heap.objs.size ≤ p →
      s'.heap.get? p = some (seqObj "list" (L'.map fun q => Value.ref q.1).toArray c) → L'.Perm L → L'.Pairwise (fun q r => leR q.2 r.2 = true) → Q (.ref p) s') : wpAny (model P w) A (call (.builtin "sorted") [.ref a]) Q E s := by
  have ⟨o, ho, hex, hd⟩ := R.ob
  have few := R.few
  refine Calls.call_function_entry kind_sorted plain_sorted entry_sorted (args_sorted1 _) ?_
  unfold Builtin.«sorted»
  refine wpAny_bind (m := checkCount "sorted" 1 1 _) (wpAny_pure ?_)
  have hsz := R.size
  refine wpAny_bind (collect_set hh ⟨o, ho, hex.1, hd⟩ R.fits (by unfold scanBound; omega) R.tab.ris R.led fun s1 us k1 z1 g1 o1 pm => ?_)
  have vals : es.toList.map (·.2) = L.map fun q => Value.ref q.1 := by
    rw [R.rows, rowsOf, List.map_map]; rfl
  rw [vals] at pm
  obtain ⟨M, eM, subM⟩ := refs_are (L := L) us fun v hv => by
    obtain ⟨q, hq, e⟩ := List.mem_map.1 (pm.mem_iff.1 hv)
    exact ⟨q, hq, e.symm⟩
  subst eM
  have one : ∀ q ∈ L, ∀ r ∈ L, q.1 = r.1 → q = r := fun q hq r hr e => by
    have t1 := R.tup q hq
    rw [e] at t1
    exact Prod.ext e (t1.inj (R.tup r hr))
  have nL : L.Nodup := nodup_of_snd R.nd
  have pML : M.Perm L := by
    have nref : (L.map fun q => Value.ref q.1).Nodup := List.pairwise_map.2 (nL.imp_of_mem fun {q r} hq hr hne e => hne (one q hq r hr (Value.ref.inj e)))
    refine (List.perm_ext_iff_of_nodup (nodup_of_snd (pm.nodup_iff.2 nref)) nL).2 fun q => ⟨subM q, fun hq => ?_⟩
    obtain ⟨r, hr, e⟩ := List.mem_map.1 (pm.mem_iff.2 (List.mem_map.2 ⟨q, hq, rfl⟩))
    rw [← one r (subM r hr) q hq (Value.ref.inj e)]
    exact hr
  have lenM : M.length < 64 := by rw [pML.length_eq]; exact few
  have big : 64 ≤ sizeLine := by rw [sizeLine_eq]; omega
  refine wpAny_bind (wpAny_newList ?_ (by rw [List.length_map]; omega))
  have at1 : (s1.heap.push (seqObj "list" (M.map fun q => Value.ref q.1).toArray 0)).get? s1.heap.objs.size = some (seqObj "list" (M.map fun q => Value.ref q.1).toArray 0) := Heap.get?_push_size _ rfl
  have eachR : ∀ N : List (Addr × List Int), PySem.W.EachIs (fun (v : Value) (p : Addr × List Int) => v = Value.ref p.1) (N.map fun q => Value.ref q.1) N := fun N => by
    induction N with
    | nil => exact .nil
    | cons x N ih => exact .cons rfl ih
  have eachD : ∀ N : List (Addr × List Int), (∀ q ∈ N, q ∈ L) → PySem.W.EachIs (fun (v : Value) (p : Addr × List Int) => ∃ as, Reads (s1.heap.push (seqObj "list" (M.map fun q => Value.ref q.1).toArray 0)) v (encR p.2) as ∧ s1.heap.objs.size ∉ as) (N.map fun q => Value.ref q.1) N := fun N hN => by
    induction N with
    | nil => exact .nil
    | cons x N ih =>
      obtain ⟨as, r1, e1⟩ := reads_tup (isT_keep (R.tup x (hN x (by simp))) k1)
      refine .cons ⟨as, PySem.W.reads_keeps (fun b o e => Heap.get?_push_of_some _ e) r1, by rw [e1]; simp⟩ (ih fun q hq => hN q (by simp [hq]))
  have back : ∀ {us : List Value} {N : List (Addr × List Int)}, PySem.W.EachIs (fun (v : Value) (p : Addr × List Int) => v = Value.ref p.1) us N → us = N.map fun q => Value.ref q.1 := fun {us N} h => by
    induction h with
    | nil => rfl
    | cons e _ ih => rw [e, ih]; rfl
  refine wpAny_bind (wpAny_holding (PySem.W.list_sort_data (s := { s1 with heap := s1.heap.push (seqObj "list" (M.map fun q => Value.ref q.1).toArray 0) }) (bs := M) (enc := fun p => encR p.2) at1 (eachR M) (eachD M subM) ?_ ?_ (by omega) (fun b _ => by rw [depth_row]; show A.in1.units + 1 + 1 < _; simp only [Around.in1]; omega) fun out hol hout => ?_))
  · exact PySem.W.AllAlike.of fun b b' => alike_row b.2 b'.2
  · refine .inl fun d hd => ?_
    obtain ⟨p, hp, rfl⟩ := List.mem_map.1 hd
    have := ne p (subM p hp)
    cases e : p.2 with
    | nil => exact absurd e this
    | cons x xs => exact ⟨.int x, xs.map .int, rfl⟩
  · have eo := back hout
    obtain ⟨c, hc⟩ := sortedHeap_at (vs := M.map fun q => Value.ref q.1) (out := List.toArray out) at1
    have lerel : PySem.W.dataLe false (fun p : Addr × List Int => encR p.2) = fun p q => leR p.2 q.2 := by
      funext p q
      exact leD_row p.2 q.2
    rw [lerel] at eo
    refine wpAny_pure ⟨_, rfl, hQ _ s1.heap.objs.size c (M.mergeSort fun p q => leR p.2 q.2) (fun b u e => ?_) g1 o1 z1 ?_ ((List.mergeSort_perm _ _).trans pML) ?_⟩
    · have q := k1 b u e
      have lt := Heap.lt_size q
      show (sortedHeap _ _ _ _).get? b = some u
      rw [sortedHeap_old (Nat.ne_of_lt lt) (by rw [size_push']; exact Nat.lt_succ_of_lt lt)]
      exact Heap.get?_push_of_some _ q
    · rw [← eo]; exact hc
    · exact List.pairwise_mergeSort (le := fun p q : Addr × List Int => leR p.2 q.2) (fun a b c h1 h2 => leR_trans _ _ _ h1 h2) (fun a b => leR_total _ _) M
end
def rSortedTR (K : PySem.W.Frag) (P : Program) (w : World) : List V → Hp → VK → Prop := fun vs H Q => ∃ (a : Addr) (L : List (Addr × List Int)), vs = [V.ref a] ∧ H a = some (SetTO P w a L) ∧ (∀ p ∈ L, SqT K H p.1 (p.2.map V.int)) ∧ (∀ p ∈ L, p.2 ≠ []) ∧
  ∀ (L' : List (Addr × List Int)) (p : Addr), L'.Perm L → (L'.map (·.2)).Nodup → L'.Pairwise (fun q r => leR q.2 r.2 = true) → H p = none → Q (.ref p) (upd H p (.lst (L'.map fun q => V.ref q.1)))
theorem cr_sortedTR {X : Cx} (hc : X.calm = true) (hu : X.A.units + 65 < cLine) : CallR X (.builtin "sorted") (rSortedTR X.K X.prog X.w) := by
  intro pins s σ H vs us Q I r ⟨a, L, e0, ha, hk, ne, q⟩
  subst e0
  have R0 : SetT0 X.prog X.w s.heap a L := (I.hok a _ ha).1
  obtain ⟨es, ep, t, R⟩ := R0.full fun p hp => I.isT (hk p hp)
  rw [Vals.ref1 r]
  refine sortedSetR R (I.ok.hd hc) ne (by omega) fun s' p c L' k g o hp hg pm pw => ?_
  have small : (L'.map fun q => V.ref q.1).length ≤ sizeLine := by
    have := R.few
    rw [List.length_map, pm.length_eq, sizeLine_eq]; omega
  have np : H p = none := I.hok.fresh hp
  have e : s' = { s with heap := s'.heap, gens := s'.gens, drawn := s'.drawn, toks := s'.toks } := by
    cases s' with
    | mk h1 g1 d1 t1 o1 => cases s; cases o; rfl
  rw [e]
  exact ⟨.ref p, upd H p (.lst (L'.map fun q => V.ref q.1)), I.call (ch := []) (Un.laid k hp np) (I.hok.laid k hp ⟨small, _, c, vals_of_refs L', hg⟩) (by rw [g]; exact I.bare) (fun _ z => nomatch z), rfl, q L' p pm ((pm.map (·.2)).nodup_iff.2 R.nd) pw np⟩
theorem rows_refs {K : PySem.W.Frag} {F : Hp} : ∀ {rs : List (List Int)} {xs : List V}, RpL K F xs (rs.map encR) → ∃ ks : List (Addr × List Int), xs = ks.map (fun p => V.ref p.1) ∧ ks.map (·.2) = rs ∧ ∀ p ∈ ks, SqT K F p.1 (p.2.map V.int)
  | [], _, h => by cases h; exact ⟨[], rfl, rfl, fun _ h => nomatch h⟩
  | r :: rs, _, h => by
    cases h with
    | cons h1 h2 =>
      obtain ⟨ks, e1, e2, h3⟩ := rows_refs h2
      cases h1 with
      | tup g1 g2 =>
        rw [g2.ints] at g1
        exact ⟨(_, r) :: ks, by rw [e1]; rfl, by rw [← e2]; rfl, fun p hp => (List.mem_cons.1 hp).elim (fun z => z ▸ g1) (h3 p)⟩
theorem refs_rows {K : PySem.W.Frag} {F : Hp} : ∀ (ks : List (Addr × List Int)), (∀ p ∈ ks, SqT K F p.1 (p.2.map V.int)) → RpL K F (ks.map fun p => V.ref p.1) ((ks.map (·.2)).map encR)
  | [], _ => .nil
  | p :: ks, h => .cons (.tup (h p (by simp)) (RpL.of_ints p.2)) (refs_rows ks fun q hq => h q (by simp [hq]))
section
variable {c : CM} {W : WX} {m : Md} {X : Cx} {a : Expr} {pos p p2 p3 : Pos}
theorem e_sortedSetR {d : Ev → MM D} (hk : X.K = c.K) (hc : X.calm = true) (hu : X.A.units + 65 < cLine) (hg : Gl X "sorted") (hm : X.mg "sorted" = none) (hg2 : Gl X "set") (hm2 : X.mg "set" = none) (ha : E c W m X a d)
    (h1 : starEach [a] X.env = (false, eval a X.env) :: starEach [] X.env := by rfl)
    (h2 : starEach [.Call (.Name "set" p2) [a] [] p3] X.env = (false, eval (.Call (.Name "set" p2) [a] [] p3) X.env) :: starEach [] X.env := by rfl) :
    E c W m X (.Call (.Name "sorted" p) [.Call (.Name "set" p2) [a] [] p3] [] pos) (eArgs fSortSetR (aCons d aNil)) := by
  have hs : PE X (.Call (.Name "set" p2) [a] [] p3) (tCB (rSetOfT X.K X.prog X.w) (tCons (TD c W m d) tNil)) := pe_callTy (cr_setOfT hc (by omega)) hg2 hm2 boot_set (pa_cons ha pa_nil h1) (by decide) (by decide) h1 rfl
  refine PEimp (pe_callB (cr_sortedTR hc hu) hg hm boot_sorted (pa_cons hs pa_nil h2) (by decide) (by decide) h2 rfl) fun σ H Q ⟨F, ρ, ω, S, q⟩ => ?_
  have q' : Post c W F H σ (fun v F' H' _ => ∀ x, Rp c.K F' x v → Q x H') ((d ρ ω).bind fun v w => ofO (fSortSetR [v]) w) := by
    unfold eArgs aCons aNil at q
    cases hd : d ρ ω <;> simpa [hd] using q
  refine ⟨F, ρ, ω, S, bindT S Post.pg q' fun v F1 H1 w1 x1 S1 q1 x r1 => ?_⟩
  obtain ⟨z, e1, q3⟩ := post_ofO S1.fh S1.bo q1
  cases r1 with
  | lst g1 g2 =>
    simp only [fSortSetR, Option.bind_eq_some_iff, Option.ite_none_right_eq_some, Option.some.injEq] at e1
    obtain ⟨rs, e2, ⟨e3, e4⟩, rfl⟩ := e1
    rw [rowsD_eq e2] at g2
    obtain ⟨ks, rfl, rfl, hks⟩ := rows_refs g2
    have hksH : ∀ p ∈ ks, SqT X.K H1 p.1 (p.2.map V.int) := fun p hp => by rw [hk]; exact sameT S1.fh (hks p hp)
    refine ⟨_, ks, rfl, SqL.of (S1.fh _ _ g1), hksH, by simpa using e4, fun a0 L np hsub hall => ?_⟩
    have x2 : Xt none F1 H1 F1 (upd H1 a0 (SetTO X.prog X.w a0 L)) := Xt.alloc0 S1.fh np
    refine ⟨a0, L, rfl, upd_same, fun p hp => sameT (same_upd np) (hksH p (hsub p hp)), fun p hp => e3 p.2 (List.mem_map.2 ⟨p, hsub p hp, rfl⟩), fun L' p1 pm nd pw np1 => ?_⟩
    have inL : ∀ p ∈ L', p ∈ ks := fun p hp => hsub p (pm.mem_iff.1 hp)
    have er : L'.map (·.2) = sortUR (ks.map (·.2)) := by
      refine rlt_ext ?_ (sortUR_lt _) fun z => ?_
      · have h5 : (L'.map (·.2)).Pairwise fun a b => leR a b = true := List.pairwise_map.2 pw
        have h6 : (L'.map (·.2)).Pairwise fun a b => a ≠ b := nd
        refine (h5.and h6).imp fun {x y} ⟨u, v⟩ => ?_
        cases e : rLt x y with
        | true => rfl
        | false => exact absurd (rLt_tri e (by unfold leR at u; simpa using u)) v
      · rw [mem_sortUR]
        constructor
        · intro hz
          obtain ⟨p, hp, rfl⟩ := List.mem_map.1 hz
          exact List.mem_map.2 ⟨p, inL p hp, rfl⟩
        · intro hz
          obtain ⟨p, hp, rfl⟩ := List.mem_map.1 hz
          exact ((pm.map (·.2)).mem_iff).2 (hall p hp)
    have rr := refs_rows (K := c.K) (F := F1) L' fun p hp => hks p (inL p hp)
    rw [er] at rr
    exact rp_new_lst x2.fh np1 rr fun F' H' z' xt rz => q3 F' H' (x2.trans xt) z' rz
  | _ => simp [fSortSetR] at e1
end
end M

set_option Elab.async false
set_option linter.all false
set_option maxRecDepth 100000
set_option maxHeartbeats 4000000
namespace M
open PySem PySem.Spec PyProof.Rows L2
/-! ### a, b, .. = a list -/
def gU (gs : List D → Ev → Option Ev) : D → Ev → Option Ev
  | .list ds, ρ => gs ds ρ
  | _, _ => none
@[simp] theorem gU_ap (gs : List D → Ev → Option Ev) (ds : List D) (ρ : Ev) : gU gs (.list ds) ρ = gs ds ρ := (rfl)
section
variable {c : CM} {W : WX} {m m1 mn mb mc : Md} {X : Cx} {e tg : Expr} {es : List Expr} {pos : Pos}
theorem g_unl {is : List Nat} {k : Nat} {gs : List D → Ev → Option Ev} {n : Nat} (hk : X.K = c.K) (hc : X.calm = true) (h : PGs X es (TGDs c m mn is gs)) (hl : ∀ ds ρ ρ', gs ds ρ = some ρ' → ds.length = n)
    (hn : (assignEach es X.env).length = n := by rfl) (hst : (assignEach es X.env).findIdx? (·.1) = none := by rfl) : PG X (.Tuple es k pos) (TGD c m mn is (gU gs)) := PGimp (pg_unl hc h hn hst) fun v σ H Q ⟨F, ρ, ω, d, ρ', S, r, e, q⟩ => by
  cases r with
  | lst h1 h2 =>
    have e : gs _ ρ = some ρ' := e
    exact ⟨_, _, rfl, by rw [hk]; exact SqL.of (S.fh _ _ h1), by rw [h2.length]; exact hl _ _ _ e, F, ρ, ω, _, ρ', S, h2, e, q⟩
  | _ => simp [gU] at e
end
end M

set_option Elab.async false
set_option linter.all false
set_option maxRecDepth 100000
set_option maxHeartbeats 4000000
namespace M
open PySem PySem.Spec PyProof.Rows L2
/-! ### rules of dicts with tuple keys -/
theorem dto_typeIs {X : Cx} {pins : List (Addr × Obj)} {σ : L2.St} {H : Hp} {s : Shared} {a : Addr} {L : DL} (J : Inv X pins σ H s) (h : H a = some (DTO a L)) : s.TypeIs (.ref a) "dict" := by
  have R : DT0 s.heap a L := (J.hok a _ h).1
  obtain ⟨_, _, _, _, ⟨o, _, _, ho, hx, _⟩, _⟩ := R
  exact ⟨o, ho, hx.1⟩
theorem dto_empty {P : Program} {w : World} {H : Hp} (h : Heap) (hb : sysModules < h.objs.size) : ObjOk P w H (h.push { cls := .type "dict", data := .dict #[] }) h.objs.size (DTO h.objs.size []) :=
  dto_ok ⟨Nat.zero_le _, beq_eq_false_iff_ne.mpr (Ne.symm (Nat.ne_of_lt hb)), [], .nil, ⟨_, #[], 0, Heap.get?_push_size _ rfl, ⟨rfl, rfl, rfl⟩, rfl, fun _ _ => rfl⟩, List.nodup_nil⟩
/-- keys that are tuples of ints -/
def KeysT (K : PySem.W.Frag) (H : Hp) (L : DL) : Prop := ∀ p ∈ L, SqT K H p.2.1 (p.1.map V.int)
def tNewDT : TE := fun _ H Q => ∀ p, H p = none → Q (.ref p) (upd H p (DTO p []))
section
variable {X : Cx} {pos : Pos} {o i : Expr} {td ty : TE}
theorem pe_newDT : PE X (.Dict [] [] pos) tNewDT := ⟨fun pins s σ H Q J h => wpAny_Dict_empty ⟨.ref s.heap.objs.size, _,
  J.laid (a := s.heap.objs.size) (o := DTO s.heap.objs.size []) (t' := s.toks) (fun _ _ q => Heap.get?_push_of_some _ q) (Nat.le_refl _) (dto_empty s.heap J.big), rfl, h _ (J.hok.fresh (Nat.le_refl _))⟩⟩
def tGetDT (K : PySem.W.Frag) (td ty : TE) : TE := fun σ H Q => td σ H fun x H1 => ty σ H1 fun y H2 => ∃ a b L k v, x = .ref a ∧ y = .ref b ∧ H2 a = some (DTO a L) ∧ KeysT K H2 L ∧ SqT K H2 b (k.map V.int) ∧ atD L k = some v ∧ Q v H2
theorem pe_getDT (hu : X.A.units + 1 < cLine) (ho : PE X o td) (hi : PE X i ty) (hs : NoSl i) : PE X (.Subscript o i pos) (tGetDT X.K td ty) := by
  refine ⟨fun pn s σ H Q J h => subD_of PySem.F.slot_dict_getitem.lookup hs (thn (ho.run pn s σ H _ J h) fun u sa ⟨x, Ha, Ja, rx, qa⟩ => thn (hi.run pn sa σ Ha _ Ja qa) fun iv sb ⟨y, Hb, Jb, ry, a, b, L, k, v, ex, ey, hd, hk, hb, hv, q⟩ => ?_)⟩
  subst ex
  subst ey
  obtain rfl : u = Value.ref a := rx
  obtain rfl : iv = Value.ref b := ry
  exact ⟨dto_typeIs Jb hd, dtGet hu Jb hd hk hb hv fun r sc Jc rv => ⟨v, Hb, Jc, rv, q⟩⟩
def rInDT (K : PySem.W.Frag) : R2 := fun x y H Q => ∃ a b L k, y = .ref a ∧ x = .ref b ∧ H a = some (DTO a L) ∧ KeysT K H L ∧ SqT K H b (k.map V.int) ∧ Q (.bl (atD L k).isSome) H
theorem op_inDT (hu : X.A.units + 1 < cLine) : OpR X (compareOp .In) (rInDT X.K) := by
  intro pn s σ H x y v u Q J rx ry ⟨a, b, L, k, ey, ex, hd, hk, hb, q⟩
  subst ex
  subst ey
  obtain rfl : u = Value.ref a := ry
  obtain rfl : v = Value.ref b := rx
  exact dtIn hu J hd hk hb fun sc Jc => ⟨.bl (atD L k).isSome, H, Jc, rfl, q⟩
def rSetDT (K : PySem.W.Frag) : L2.TSet := fun o i v H Q => ∃ a b L k, o = .ref a ∧ i = .ref b ∧ H a = some (DTO a L) ∧ KeysT K H L ∧ SqT K H b (k.map V.int) ∧ L.length < sizeLine ∧ Q (upd H a (DTO a (putD0 L k b v)))
theorem set_dT (hu : X.A.units + 1 < cLine) : PSet X (rSetDT X.K) := by
  intro pn s σ H o i v ov iv u Q J ro ri rv ⟨a, b, L, k, eo, ei, hd, hk, hb, hl, q⟩
  subst eo
  subst ei
  cases (show ov = Value.ref a from ro)
  cases (show iv = Value.ref b from ri)
  exact dtSet hu J hd hl hk hb rv fun sc Jc => ⟨_, Jc, q⟩
/-- list(d) -/
def rListDT : List V → Hp → VK → Prop := fun xs H Q => ∃ d L, xs = [V.ref d] ∧ H d = some (DTO d L) ∧ ∀ p, H p = none → Q (.ref p) (upd H p (.lst (L.map fun x => V.ref x.2.1)))
theorem cr_listDT (hc : X.calm = true) : CallR X (.type "list") rListDT := by
  intro pn s σ H xs us Q J r ⟨d, L, e0, hd, q⟩
  subst e0
  obtain ⟨u, rfl, rx⟩ := r.one
  cases rx
  have R : DT0 s.heap d L := (J.hok d _ hd).1
  obtain ⟨z, hs, ks, pr, ⟨ob, es, ep, ho, hx, hdt, he'⟩, _⟩ := R
  have he := he' X.prog X.w
  have n1 : es.size = ks.length := size_of_entries he
  have n2 : L.length = ks.length := Paired.length pr
  refine PySem.W.kdl_call (kdl_raw hs hx hdt) (J.ok.hd hc) ho (by omega) fun h' tk acc c' kp e it => ?_
  have ea : acc.toList = ks.map fun x => Value.ref x.2.1 := by
    refine List.ext_getElem (by rw [Array.length_toList, List.length_map, it.1]; exact n1) fun j j1 j2 => ?_
    rw [Array.length_toList] at j1
    obtain ⟨en, hen, hv⟩ := it.2 j acc[j] (by simp [j1])
    have qe := entry_at he j
    rw [hen, List.getElem?_eq_getElem (by simpa using j2)] at qe
    have e2 := Option.some.inj qe
    simp only [Array.getElem_toList, List.getElem_map]
    rw [hv, e2]
    rfl
  have both : ∀ {l : DL} {m : List (List Int × Addr × Value)}, Paired DPair l m → Vals (l.map fun x => V.ref x.2.1) (m.map fun x => Value.ref x.2.1) := by
    intro l m q
    induction q with
    | nil => exact .nil
    | @cons p q ps qs hq t ih => exact .cons (show RelV (V.ref p.2.1) (Value.ref q.2.1) by rw [hq.2.1]; rfl) ih
  have rv := both pr
  rw [← ea] at rv
  refine ⟨.ref s.heap.objs.size, _, J.laid (t' := tk) (o := .lst (L.map fun x => V.ref x.2.1)) kp (Nat.le_refl _) ?_, rfl, q _ (J.hok.fresh (Nat.le_refl _))⟩
  exact ⟨by rw [List.length_map]; exact z, acc.toList, c', rv, by rw [Array.toArray_toList]; exact e⟩
end
/-! {k: v for .. in ..} -/
section
variable {X : Cx}
/-- one turn's duty -/
def DTurn (K : PySem.W.Frag) (J : It) (g : TG) (tt : TT) (tk tv : TE) (vs : List Nat) (σ : L2.St) (D : Addr) (W : Nat → Nat → Hp → Prop) (Q : VK) : Prop := ∀ i m H, W i m H → (J.stop i H ∧ Q (.ref D) H) ∨
  (J.go i H ∧ ∀ x H', J.yld i H x H' → g x (L2.wipe σ vs) H' fun σa Ha => L2.wipe σa vs = L2.wipe σ vs ∧ tt σa Ha fun b Hb =>
    if b = true then tk σa Hb fun y Hc => tv σa Hc fun z Hd => ∃ L k a, y = .ref a ∧ Hd D = some (DTO D L) ∧ KeysT K Hd L ∧ SqT K Hd a (k.map V.int) ∧ L.length < sizeLine ∧ ∃ n, n < m ∧ W (i + 1) n (upd Hd D (DTO D (putD0 L k a z)))
    else ∃ n, n < m ∧ W (i + 1) n Hb)
def tDcT (K : PySem.W.Frag) (wi : TI) (g : TG) (tt : TT) (tk tv : TE) (vs : List Nat) : TE := fun σ H Q => wi σ H fun J H1 => ∀ D, H1 D = none → ∃ W : Nat → Nat → Hp → Prop, (∃ m, W 0 m (upd H1 D (DTO D []))) ∧ DTurn K J g tt tk tv vs σ D W Q
/-- all turns of the block, in the block's own context Y -/
theorem dtc_loop {Y : Cx} {J : It} {fp : List Addr} {it D : Addr} {tn : Nat → Heap → Prop} {ke ve tg iter : Expr} {ifs : List Expr} {scope : Scope} {pos : Pos} {g : TG} {tt : TT} {tk tv : TE} {vs : List Nat} {σ : L2.St} {W : Nat → Nat → Hp → Prop} {Q : VK} {R : Result → Shared → Prop} {s : Shared} {H : Hp} {m : Nat}
    (hc : Y.calm = true) (hxe : Y.xe = fun _ _ => False) (hu : Y.A.units + 1 < cLine) (T : Turn Y.prog Y.w Y.K tg J fp it tn)
    (pg : PG Y tg g) (pt : PTs Y ifs tt) (pk : PE Y ke tk) (pv : PE Y ve tv) (fpo : ∀ {σ' : L2.St} {H' : Hp} {s' : Shared}, Inv Y [] σ' H' s' → (∀ b ∈ fp, H' b = none) → ∀ b ∈ fp, FpOk Y [] H' b)
    (turn : DTurn Y.K J g tt tk tv vs σ D W Q) (start : Inv Y [] (L2.wipe σ vs) H s) (st : tn 0 s.heap) (nf : ∀ b ∈ fp, H b = none) (w0 : W 0 m H)
    (fin : ∀ {H' : Hp} {s' : Shared}, Inv Y [] (L2.wipe σ vs) H' s' → Q (.ref D) H' → R (.ok .next) s') :
    codeAny (model Y.prog Y.w) Y.A (.compLoop (.DictComp ke ve [⟨tg, iter, ifs, 0⟩] scope pos) 0 (.ref it) (.ref D) Y.env) R s := by
  refine compLoop_anyD (fun n s' => ∃ i H', Inv Y [] (L2.wipe σ vs) H' s' ∧ tn i s'.heap ∧ (∀ b ∈ fp, H' b = none) ∧ W i n H') ?_ m ⟨0, H, start, st, nf, w0⟩
  rintro n sa ⟨i, Ha, Ja, sta, na, wa⟩
  rcases turn i n Ha wa with ⟨stop, q⟩ | ⟨go, step⟩
  · refine thnF (T.done Y rfl rfl rfl hc i [] sa _ Ha (fun _ _ => False) Ja (fpo Ja na) sta stop) fun r sb ⟨hr, Jb⟩ => ?_
    subst hr
    exact fin Jb q
  · refine thnF (T.item Y rfl rfl rfl hc i [] sa _ Ha (fun _ _ => False) Ja (fpo Ja na) sta go) fun r sb ⟨u, hr, hb⟩ => ?_
    subst hr
    refine thnF hb fun _ sc ⟨x, Hc, Jc, rc, yc, stc, nc⟩ => ?_
    have xe0 : ∀ {α : Type} {t : Sem α} {Q' : α → Shared → Prop} {s' : Shared}, wpAny (model Y.prog Y.w) Y.A t Q' Y.xe s' → wpAny (model Y.prog Y.w) Y.A t Q' (fun _ _ => False) s' := fun h => by rw [hxe] at h; exact h
    have Jp := Jc.pinned (fpo Jc nc) (T.obj _ _ stc)
    refine thnF (xe0 (pg.run _ sc _ Hc x u _ Jp rc (step x Hc yc))) fun _ sd ⟨σd, Hd, Jd, wd, qd⟩ => ?_
    refine thnF (xe0 (pt.run _ sd σd Hd _ Jd qd)) fun b se ⟨He, Je, qe⟩ => ?_
    have close : ∀ {s' : Shared} {H' : Hp}, Inv Y ([] ++ pinsAt fp sc.heap) σd H' s' → (∃ k, k < n ∧ W (i + 1) k H') → ∃ k, k < n ∧ ∃ i' H'', Inv Y [] (L2.wipe σ vs) H'' s' ∧ tn i' s'.heap ∧ (∀ b ∈ fp, H'' b = none) ∧ W i' k H'' := by
      intro s' H' J' ⟨k, k1, k2⟩
      have still : ∀ b ∈ fp, ∀ o, sc.heap.get? b = some o → s'.heap.get? b = some o ∧ H' b = none := fun b hb o e =>
        have z := J'.pin (b, o) (List.mem_append_right _ (List.mem_append_right _ (mem_pinsAt hb e)))
        ⟨z.1, z.2.1⟩
      refine ⟨k, k1, i + 1, H', (J'.unpinned (pins := [])).weak (by rw [← wd, L2.wipe_length]) (fun j v e => ?_), T.keep _ _ _ stc fun b hb o e => (still b hb o e).1, fun b hb => ?_, k2⟩
      · rw [← wd] at e
        exact (wipe_some e).1
      · obtain ⟨o, e, _⟩ := T.obj _ _ stc b hb
        exact (still b hb o e).2
    cases b with
    | false =>
      simp only [Bool.false_eq_true, if_false] at qe ⊢
      exact close Je qe
    | true =>
      simp only [if_true] at qe ⊢
      refine thnF (xe0 (pk.run _ se σd He _ Je qe)) fun z1 sf ⟨y, Hf, Jf, rf, qf⟩ => ?_
      refine thnF (xe0 (pv.run _ sf σd Hf _ Jf qf)) fun z2 sg ⟨yv, Hg, Jg, rg, L, k, a, ey, hD, hK, ha, hl, nx⟩ => ?_
      subst ey
      cases (show z1 = Value.ref a from rf)
      exact dtSetC hu Jg hD hl hK ha rg fun sh Jh => close Jh nx
theorem dtc_all {pn : List (Addr × Obj)} {s : Shared} {σ : L2.St} {H : Hp} {Q : VK} {pos' : Pos} {use : Option (Value → Sem Unit)} {Qf : Value → Shared → Prop} {ke ve tg iter : Expr} {ifs : List Expr} {scope : Scope} {own : List (Str × Nat)} {pos : Pos} {wi : TI} {g : TG} {tt : TT} {tk tv : TE} (hc : X.calm = true) (hu : X.A.units + 1 < cLine) (hN : X.N.Nodup) (hi : PI X tg iter wi) (ok : BlkOk X.N X.env.scope scope own)
    (hg : ∀ (s : Shared) (H : Hp) (C : Addr) (cl : List (Str × Addr)) (fp : List Addr), PG (X.blk s H scope (compEnvC scope cl C X.env) fp) tg g)
    (ht : ∀ (s : Shared) (H : Hp) (C : Addr) (cl : List (Str × Addr)) (fp : List Addr), PTs (X.blk s H scope (compEnvC scope cl C X.env) fp) ifs tt)
    (hk : ∀ (s : Shared) (H : Hp) (C : Addr) (cl : List (Str × Addr)) (fp : List Addr), PE (X.blk s H scope (compEnvC scope cl C X.env) fp) ke tk)
    (hv : ∀ (s : Shared) (H : Hp) (C : Addr) (cl : List (Str × Addr)) (fp : List Addr), PE (X.blk s H scope (compEnvC scope cl C X.env) fp) ve tv) (hs : ∀ x, foldedSetIterable iter X.env x = pure x) (J : Inv X pn σ H s) (h : tDcT X.K wi g tt tk tv (own.map (·.2)) σ H Q)
    (last : ∀ D C s' m H', Inv X pn σ H' s' → Q (.ref D) H' → s'.heap.Ns C m → FpOk X pn H' C → compPost (model X.prog X.w) X.A X.xe use Qf (.ref D) C (.ok .next) s') :
    wpAny (model X.prog X.w) X.A (comprehension (.DictComp ke ve [⟨tg, iter, ifs, 0⟩] scope pos) scope X.env pos' newDict false (eval iter X.env) use) Qf X.xe s := by
  have cap : ∀ y ∈ scope.names, y.2 = .free → ∃ c, X.env.cells.lookup y.1 = some c := fun y hy e => (ok.free y hy e).elim (fun k => J.ok.has _ (.inl k)) fun k => J.ok.has _ (.inr k)
  refine wpAny_comprehension_free (use := use) rfl hs (closure_ok cap) ok.kind (fun y hy e => by rw [ok.uniq y hy, e]) (thn (hi.run pn s σ H _ J h) fun xv sa ha => thn ha fun itv sb ⟨it, fp, tn, It0, Hb, e, Jb, T, stb, fb, q⟩ => ?_)
  subst e
  refine wpAny_newObj_type (newEnv_comp ?_)
  generalize hD : sb.heap.objs.size = D
  have Dn : Hb D = none := Jb.hok.fresh (Nat.le_of_eq hD)
  obtain ⟨W, ⟨m0, w0⟩, turn⟩ := q D Dn
  generalize hsc : ({ sb with heap := sb.heap.push { cls := .type "dict", data := .dict #[] } } : Shared) = sc
  have hc3 : sc.heap = sb.heap.push { cls := .type "dict", data := .dict #[] } := by rw [← hsc]
  have Jc : Inv X pn σ (upd Hb D (DTO D [])) sc := by
    rw [← hsc]
    refine Jb.laid (t' := sb.toks) (fun b o e => Heap.get?_push_of_some _ e) (Nat.le_of_eq hD) ?_
    rw [← hD]
    exact dto_empty sb.heap Jb.big
  have low : ∀ b ∈ fp, b < sb.heap.objs.size := fun b hb => (T.obj _ _ stb b hb).elim fun o e => Heap.lt_size e.1
  have fc : ∀ b ∈ fp, FpOk X pn (upd Hb D (DTO D [])) b ∧ b < sc.heap.objs.size := fun b hb => by
    have lt := low b hb
    refine ⟨⟨?_, (fb b hb).2⟩, by rw [hc3, Heap.size_push]; exact Nat.lt_succ_of_lt lt⟩
    rw [upd_ne (by rw [← hD]; exact Nat.ne_of_lt lt)]
    exact (fb b hb).1
  have stc : tn 0 sc.heap := T.keep _ _ _ stb fun b _ o e => by rw [hc3]; exact Heap.get?_push_of_some _ e
  have Jd := block_start Jc ok hN fc
  have g1 := hg sc (upd Hb D (DTO D [])) sc.heap.objs.size (cellsFrom (sc.heap.objs.size + 1) scope.names (cloFrom X.env.cells scope.names [])) fp
  have g2 := ht sc (upd Hb D (DTO D [])) sc.heap.objs.size (cellsFrom (sc.heap.objs.size + 1) scope.names (cloFrom X.env.cells scope.names [])) fp
  have g3 := hk sc (upd Hb D (DTO D [])) sc.heap.objs.size (cellsFrom (sc.heap.objs.size + 1) scope.names (cloFrom X.env.cells scope.names [])) fp
  have g4 := hv sc (upd Hb D (DTO D [])) sc.heap.objs.size (cellsFrom (sc.heap.objs.size + 1) scope.names (cloFrom X.env.cells scope.names [])) fp
  have nfp : ∀ b ∈ fp, (upd Hb D (DTO D [])) b = none := fun b hb => (fc b hb).1.1
  show codeAny _ _ (.compStart (.DictComp ke ve [⟨tg, iter, ifs, 0⟩] scope pos) 0 (.ref it) (.ref D) (compEnvC scope (cellsFrom (sc.heap.objs.size + 1) scope.names (cloFrom X.env.cells scope.names [])) sc.heap.objs.size X.env)) (compPost (model X.prog X.w) X.A X.xe use Qf (.ref D) sc.heap.objs.size) { sc with heap := pushCells (sc.heap.push { cls := .type "dict", data := .dict #[] }) scope.names }
  generalize hcv : compEnvC scope (cellsFrom (sc.heap.objs.size + 1) scope.names (cloFrom X.env.cells scope.names [])) sc.heap.objs.size X.env = cv at Jd g1 g2 g3 g4 ⊢
  have lcv : cv.locals = sc.heap.objs.size := by rw [← hcv]; rfl
  generalize hsd : ({ sc with heap := pushCells (sc.heap.push { cls := .type "dict", data := .dict #[] }) scope.names } : Shared) = sd at Jd ⊢
  have std : tn 0 sd.heap := T.keep _ _ _ stc fun b _ o e => by rw [← hsd]; exact pushCells_keeps _ _ _ _ (Heap.get?_push_of_some _ e)
  have lop : codeAny (model X.prog X.w) X.A (.compLoop (.DictComp ke ve [⟨tg, iter, ifs, 0⟩] scope pos) 0 (.ref it) (.ref D) cv) (compPost (model X.prog X.w) X.A X.xe use Qf (.ref D) sc.heap.objs.size) sd := by
    refine dtc_loop (Y := X.blk sc (upd Hb D (DTO D [])) scope cv fp) hc rfl hu T g1 g2 g3 g4 (fun {σ' H' s'} J' nn b hb => ?_) turn Jd std nfp w0 fun {H' s'} J' qd => ?_
    · exact ⟨nn b hb, (J'.ok.exf b hb).1, J'.ok.exfs b hb, .inl hb, fun x c e => (J'.ok.exf b hb).2 x c e, fun p hp => absurd (show p ∈ ([] : List (Addr × Obj)) ++ [] from hp) (by simp)⟩
    · have Jx : Inv X pn σ H' s' := Jc.call' (ch := fp) J'.os J'.base J'.hok J'.bare fun b hb => have f := (fc b hb).1; ⟨f.2.2.2.1, f.2.1, f.2.2.2.2.1, f.2.2.2.2.2⟩
      have nC : H' sc.heap.objs.size = none := by
        have z : H' cv.locals = none := J'.free
        rwa [lcv] at z
      obtain ⟨mm, hn, _⟩ := J'.loc
      have hn : s'.heap.Ns cv.locals mm := hn
      rw [lcv] at hn
      exact last D sc.heap.objs.size s' mm H' Jx qd hn (Jc.fpOk (Nat.le_refl _) nC)
  exact codeAny_compStart_dict lop (T.self X.A 0 _ _ _ std lop)
theorem pe_dcT {ke ve tg iter : Expr} {ifs : List Expr} {scope : Scope} {own : List (Str × Nat)} {pos : Pos} {wi : TI} {g : TG} {tt : TT} {tk tv : TE} (hc : X.calm = true) (hu : X.A.units + 1 < cLine) (hN : X.N.Nodup) (hi : PI X tg iter wi) (ok : BlkOk X.N X.env.scope scope own)
    (hg : ∀ (s : Shared) (H : Hp) (C : Addr) (cl : List (Str × Addr)) (fp : List Addr), PG (X.blk s H scope (compEnvC scope cl C X.env) fp) tg g)
    (ht : ∀ (s : Shared) (H : Hp) (C : Addr) (cl : List (Str × Addr)) (fp : List Addr), PTs (X.blk s H scope (compEnvC scope cl C X.env) fp) ifs tt)
    (hk : ∀ (s : Shared) (H : Hp) (C : Addr) (cl : List (Str × Addr)) (fp : List Addr), PE (X.blk s H scope (compEnvC scope cl C X.env) fp) ke tk)
    (hv : ∀ (s : Shared) (H : Hp) (C : Addr) (cl : List (Str × Addr)) (fp : List Addr), PE (X.blk s H scope (compEnvC scope cl C X.env) fp) ve tv) (hs : ∀ x, foldedSetIterable iter X.env x = pure x := by intro _; rfl) :
    PE X (.DictComp ke ve [⟨tg, iter, ifs, 0⟩] scope pos) (tDcT X.K wi g tt tk tv (own.map (·.2))) := by
  refine ⟨fun pn s σ H Q J h => ?_⟩
  rw [arm_eval_DictComp]
  refine dtc_all hc hu hN hi ok hg ht hk hv hs J h fun D C s' m H' Jx qd hn fo => ⟨m, hn, fun h'' same => ?_⟩
  obtain ⟨e0, e1, _, e3, e4, e5⟩ := fo
  exact ⟨.ref D, H', Jx.turned (t' := s'.toks) (fun b o hb e => (same.2 b hb).trans e) e0 e1 e3 e4 e5, rfl, qd⟩
/-- name = {..}, the name a local -/
theorem ps_setDcT {i : Nat} {y : Str} {py spos : Pos} {ke ve tg iter : Expr} {ifs : List Expr} {scope : Scope} {own : List (Str × Nat)} {pos : Pos} {wi : TI} {g : TG} {tt : TT} {tk tv : TE} (hc : X.calm = true) (hu : X.A.units + 1 < cLine) (hN : X.N.Nodup) (hy : X.N[i]? = some y) (hyl : X.env.scope.names.lookup y = some .local)
    (hsw : swapsWith (.DictComp ke ve [⟨tg, iter, ifs, 0⟩] scope pos) (some (.Name y py)) spos.line X.env = pure true) (hi : PI X tg iter wi) (ok : BlkOk X.N X.env.scope scope own)
    (hg : ∀ (s : Shared) (H : Hp) (C : Addr) (cl : List (Str × Addr)) (fp : List Addr), PG (X.blk s H scope (compEnvC scope cl C X.env) fp) tg g)
    (ht : ∀ (s : Shared) (H : Hp) (C : Addr) (cl : List (Str × Addr)) (fp : List Addr), PTs (X.blk s H scope (compEnvC scope cl C X.env) fp) ifs tt)
    (hk : ∀ (s : Shared) (H : Hp) (C : Addr) (cl : List (Str × Addr)) (fp : List Addr), PE (X.blk s H scope (compEnvC scope cl C X.env) fp) ke tk)
    (hv : ∀ (s : Shared) (H : Hp) (C : Addr) (cl : List (Str × Addr)) (fp : List Addr), PE (X.blk s H scope (compEnvC scope cl C X.env) fp) ve tv) (hs : ∀ x, foldedSetIterable iter X.env x = pure x := by intro _; rfl) :
    PS X (.Assign [.Name y py] (.DictComp ke ve [⟨tg, iter, ifs, 0⟩] scope pos) spos) (tAsg (tDcT X.K wi g tt tk tv (own.map (·.2))) (gName i)) := by
  refine ⟨fun pn s σ H Ed J h => ?_⟩
  rw [exec_Assign_Name_used _ _ _ _ hsw]
  refine wpAny_bind (wpAny_standAt (wpAny_bind ?_))
  have h : tDcT X.K wi g tt tk tv (own.map (·.2)) σ H (fun x Ha => gName i x σ Ha Ed.nx) := h
  show wpAny _ X.A (do let _ ← comprehension (.DictComp ke ve [⟨tg, iter, ifs, 0⟩] scope pos) scope X.env (firstIterPos [⟨tg, iter, ifs, 0⟩] pos) newDict false (eval iter X.env) (some (assign (.Name y py) X.env))) _ _ s
  refine wpAny_bind (thn (dtc_all (Qf := fun _ s' => SP X pn Ed .next s') hc hu hN hi ok hg ht hk hv hs J h fun D C s' m H' Jx qd hn fo => ?_) fun _ s' hq => wpAny_pure (wpAny_pure hq))
  obtain ⟨e0, e1, e2, e3, e4, e5⟩ := fo
  show wpAny _ _ (assign (.Name y py) X.env (.ref D)) _ _ _
  refine wpAny_assign_Name (store_ok2 (v := V.ref D) Jx hN hy (.inl hyl) rfl (fun sq Jq ⟨a, same, ha⟩ => ?_) (.inr hyl))
  have ne : C ≠ a := ha.elim (fun z => by rw [z]; exact e1) fun z e => e4 y a z e.symm
  exact ⟨m, hn.sameBut same ne, fun hh same2 => ⟨_, H', Jq.turned (t' := sq.toks) (fun b o hb e => (same2.2 b hb).trans e) e0 e1 e3 e4 e5, qd⟩⟩
theorem swD_true {ke ve : Expr} {gs : List Comprehension} {scope : Scope} {pos py : Pos} {y : Str} {l : Nat} {env : Env} (hk : env.scope.kind = .function) (hy : env.scope.names.lookup y = some .local) (hl : (py.line == pos.line) = true)
    (ha : (scope.names.any fun (n, k) => n == y && (k == .local || k == .cell)) = false) : swapsWith (.DictComp ke ve gs scope pos) (some (.Name y py)) l env = pure true := by
  have k1 : env.kindOf y = some .local := hy
  have k2 : env.blockKind = .function := by unfold Env.blockKind; rw [hk]; rfl
  unfold swapsWith
  simp only [k1, k2, ha, Expr.pos, hl]
  rfl
end
end M

set_option Elab.async false
set_option linter.all false
set_option maxRecDepth 100000
set_option maxHeartbeats 4000000
namespace M
open PySem PySem.Spec PyProof.Rows L2
/-! ### a dict of one's own, keys tuples of ints -/
theorem units1 {k : Nat} {A : Around} (r : Room k A) : A.units + 1 < cLine := by have := units65 r; omega
def keyOf : D → Option (List Int)
  | .tuple ds => intsOf ds
  | _ => none
@[simp] theorem keyOf_ints (k : List Int) : keyOf (.tuple (k.map .int)) = some k := intsOf_map k
theorem keyOf_eq {d : D} {k : List Int} (h : keyOf d = some k) : d = .tuple (k.map .int) := by
  cases d with
  | tuple ds => exact congrArg PyData.tuple (intsOf_eq h)
  | _ => cases h
def dGetD (es : List (D × D)) (k : List Int) : Option D := (es.find? fun e => decide (keyOf e.1 = some k)).map (·.2)
def dPutD (es : List (D × D)) (k : List Int) (v : D) : List (D × D) := if (dGetD es k).isSome then es.map (fun e => if keyOf e.1 = some k then (e.1, v) else e) else es ++ [(.tuple (k.map .int), v)]
section
variable {K : PySem.W.Frag} {F H : Hp}
theorem RpD.get {k : List Int} : ∀ {L : DL} {es : List (D × D)}, RpD K F L es → (atD L k = none ∧ dGetD es k = none) ∨ ∃ v d, atD L k = some v ∧ dGetD es k = some d ∧ Rp K F v d := by
  intro L es h
  induction h with
  | nil => exact .inl ⟨rfl, rfl⟩
  | @cons p e ps es hq t ih =>
    unfold atD dGetD
    have ke : keyOf e.1 = some p.1 := by rw [hq.1]; simp
    by_cases c : p.1 = k
    · right
      subst c
      simp only [List.find?_cons, ke, decide_true, Option.map_some]
      exact ⟨_, _, rfl, rfl, hq.2.2⟩
    · have c' : ¬ keyOf e.1 = some k := by rw [ke]; simpa using c
      simp only [List.find?_cons, c, c', decide_false]
      exact ih
theorem RpD.put {k : List Int} {b : Addr} {v : V} {d : D} {L : DL} {es : List (D × D)} (h : RpD K F L es) (hk : SqT K F b (k.map V.int)) (r : Rp K F v d) : RpD K F (putD0 L k b v) (dPutD es k d) := by
  have rep : ∀ {L : DL} {es : List (D × D)}, RpD K F L es → RpD K F (L.map fun x => if x.1 = k then (x.1, x.2.1, v) else x) (es.map fun e => if keyOf e.1 = some k then (e.1, d) else e) := by
    intro L es h
    induction h with
    | nil => exact .nil
    | @cons p e ps es hq t ih =>
      refine .cons ?_ ih
      have ke : keyOf e.1 = some p.1 := by rw [hq.1]; simp
      by_cases c : p.1 = k
      · have c' : keyOf e.1 = some k := by rw [ke, c]
        simp only [c, c', if_true]
        exact ⟨by rw [hq.1, c], by have := hq.2.1; rw [c] at this; exact this, r⟩
      · have c' : ¬ keyOf e.1 = some k := by rw [ke]; simpa using c
        simp only [c, c', if_false]
        exact hq
  unfold putD0 dPutD
  rcases h.get (k := k) with ⟨e1, e2⟩ | ⟨u, p, e1, e2, _⟩
  · rw [e1, e2]
    exact Paired.snoc h ⟨rfl, hk, r⟩
  · rw [e1, e2]
    exact rep h
theorem RpD.keysT {L : DL} {es : List (D × D)} (h : RpD K F L es) (s : Same F H) : KeysT K H L := by
  induction h with
  | nil => exact fun p hp => nomatch hp
  | @cons p e ps es hq t ih =>
    intro p' hp
    rcases List.mem_cons.1 hp with z | z
    · subst z; exact sameT s hq.2.1
    · exact ih p' z
theorem RpD.keys {L : DL} {es : List (D × D)} (h : RpD K F L es) : RpL K F (L.map fun x => V.ref x.2.1) (es.map (·.1)) := by
  induction h with
  | nil => exact .nil
  | @cons p e ps es hq t ih => exact .cons (by show Rp K F (V.ref p.2.1) e.1; rw [hq.1]; exact .tup hq.2.1 (RpL.of_ints p.1)) ih
theorem RpD.length {L : DL} {es : List (D × D)} (h : RpD K F L es) : L.length = es.length := Paired.length h
end
section
variable {c : CM} {W : WX} {m mb mc : Md} {F H : Hp} {ρ : Ev} {ω : Wd} {σ : L2.St}
theorem SR.putDic (S : SR c m F ρ ω σ H) {i : Nat} {l : Addr} {L : DL} {es : List (D × D)} (hT : m.T = some i) (hb : m.B ≠ some i) (hO : i ∉ m.O) (h0 : c.H0 l = none) (h1 : F l = none) (h2 : H l = some (DTO l L)) (h3 : RpD c.K F L es) : SR c m F (put ρ i (.dict es)) ω (σ.set i (some (.ref l))) H where
  fr := S.fr
  len := by simp [M.put, S.len]
  dat := fun j d' e n => by
    rcases set_some e with ⟨g1, g2⟩ | ⟨g1, g2⟩
    · exact absurd (g1 ▸ hT) n.2
    · obtain ⟨u, g3, g4⟩ := S.dat j d' g2 n
      exact ⟨u, by rw [List.getElem?_set_ne (Ne.symm g1)]; exact g3, g4⟩
  own := fun j d' e n => by
    rcases set_some e with ⟨g1, g2⟩ | ⟨g1, g2⟩
    · exact absurd (g1 ▸ n) hO
    · obtain ⟨l', us', ds', k1, k⟩ := S.own j d' g2 n
      exact ⟨l', us', ds', by rw [List.getElem?_set_ne (Ne.symm g1)]; exact k1, k⟩
  sep := fun j k a dj dk oj ok ej ek sj sk => by
    have hj : j ≠ i := fun z => hO (z ▸ oj)
    have hk : k ≠ i := fun z => hO (z ▸ ok)
    rw [List.getElem?_set_ne (Ne.symm hj)] at sj
    rw [List.getElem?_set_ne (Ne.symm hk)] at sk
    have ej' : ρ[j]? = some (some dj) := by rw [← ej]; exact (List.getElem?_set_ne (Ne.symm hj)).symm
    have ek' : ρ[k]? = some (some dk) := by rw [← ek]; exact (List.getElem?_set_ne (Ne.symm hk)).symm
    exact S.sep j k a dj dk oj ok ej' ek' sj sk
  bsl := fun j e => by
    have hne : i ≠ j := fun z => hb (by rw [z]; exact e)
    obtain ⟨g1, b, g2, g3⟩ := S.bsl j e
    exact ⟨by show (ρ.set i (some (.dict es)))[j]? = _; rw [List.getElem?_set_ne hne]; exact g1, b, g2, by rw [List.getElem?_set_ne hne]; exact g3⟩
  tsl := fun j d' n e => by
    rw [hT] at n
    cases n
    have hl : i < σ.length := by
      rw [← S.len]
      have := lt_of_some e
      simpa [M.put] using this
    rcases set_some e with ⟨g1, g2⟩ | ⟨g1, g2⟩
    · subst g2
      exact ⟨l, L, es, by rw [List.getElem?_set_self hl], rfl, h0, h1, h2, h3⟩
    · exact absurd rfl g1
theorem SR.writeDic (S : SR c m F ρ ω σ H) {i : Nat} {es es' : List (D × D)} {l : Addr} {L L' : DL} (hT : m.T = some i) (hO : i ∉ m.O) (hρ : ρ[i]? = some (some (.dict es))) (g1 : σ[i]? = some (some (.ref l))) (h2 : H l = some (DTO l L)) (r : RpD c.K F L' es') :
    SR c m F (put ρ i (.dict es')) ω σ (upd H l (DTO l L')) := by
  obtain ⟨l0, L0, es0, k1, k2, k3, k4, k5, k6⟩ := S.tsl i _ hT hρ
  rw [g1] at k1
  simp only [Option.some.injEq, V.ref.injEq] at k1
  subst k1
  have fH : Same F (upd H l (DTO l L')) := fun a o e => by
    have ha : a ≠ l := fun z => by rw [z, k4] at e; cases e
    rw [upd_ne ha]; exact S.fh _ _ e
  refine ⟨⟨⟨S.fr.xt.ff, fH, fun a o e n => ?_, fun a h => ?_, S.fr.xt.new⟩, fun b e => ?_⟩, by simp [M.put, S.len], fun j d e n => ?_, fun j d e n => ?_, fun j k a dj dk oj ok ej ek sj sk => ?_, fun j e => ?_, fun j d n e => ?_⟩
  · have ha : a ≠ l := fun z => by rw [z, k3] at e; cases e
    rw [upd_ne ha]; exact S.fr.xt.keep a o e n
  · by_cases ha : a = l
    · rw [ha, upd_same]; simp
    · rw [upd_ne ha]; exact S.fr.xt.dom a h
  · obtain ⟨b0, b1, bu, b2, b3⟩ := S.bo b e
    have hbl : b ≠ l := fun z => b0 (z ▸ k3)
    exact ⟨b0, b1, bu, by rw [upd_ne hbl]; exact b2, b3⟩
  · rcases set_some e with ⟨z1, z2⟩ | ⟨z1, z2⟩
    · exact absurd (z1 ▸ hT) n.2
    · exact S.dat j d z2 n
  · rcases set_some e with ⟨z1, z2⟩ | ⟨z1, z2⟩
    · exact absurd (z1 ▸ n) hO
    · obtain ⟨l', us1, ds1, q1, q2, q3, q4, q5, q6⟩ := S.own j d z2 n
      have hll : l' ≠ l := fun z => dto_inj k5 q5 z.symm
      exact ⟨l', us1, ds1, q1, q2, q3, q4, by rw [upd_ne hll]; exact q5, q6⟩
  · have nn : ∀ {t : Nat} {dt : D}, t ∈ m.O → (put ρ i (.dict es'))[t]? = some (some dt) → ρ[t]? = some (some dt) := fun {t dt} ot et => by
      rcases set_some et with ⟨z1, z2⟩ | ⟨z1, z2⟩
      · exact absurd (z1 ▸ ot) hO
      · exact z2
    exact S.sep j k a dj dk oj ok (nn oj ej) (nn ok ek) sj sk
  · obtain ⟨q1, b, q2, q3⟩ := S.bsl j e
    have hne : i ≠ j := fun z => by rw [← z, hρ] at q1; cases q1
    exact ⟨by show (ρ.set i _)[j]? = _; rw [List.getElem?_set_ne hne]; exact q1, b, q2, q3⟩
  · rw [hT] at n
    cases n
    rcases set_some e with ⟨z1, z2⟩ | ⟨z1, z2⟩
    · subst z2
      exact ⟨l, L', es', g1, rfl, k3, k4, upd_same, r⟩
    · exact absurd rfl z1
variable {X : Cx} {pos : Pos}
/-- d = {} -/
def sDic0 (i : Nat) : Ev → MM Fl := fun ρ ω => .ok (.next (put ρ i (.dict []))) ω
theorem s_dic0 {i : Nat} {t1 : Expr} {p1 p2 : Pos} (hT : m.T = some i) (hb : m.B ≠ some i) (hO : i ∉ m.O) (h : PE X (.Dict [] [] p1) tNewDT → PS X (.Assign [t1] (.Dict [] [] p1) p2) (tAsg tNewDT (gName i))) : PS X (.Assign [t1] (.Dict [] [] p1) p2) (TSD c W m m mb mc (sDic0 i)) :=
  PSimp (h pe_newDT) fun D' σ H ⟨F, ρ, ω, S, q⟩ p hp => by
    have x : Xt none F H F (upd H p (DTO p [])) := Xt.alloc0 S.fh hp
    exact q F _ _ (Same.refl _) ((S.step x.any (S.bo.ext x)).putDic hT hb hO (new_h0 S hp) (Same.none S.fh hp) upd_same .nil)
/-- d[k] -/
def eDicG (i : Nat) (dk : Ev → MM D) : Ev → MM D := fun ρ ω => match look ρ i with
  | some (.dict es) => (dk ρ ω).bind fun k w => ofO ((keyOf k).bind (dGetD es)) w
  | _ => .bad
theorem dic_key {K : PySem.W.Frag} {F : Hp} {v : V} {d : D} {k : List Int} (r : Rp K F v d) (h : keyOf d = some k) : ∃ b, v = .ref b ∧ SqT K F b (k.map V.int) := by
  have e := keyOf_eq h
  subst e
  cases r with
  | tup g1 g2 =>
    rw [g2.ints] at g1
    exact ⟨_, rfl, g1⟩
theorem e_dicG {i : Nat} {o k1 : Expr} {dk : Ev → MM D} (hT : m.T = some i) (hk : X.K = c.K) (hu : X.A.units + 65 < cLine) (he : E c W m X k1 dk) (ho : PE X o (tVar i)) (hs : NoSl k1 := by intro _ _; rfl) : E c W m X (.Subscript o k1 pos) (eDicG i dk) :=
  PEimp (pe_getDT (by omega) ho he hs) fun σ H Q ⟨F, ρ, ω, S, q⟩ => by
    unfold eDicG at q
    cases hl : look ρ i with
    | none => rw [hl] at q; exact q.elim
    | some a =>
      rw [hl] at q
      obtain ⟨l, L, es, k1, k2, k3, k4, k5, k6⟩ := S.tsl i a hT (look_iff hl)
      subst k2
      refine ⟨_, k1, F, ρ, ω, S, bindT S Post.pg q fun kd F1 H1 w1 x1 S1 q1 y r1 => ?_⟩
      obtain ⟨v, e1, q2⟩ := post_ofO S1.fh S1.bo q1
      obtain ⟨k, e2, e3⟩ := Option.bind_eq_some_iff.mp e1
      obtain ⟨b, rfl, hb⟩ := dic_key r1 e2
      have h5 : H1 l = some (DTO l L) := x1.keep l _ k5 fun z => (S.bo l z).1 k3
      have k6' := k6.mono x1.ff
      rcases k6'.get (k := k) with ⟨_, g2⟩ | ⟨u, d, g1, g2, g3⟩
      · rw [g2] at e3; cases e3
      · rw [g2] at e3; cases e3
        refine ⟨l, b, L, k, u, rfl, rfl, h5, ?_, ?_, g1, q2 F1 H1 (Xt.refl S1.fh) _ g3⟩
        · rw [hk]; exact k6'.keysT S1.fh
        · rw [hk]; exact sameT S1.fh hb
/-- k in d -/
def bDicIn (i : Nat) (dk : Ev → MM D) : Ev → MM Bool := fun ρ ω => (dk ρ ω).bind fun k w => match look ρ i with
  | some (.dict es) => ofO ((keyOf k).map fun kk => (dGetD es kk).isSome) w
  | _ => .bad
theorem b_dicIn {i : Nat} {a b : Expr} {dk : Ev → MM D} (hT : m.T = some i) (hk : X.K = c.K) (hu : X.A.units + 65 < cLine) (h1 : E c W m X a dk) (h2 : PE X b (tVar i)) (hm : behindInMarks .In b = false) : B c W m X (.Compare a [.In] [b] pos) (bDicIn i dk) :=
  PTimp (pt_cmpR (op_inDT (by omega)) h1 h2 hm) fun σ H Q ⟨F, ρ, ω, S, q⟩ => ⟨F, ρ, ω, S, bindT S Post.pg q fun kd F1 H1 w1 x1 S1 q1 x r1 => by
    cases hl : look ρ i with
    | none => rw [hl] at q1; exact q1.elim
    | some u =>
      rw [hl] at q1
      obtain ⟨l, L, es, k1, k2, k3, k4, k5, k6⟩ := S1.tsl i u hT (look_iff hl)
      subst k2
      obtain ⟨z, e1, q3⟩ := post_ofO S1.fh S1.bo q1
      obtain ⟨k, e2, e3⟩ := Option.map_eq_some_iff.mp e1
      obtain ⟨b, rfl, hb⟩ := dic_key r1 e2
      have iso : (atD L k).isSome = z := by
        rw [← e3]
        rcases k6.get (k := k) with ⟨g1, g2⟩ | ⟨u, d, g1, g2, _⟩ <;> rw [g1, g2] <;> rfl
      refine ⟨_, k1, l, b, L, k, rfl, rfl, k5, ?_, ?_, z, by rw [iso], q3 F1 H1 (Xt.refl S1.fh)⟩
      · rw [hk]; exact k6.keysT S1.fh
      · rw [hk]; exact sameT S1.fh hb⟩
/-- d[k] = v -/
def sDicS (i : Nat) (dv dk : Ev → MM D) : Ev → MM Fl := fun ρ ω => (dv ρ ω).bind fun v w => match look ρ i with
  | some (.dict es) => (dk ρ w).bind fun k w => match keyOf k with
    | some kk => if es.length < sizeLine then .ok (.next (put ρ i (.dict (dPutD es kk v)))) w else .bad
    | none => .bad
  | _ => .bad
theorem s_dicS {i : Nat} {o k1 v1 : Expr} {p2 p3 : Pos} {dv dk : Ev → MM D} (hT : m.T = some i) (hO : i ∉ m.O) (hk : X.K = c.K) (hv : E c W m X v1 dv) (he : E c W m X k1 dk) (h : PE X v1 (TD c W m dv) → PE X k1 (TD c W m dk) → PS X (.Assign [.Subscript o k1 p2] v1 p3) (tAsg (TD c W m dv) (gSub (tVar i) (TD c W m dk) (rSetDT X.K)))) :
    PS X (.Assign [.Subscript o k1 p2] v1 p3) (TSD c W m m mb mc (sDicS i dv dk)) := PSimp (h hv he) fun D' σ H ⟨F, ρ, ω, S, q⟩ => by
  have q' : GS c W m mb mc D' F H _ := ⟨S.fr.xt, q⟩
  refine ⟨F, ρ, ω, S, bindT S GS.pg q' fun v F1 H1 w1 x1 S1 q1 y r1 => ?_⟩
  cases hl : look ρ i with
  | none => simp only [hl] at q1; exact q1.2.elim
  | some a =>
    simp only [hl] at q1
    obtain ⟨l, L, es, k1, k2, k3, k4, k5, k6⟩ := S1.tsl i a hT (look_iff hl)
    subst k2
    refine ⟨_, k1, F1, ρ, w1, S1, bindT S1 GS.pg q1 fun kd F2 H2 w2 x2 S2 q2 z r2 => ?_⟩
    have h5 : H2 l = some (DTO l L) := x2.keep l _ k5 fun z => (S1.bo l z).1 k3
    cases hkk : keyOf kd with
    | none => simp only [hkk] at q2; exact q2.2.elim
    | some k =>
      simp only [hkk] at q2
      obtain ⟨b, rfl, hb⟩ := dic_key r2 hkk
      by_cases hz : es.length < sizeLine
      · rw [if_pos hz] at q2
        have k6' := k6.mono x2.ff
        refine ⟨l, b, L, k, rfl, rfl, h5, ?_, ?_, by rw [k6.length]; exact hz, q2.2 F2 σ _ (Same.refl _) (S2.writeDic hT hO (look_iff hl) k1 h5 (k6'.put hb (r1.mono x2.ff)))⟩
        · rw [hk]; exact k6'.keysT S2.fh
        · rw [hk]; exact sameT S2.fh hb
      · rw [if_neg hz] at q2; exact q2.2.elim
/-- list(d) -/
def fDicL (i : Nat) : Ev → MM (List D) := fun ρ ω => match look ρ i with
  | some (.dict es) => .ok (es.map (·.1)) ω
  | _ => .bad
theorem f_dicL {i : Nat} {a : Expr} {p : Pos} (hT : m.T = some i) (hc : X.calm = true) (hg : Gl X "list") (hm : X.mg "list" = none) (ha : PE X a (tVar i))
    (he : starEach [a] X.env = (false, eval a X.env) :: starEach [] X.env := by rfl) (hpl : (backTo pos (starEach [] X.env)).any (·.1) = false := by rfl) : EF c W m X (.Call (.Name "list" p) [a] [] pos) (fDicL i) :=
  PEimp (pe_callTy (cr_listDT hc) hg hm boot_list (pa_cons ha pa_nil he) (by decide) (by decide) he hpl) fun σ H Q ⟨F, ρ, ω, S, q⟩ => by
    unfold fDicL at q
    cases hl : look ρ i with
    | none => rw [hl] at q; exact q.elim
    | some u =>
      rw [hl] at q
      obtain ⟨l, L, es, k1, k2, k3, k4, k5, k6⟩ := S.tsl i u hT (look_iff hl)
      subst k2
      exact ⟨_, k1, l, L, rfl, k5, fun p np => q F _ (Xt.alloc0 S.fh np) (S.bo.ext (Xt.alloc0 S.fh np)) p _ np (Same.none S.fh np) upd_same k6.keys⟩
/-! d = {k: v for .. in ..} -/
def dcGo (g : D → Ev → Option Ev) (t : Ev → MM Bool) (dk dv : Ev → MM D) (ρ0 : Ev) : List D → List (D × D) → Wd → Res (List (D × D))
  | [], es, w => .ok es w
  | x :: xs, es, w => (ofO (g x ρ0) w).bind fun ρ1 w => (noX (t ρ1 w)).bind fun b w => match b with
    | true => (noX (dk ρ1 w)).bind fun k w => (noX (dv ρ1 w)).bind fun v w => match keyOf k with
      | some kk => if es.length < sizeLine then dcGo g t dk dv ρ0 xs (dPutD es kk v) w else .bad
      | none => .bad
    | false => dcGo g t dk dv ρ0 xs es w
def dcD (di : Ev → MM (List D)) (g : D → Ev → Option Ev) (t : Ev → MM Bool) (dk dv : Ev → MM D) (vs : List Nat) : Ev → MM (List (D × D)) := fun ρ ω => (di ρ ω).bind fun xs w => dcGo g t dk dv (wipeD ρ vs) xs [] w
def sDicC (i : Nat) (d : Ev → MM (List (D × D))) : Ev → MM Fl := fun ρ ω => (d ρ ω).bind fun es w => .ok (.next (put ρ i (.dict es))) w
theorem nox_e {α : Type} {r : Res α} {e : Ex} {v : Wd} : noX r ≠ .exc e v := by cases r <;> intro z <;> cases z
theorem dcGo_noexc (g : D → Ev → Option Ev) (t : Ev → MM Bool) (dk dv : Ev → MM D) (ρ0 : Ev) : ∀ (xs : List D) (es : List (D × D)) (w : Wd) (e : Ex) (v : Wd), dcGo g t dk dv ρ0 xs es w ≠ .exc e v
  | [], _, _, _, _, h => by cases h
  | x :: xs, es, w, e, v, h => by
    unfold dcGo at h
    cases hg : g x ρ0 with
    | none => rw [hg] at h; cases h
    | some ρ1 =>
      rw [hg, ofO_some, bind_ok] at h
      cases ht : noX (t ρ1 w) with
      | bad => rw [ht] at h; cases h
      | exc ee vv => exact nox_e ht
      | ok b w1 =>
        rw [ht, bind_ok] at h
        cases b with
        | false => exact dcGo_noexc g t dk dv ρ0 xs es w1 e v h
        | true =>
          simp only at h
          cases hd : noX (dk ρ1 w1) with
          | bad => rw [hd] at h; cases h
          | exc ee vv => exact nox_e hd
          | ok y w2 =>
            rw [hd, bind_ok] at h
            cases hv : noX (dv ρ1 w2) with
            | bad => rw [hv] at h; cases h
            | exc ee vv => exact nox_e hv
            | ok z w3 =>
              rw [hv, bind_ok] at h
              cases hk : keyOf y with
              | none => simp only [hk] at h; cases h
              | some kk =>
                simp only [hk] at h
                by_cases c : es.length < sizeLine
                · rw [if_pos c] at h
                  exact dcGo_noexc g t dk dv ρ0 xs _ w3 e v h
                · rw [if_neg c] at h; cases h
theorem xt_upd {b : Option Addr} {F1 H1 F' H' : Hp} {D1 : Addr} {o : HO} (x : Xt b F1 H1 F' H') (h1 : H1 D1 = none) (h2 : F' D1 = none) : Xt b F1 H1 F' (upd H' D1 o) := by
  refine ⟨x.ff, fun a u e => ?_, fun a u e nn => ?_, fun a h => ?_, x.new⟩
  · have ha : a ≠ D1 := fun z => by rw [z, h2] at e; cases e
    rw [upd_ne ha]; exact x.fh _ _ e
  · have ha : a ≠ D1 := fun z => by rw [z, h1] at e; cases e
    rw [upd_ne ha]; exact x.keep a u e nn
  · by_cases ha : a = D1
    · rw [ha, upd_same]; simp
    · rw [upd_ne ha]; exact x.dom a h
theorem bo_upd {F' H' : Hp} {D1 : Addr} {o : HO} (bo : BorOk c F' ω H') (h : c.b ≠ some D1) : BorOk c F' ω (upd H' D1 o) := by
  intro b' hb'
  obtain ⟨b0, b1, bu, b2, b3⟩ := bo b' hb'
  have hne : b' ≠ D1 := fun z => h (z ▸ hb')
  exact ⟨b0, b1, bu, by rw [upd_ne hne]; exact b2, b3⟩
theorem s_dicC {i : Nat} {t1 e1 : Expr} {p3 : Pos} {is vs : List Nat} {di : Ev → MM (List D)} {g : D → Ev → Option Ev} {t : Ev → MM Bool} {dk dv : Ev → MM D} {mt : Md} (hk : X.K = c.K) (hT : m.T = some i) (hb : m.B ≠ some i) (hO : i ∉ m.O)
    (h : PS X (.Assign [t1] e1 p3) (tAsg (tDcT X.K (TID c W m di) (TGD c (m.delL vs) mt is g) (TDb c W0 mt t) (TD c W0 mt dk) (TD c W0 mt dv) vs) (gName i)))
    (hv : ∀ v ∈ vs, m.Fr v := by decide) (his : ∀ i ∈ is, i ∈ vs := by decide) : PS X (.Assign [t1] e1 p3) (TSD c W m m mb mc (sDicC i (dcD di g t dk dv vs))) :=
  PSimp h fun D' σ H ⟨F, ρ, ω, S, q⟩ => by
  unfold sDicC dcD at q
  have q' : GS c W m mb mc D' F H ((di ρ ω).bind fun xs w => (dcGo g t dk dv (wipeD ρ vs) xs [] w).bind fun es w => .ok (.next (put ρ i (.dict es))) w) := by
    refine ⟨S.fr.xt, ?_⟩
    cases hd : di ρ ω <;> simpa [hd] using q
  refine ⟨F, ρ, ω, S, bindT S GS.pg q' fun items F1 H1 w1 x1 S1 q1 J hJ => ?_⟩
  intro D1 hD
  have SW := S1.wipe hv
  obtain ⟨out, wf, hout⟩ : ∃ out wf, dcGo g t dk dv (wipeD ρ vs) items [] w1 = .ok out wf := by
    cases e : dcGo g t dk dv (wipeD ρ vs) items [] w1 with
    | bad => rw [e] at q1; exact q1.2.elim
    | exc ee vv => exact absurd e (dcGo_noexc _ _ _ _ _ _ _ _ _ _)
    | ok a b => exact ⟨a, b, rfl⟩
  rw [hout] at q1
  have hbD : c.b ≠ some D1 := new_ne_b S1 hD
  refine ⟨fun i n H' => n = items.length - i ∧ i ≤ items.length ∧ ∃ F' ω' L es, Xt c.b F1 H1 F' H' ∧ BorOk c F' ω' H' ∧ F' D1 = none ∧ H' D1 = some (DTO D1 L) ∧ RpD c.K F' L es ∧ dcGo g t dk dv (wipeD ρ vs) (items.drop i) es ω' = .ok out wf, ⟨_, rfl, Nat.zero_le _, F1, w1, [], [], Xt.alloc0 S1.fh hD, S1.bo.ext (Xt.alloc0 S1.fh hD), Same.none S1.fh hD, upd_same, .nil, hout⟩, ?_⟩
  rintro i n H' ⟨rfl, hi, F', ω', L, es, x', bo', fD, hD', rD, hgo⟩
  by_cases hlt : i < items.length
  · refine .inr ⟨hJ.go i F' H' hlt x'.ff x'.fh, fun x H2 y => ?_⟩
    obtain ⟨F2, xt2, r2⟩ := hJ.yld i items[i] F' H' x H2 (by simp [hlt]) x'.ff x'.fh y
    rw [List.drop_eq_getElem_cons hlt, dcGo] at hgo
    obtain ⟨ρ1, w2, e1, hgo1⟩ := bind_split hgo
    have eg : g items[i] (wipeD ρ vs) = some ρ1 ∧ w2 = ω' := by
      cases q : g items[i] (wipeD ρ vs) with
      | none => rw [q] at e1; cases e1
      | some z => rw [q] at e1; cases e1; exact ⟨rfl, rfl⟩
    obtain ⟨eg, rfl⟩ := eg
    obtain ⟨b, w3, e2, hgo2⟩ := bind_split hgo1
    have e2 := noX_ne e2
    have x2' : Xt c.b F1 H1 F2 H2 := x'.trans xt2.any
    have bo2 := bo'.ext xt2
    have S2 : SR c (m.delL vs) F2 (wipeD ρ vs) w2 (L2.wipe σ vs) H2 := SW.step x2' bo2
    refine ⟨F2, wipeD ρ vs, w2, items[i], ρ1, S2, r2, eg, fun σ2 S3 off => ⟨wipe_off off his, F2, ρ1, w2, S3, ?_⟩⟩
    rw [e2]
    intro F3 H3 xt3 bo3
    have hD2 : H2 D1 = some (DTO D1 L) := xt2.keep D1 _ hD' (by simp)
    have D3 : H3 D1 = some (DTO D1 L) := xt3.keep D1 _ hD2 hbD
    have F3D : F3 D1 = none := by
      rw [xt3.new D1 (by rw [hD2]; simp), xt2.new D1 (by rw [hD']; simp)]
      exact fD
    cases b with
    | false =>
      refine iteF ⟨items.length - (i + 1), by omega, rfl, hlt, F3, w3, L, es, x2'.trans xt3, bo3, F3D, D3, (rD.mono xt2.ff).mono xt3.ff, hgo2⟩
    | true =>
      obtain ⟨kd, w4, e3, hgo3⟩ := bind_split hgo2
      have e3 := noX_ne e3
      obtain ⟨vd, w5, e4, hgo4⟩ := bind_split hgo3
      have e4 := noX_ne e4
      have S3' := S3.step xt3 bo3
      refine iteT ⟨F3, ρ1, w3, S3', ?_⟩
      rw [e3]
      intro F4 H4 xt4 bo4 y ry
      have S4 := S3'.step xt4 bo4
      refine ⟨F4, ρ1, w4, S4, ?_⟩
      rw [e4]
      intro F5 H5 xt5 bo5 z rz
      have D4 : H4 D1 = some (DTO D1 L) := xt4.keep D1 _ D3 hbD
      have D5 : H5 D1 = some (DTO D1 L) := xt5.keep D1 _ D4 hbD
      have F5D : F5 D1 = none := by rw [xt5.new D1 (by rw [D4]; simp), xt4.new D1 (by rw [D3]; simp)]; exact F3D
      cases hkk : keyOf kd with
      | none => simp only [hkk] at hgo4; cases hgo4
      | some k =>
        simp only [hkk] at hgo4
        obtain ⟨a, rfl, ha⟩ := dic_key ry hkk
        have rD5 := (((rD.mono xt2.ff).mono xt3.ff).mono xt4.ff).mono xt5.ff
        have ha5 := sameT xt5.ff ha
        have xx := ((x2'.trans xt3).trans xt4).trans xt5
        by_cases cz : es.length < sizeLine
        · rw [if_pos cz] at hgo4
          refine ⟨L, k, a, rfl, D5, by rw [hk]; exact rD5.keysT xx.fh, by rw [hk]; exact sameT xx.fh ha5, by rw [rD5.length]; exact cz, items.length - (i + 1), by omega, rfl, hlt, F5, w5, putD0 L k a z, dPutD es k vd, xt_upd xx hD F5D, bo_upd bo5 hbD, F5D, upd_same, rD5.put ha5 rz, hgo4⟩
        · rw [if_neg cz] at hgo4; cases hgo4
  · have e : i = items.length := by omega
    subst e
    rw [List.drop_length] at hgo
    cases hgo
    refine .inl ⟨hJ.stop F' H' x'.ff x'.fh, ?_⟩
    have Sx := S1.step x' bo'
    exact q1.2 F' _ H' x'.ff (Sx.putDic hT hb hO (new_h0 S1 hD) fD hD' rD)
theorem pe_dcT65 {ke ve tg iter : Expr} {ifs : List Expr} {scope : Scope} {own : List (PySem.Str × Nat)} {vs : List Nat} {wi : TI} {g : TG} {tt : TT} {tk tv : TE} (hc : X.calm = true) (hu : X.A.units + 65 < cLine) (hN : X.N.Nodup) (hi : PI X tg iter wi) (ok : BlkOk X.N X.env.scope scope own)
    (hg : ∀ (s : Shared) (H : Hp) (C : Addr) (cl : List (PySem.Str × Addr)) (fp : List Addr), PG (X.blk s H scope (compEnvC scope cl C X.env) fp) tg g)
    (ht : ∀ (s : Shared) (H : Hp) (C : Addr) (cl : List (PySem.Str × Addr)) (fp : List Addr), PTs (X.blk s H scope (compEnvC scope cl C X.env) fp) ifs tt)
    (hk : ∀ (s : Shared) (H : Hp) (C : Addr) (cl : List (PySem.Str × Addr)) (fp : List Addr), PE (X.blk s H scope (compEnvC scope cl C X.env) fp) ke tk)
    (hv : ∀ (s : Shared) (H : Hp) (C : Addr) (cl : List (PySem.Str × Addr)) (fp : List Addr), PE (X.blk s H scope (compEnvC scope cl C X.env) fp) ve tv) (hs : ∀ x, foldedSetIterable iter X.env x = pure x := by intro _; rfl) (hvs : own.map (·.2) = vs := by rfl) :
    PE X (.DictComp ke ve [⟨tg, iter, ifs, 0⟩] scope pos) (tDcT X.K wi g tt tk tv vs) := by
  subst hvs
  exact pe_dcT hc (by omega) hN hi ok hg ht hk hv hs
theorem ps_setDcT65 {i : Nat} {y : PySem.Str} {py spos : Pos} {ke ve tg iter : Expr} {ifs : List Expr} {scope : Scope} {own : List (PySem.Str × Nat)} {vs : List Nat} {wi : TI} {g : TG} {tt : TT} {tk tv : TE} (hc : X.calm = true) (hu : X.A.units + 65 < cLine) (hN : X.N.Nodup) (hy : X.N[i]? = some y) (hyl : X.env.scope.names.lookup y = some .local)
    (hsw : swapsWith (.DictComp ke ve [⟨tg, iter, ifs, 0⟩] scope pos) (some (.Name y py)) spos.line X.env = pure true) (hi : PI X tg iter wi) (ok : BlkOk X.N X.env.scope scope own)
    (hg : ∀ (s : Shared) (H : Hp) (C : Addr) (cl : List (PySem.Str × Addr)) (fp : List Addr), PG (X.blk s H scope (compEnvC scope cl C X.env) fp) tg g)
    (ht : ∀ (s : Shared) (H : Hp) (C : Addr) (cl : List (PySem.Str × Addr)) (fp : List Addr), PTs (X.blk s H scope (compEnvC scope cl C X.env) fp) ifs tt)
    (hk : ∀ (s : Shared) (H : Hp) (C : Addr) (cl : List (PySem.Str × Addr)) (fp : List Addr), PE (X.blk s H scope (compEnvC scope cl C X.env) fp) ke tk)
    (hv : ∀ (s : Shared) (H : Hp) (C : Addr) (cl : List (PySem.Str × Addr)) (fp : List Addr), PE (X.blk s H scope (compEnvC scope cl C X.env) fp) ve tv) (hs : ∀ x, foldedSetIterable iter X.env x = pure x := by intro _; rfl) (hvs : own.map (·.2) = vs := by rfl) :
    PS X (.Assign [.Name y py] (.DictComp ke ve [⟨tg, iter, ifs, 0⟩] scope pos) spos) (tAsg (tDcT X.K wi g tt tk tv vs) (gName i)) := by
  subst hvs
  exact ps_setDcT hc (by omega) hN hy hyl hsw hi ok hg ht hk hv hs
end
end M

set_option Elab.async false
set_option linter.all false
set_option maxRecDepth 100000
set_option maxHeartbeats 4000000
namespace M
open PySem PySem.Spec PyProof.Rows L2
/-! ### a tuple of tuples of whole numbers of the module -/
def CDat (K : PySem.W.Frag) (mg : PySem.Str → Option Value) (x : PySem.Str) (d : D) : Prop := ∃ a, mg x = some (.ref a) ∧ ∀ F, Rp K F (.ref a) d
def TupIn (K : PySem.W.Frag) (a : Addr) (ns : List Int) : Prop := ∃ o, K.lookup a = some o ∧ tupB o ns = true
def AllT (K : PySem.W.Frag) : List Addr → List (List Int) → Prop
  | [], [] => True
  | a :: as, n :: ns => TupIn K a n ∧ AllT K as ns
  | _, _ => False
def refsV : List Value → Option (List Addr)
  | [] => some []
  | .ref a :: vs => (refsV vs).map (a :: ·)
  | _ => none
def refsOf (o : Obj) : Option (List Addr) := if o.cls == .type "tuple" then match o.data with
  | .seq its _ => if its.size ≤ sizeLine then refsV its.toList else none
  | _ => none else none
theorem refsV_ok : ∀ {vs : List Value} {as : List Addr}, refsV vs = some as → Vals (as.map V.ref) vs
  | [], as, h => by
    cases h; exact .nil
  | .ref a :: vs, as, h => by
    simp only [refsV, Option.map_eq_some_iff] at h
    obtain ⟨bs, h1, rfl⟩ := h
    exact .cons rfl (refsV_ok h1)
  | .int _ _ :: vs, as, h => nomatch h
  | .none :: vs, as, h => nomatch h
theorem tupIn_rp {K : PySem.W.Frag} {a : Addr} {ns : List Int} (h : TupIn K a ns) (F : Hp) : Rp K F (.ref a) (.tuple (ns.map .int)) := by
  obtain ⟨o, h2, h3⟩ := h
  refine .tup (.inr ?_) (RpL.of_ints ns)
  unfold tupB at h3
  rw [Bool.and_eq_true] at h3
  obtain ⟨hc, hd⟩ := h3
  cases e : o.data with
  | seq its n =>
    rw [e] at hd
    rw [Bool.and_eq_true] at hd
    exact ⟨o, its, n, h2, by simpa using hc, e, of_decide_eq_true hd.2, valsB_ok hd.1⟩
  | _ => rw [e] at hd; exact nomatch hd
theorem allT_rp {K : PySem.W.Frag} (F : Hp) : ∀ {as : List Addr} {ns : List (List Int)}, AllT K as ns → RpL K F (as.map V.ref) (ns.map fun n => .tuple (n.map .int))
  | [], [], _ => .nil
  | a :: as, n :: ns, h => .cons (tupIn_rp h.1 F) (allT_rp F h.2)
  | [], _ :: _, h => nomatch h
  | _ :: _, [], h => nomatch h
theorem ctup2_mk {K : PySem.W.Frag} {h : Heap} {mg : PySem.Str → Option Value} {x : PySem.Str} {ns : List (List Int)} {a : Addr} {as : List Addr} {o : Obj} (G : h.Ns mainGlobals mg) (X : K.In h) (h1 : PySem.W.nsIn K mainGlobals x = some (some (.ref a))) (h2 : K.lookup a = some o) (h3 : refsOf o = some as) (h4 : AllT K as ns) : CDat K mg x (.tuple (ns.map fun n => .tuple (n.map .int))) := by
  refine ⟨a, PySem.W.mg_of X G h1, fun F => .tup (.inr ?_) (allT_rp F h4)⟩
  unfold refsOf at h3
  split at h3
  · next hc =>
    cases e : o.data with
    | seq its n =>
      rw [e] at h3
      simp only [Option.ite_none_right_eq_some] at h3
      exact ⟨o, its, n, h2, by simpa using hc, e, h3.1, refsV_ok h3.2⟩
    | _ => rw [e] at h3; exact nomatch h3
  · exact nomatch h3
section
variable {c : CM} {W : WX} {m : Md} {X : Cx} {pos : Pos}
theorem e_cdat {x : PySem.Str} {d : D} (hk : X.K = c.K) (h : CDat X.K X.mg x d) (hg : Gl X x) (hd : (x == ("__debug__" : PySem.Str)) = false := by decide) : E c W m X (.Name x pos) (eC d) := by
  obtain ⟨a, h, hs⟩ := h
  exact e_c (pe_glob (v := .ref a) hg h rfl hd) fun F => by rw [← hk]; exact hs F
end
end M

set_option Elab.async false
set_option linter.all false
set_option maxRecDepth 100000
set_option maxHeartbeats 4000000
namespace M
open PySem PySem.Spec PyProof.Rows L2
def topS (i : Nat) : Stmt := PySem.Challenge.pw_rootsooth_k10_whole_matrices_that_keep_a.main.body.getD i (.Pass ⟨0, 0, 0, 0⟩)
/-- what the top has written -/
structure Txt (K : PySem.W.Frag) (mg : PySem.Str → Option Value) : Prop where
  f_root_below : Def K mg "root_below" (topS 4) ["number"]
  f_is_square : Def K mg "is_square" (topS 5) ["number"]
  f_common_divisor : Def K mg "common_divisor" (topS 6) ["one", "other"]
  f_divisor_of_all : Def K mg "divisor_of_all" (topS 7) ["numbers"]
  f_is_integer : Def K mg "is_integer" (topS 9) ["value"]
  f_is_row : Def K mg "is_row" (topS 10) ["value", "size"]
  f_value_at_point : Def K mg "value_at_point" (topS 12) ["form", "x", "y"]
  f_discriminant_of : Def K mg "discriminant_of" (topS 13) ["form"]
  f_content_of : Def K mg "content_of" (topS 14) ["form"]
  f_turned_form : Def K mg "turned_form" (topS 15) ["form", "twist"]
  f_scaled_form : Def K mg "scaled_form" (topS 16) ["form", "factor"]
  f_primitive_part : Def K mg "primitive_part" (topS 17) ["form"]
  f_kind_of_form : Def K mg "kind_of_form" (topS 18) ["form"]
  f_principal_form : Def K mg "principal_form" (topS 19) ["discriminant"]
  f_is_twist : Def K mg "is_twist" (topS 23) ["value"]
  f_after_twist : Def K mg "after_twist" (topS 24) ["one", "other"]
  f_undone_twist : Def K mg "undone_twist" (topS 25) ["one"]
  f_shift : Def K mg "shift" (topS 26) ["count"]
  f_twist_power : Def K mg "twist_power" (topS 27) ["one", "count"]
  f_is_reduced_mixed : Def K mg "is_reduced_mixed" (topS 29) ["form"]
  f_next_mixed : Def K mg "next_mixed" (topS 30) ["form"]
  f_reduced_mixed : Def K mg "reduced_mixed" (topS 31) ["form"]
  f_twist_along : Def K mg "twist_along" (topS 32) ["form"]
  f_is_reduced_positive : Def K mg "is_reduced_positive" (topS 34) ["form"]
  f_reduced_positive : Def K mg "reduced_positive" (topS 35) ["form"]
  f_selves_of : Def K mg "selves_of" (topS 40) ["form"]
  f_number_of_selves : Def K mg "number_of_selves" (topS 41) ["discriminant"]
  f_least_self : Def K mg "least_self" (topS 42) ["form"]
  f_self_of_unit : Def K mg "self_of_unit" (topS 43) ["form", "t", "u"]
  f_unit_of_self : Def K mg "unit_of_self" (topS 44) ["form", "twist"]
  f_is_self : Def K mg "is_self" (topS 45) ["form", "twist"]
  f_exponent_of_self : Def K mg "exponent_of_self" (topS 46) ["form", "twist"]
  f_is_discriminant : Def K mg "is_discriminant" (topS 48) ["number"]
  f_least_unit : Def K mg "least_unit" (topS 50) ["discriminant"]
  f_L_state : Def K mg "_law_state" (topS 52) ["script"]
  f_L_draw : Def K mg "_law_draw" (topS 53) ["state", "limit"]
  f_L_is_square : Def K mg "_law_is_square" (topS 54) ["number"]
  f_L_turned : Def K mg "_law_turned" (topS 55) ["form", "matrix"]
  f_L_mix : Def K mg "_law_mix" (topS 56) ["state", "most"]
  f_L_floor : Def K mg "_law_floor" (topS 57) ["number"]
  f_L_truth : Def K mg "_law_truth" (topS 58) ["told", "due"]
  f_L_pos : Def K mg "_law_pos" (topS 59) ["state", "most"]
  f_L_common : Def K mg "_law_common" (topS 60) ["one", "two"]
  f_L_twist : Def K mg "_law_twist" (topS 61) ["state"]
  f_L_points : Def K mg "_law_points" (topS 62) ["form", "number"]
  f_L_selves : Def K mg "_law_selves" (topS 63) ["form"]
  f_L_told : Def K mg "_law_told" (topS 64) ["form", "kind"]
  f_L_product : Def K mg "_law_product" (topS 65) ["one", "two"]
  f_L_mixed_holds : Def K mg "_law_mixed_holds" (topS 66) ["state", "form"]
  f_law : Def K mg "law" (topS 67) ["script"]
  b_abs : mg "abs" = none
  b_all : mg "all" = none
  b_bool : mg "bool" = none
  b_int : mg "int" = none
  b_isinstance : mg "isinstance" = none
  b_len : mg "len" = none
  b_list : mg "list" = none
  b_range : mg "range" = none
  b_set : mg "set" = none
  b_sorted : mg "sorted" = none
  b_tuple : mg "tuple" = none
  x_NotPossible : ExcT K mg "NotPossible"
  c_QUARTERS : CDat K mg "QUARTERS" (.tuple (List.map (fun n => .tuple (List.map .int n)) [[0, -1, 1, 0], [0, 1, -1, 0]]))
  c_SIXTHS : CDat K mg "SIXTHS" (.tuple (List.map (fun n => .tuple (List.map .int n)) [[-1, -1, 1, 0], [0, -1, 1, 1], [0, 1, -1, -1], [1, 1, -1, 0]]))
  c_STRAIGHT : CTup K mg "STRAIGHT" [1, 0, 0, 1]
  c_STRAIGHTS : CDat K mg "STRAIGHTS" (.tuple (List.map (fun n => .tuple (List.map .int n)) [[-1, 0, 0, -1], [1, 0, 0, 1]]))
  c_TURN : CTup K mg "TURN" [0, -1, 1, 0]
section
variable {P : Program} {w : World} {K : PySem.W.Frag} {mg : PySem.Str → Option Value} {base : Heap}
/-! ### root_below -/
abbrev s_root_below : Stmt := topS 4
abbrev N_root_below : List PySem.Str := ["number", "low", "high", "middle"]
theorem sc_root_below : FnScope N_root_below ["number"] (defScope s_root_below) := ⟨rfl, rfl, rfl, by decide +kernel, rfl, by decide +kernel, by decide +kernel⟩
noncomputable def d_root_below : List D → Res D := runF 4 1
 ((sSeq (sAsg (eC (.int 0)) (gN 1))
 (sSeq (sAsg (eC (.int 1)) (gN 2))
 (sSeq (sWhile (bBin cLe (eBin vMul (eVar 2) (eVar 2)) (eVar 0)) (sAug 2 vMulI (eC (.int 2))))
 (sSeq (sWhile (bBin cGt (eBin vSub (eVar 2) (eVar 1)) (eC (.int 1))) (sSeq (sAsg (eBin vFdiv (eBin vAdd (eVar 1) (eVar 2)) (eC (.int 2))) (gN 3))
 (sIf (bBin cLe (eBin vMul (eVar 3) (eVar 3)) (eVar 0)) (sAsg (eVar 3) (gN 1)) (sAsg (eVar 3) (gN 2)))))
 (sRet (eVar 1)))))))
theorem ok_root_below (T : Txt K mg) : FnD P w K mg base "root_below" 1 1 d_root_below :=
 own_P (t := none) (mn := ⟨[], none, none⟩) (mb := ⟨[], none, none⟩) (mc := ⟨[], none, none⟩) T.f_root_below sc_root_below rfl fun f F0 cdv A outer s H E hr =>
 (ss_cons (m1 := ⟨[], none, none⟩) (s_set e_int (fun h => ps_set (i := 1) sc_root_below.nd rfl (.inl rfl) h))
 (ss_cons (m1 := ⟨[], none, none⟩) (s_set e_int (fun h => ps_set (i := 2) sc_root_below.nd rfl (.inl rfl) h))
 (ss_cons (m1 := ⟨[], none, none⟩) (s_while pass_ok (b_cmp op_le v_le (e_bin op_mulX v_mul (e_var (by decide) (pv 2)) (e_var (by decide) (pv 2))) (e_var (by decide) (pv 0)) (nomark _)) (ss_one (s_aug v_mulI (by decide) e_int (fun h => ps_aug (i := 2) sc_root_below.nd rfl (.inl rfl) h iop_mulW))))
 (ss_cons (m1 := ⟨[], none, none⟩) (s_while pass_ok (b_cmp op_gt v_gt (e_bin op_sub v_sub (e_var (by decide) (pv 2)) (e_var (by decide) (pv 1))) e_int (nomark _)) (ss_cons (m1 := ⟨[], none, none⟩) (s_set (e_bin op_fdivG v_fdiv (e_bin op_addX (v_add rfl) (e_var (by decide) (pv 1)) (e_var (by decide) (pv 2))) e_int) (fun h => ps_set (i := 3) sc_root_below.nd rfl (.inl rfl) h))
 (ss_one (s_if (b_cmp op_le v_le (e_bin op_mulX v_mul (e_var (by decide) (pv 3)) (e_var (by decide) (pv 3))) (e_var (by decide) (pv 0)) (nomark _)) (ss_one (s_set (e_var (by decide) (pv 3)) (fun h => ps_set (i := 1) sc_root_below.nd rfl (.inl rfl) h))) (ss_one (s_set (e_var (by decide) (pv 3)) (fun h => ps_set (i := 2) sc_root_below.nd rfl (.inl rfl) h)))))))
 (ss_one (s_ret (e_var (by decide) (pv 1))))))))
/-! ### is_square -/
abbrev s_is_square : Stmt := topS 5
abbrev N_is_square : List PySem.Str := ["number"]
theorem sc_is_square : FnScope N_is_square ["number"] (defScope s_is_square) := ⟨rfl, rfl, rfl, by decide +kernel, rfl, by decide +kernel, by decide +kernel⟩
noncomputable def d_is_square : List D → Res D := runF 1 1
 ((sRet (eAnd (eOfB (bBin cGe (eVar 0) (eC (.int 0)))) (eOfB (bBin vEq (eBin vMul (eCall d_root_below (aCons (eVar 0) aNil)) (eCall d_root_below (aCons (eVar 0) aNil))) (eVar 0))))))
theorem ok_is_square (T : Txt K mg) : FnD P w K mg base "is_square" 2 1 d_is_square :=
 own_P (t := none) (mn := ⟨[], none, none⟩) (mb := ⟨[], none, none⟩) (mc := ⟨[], none, none⟩) T.f_is_square sc_is_square rfl fun f F0 cdv A outer s H E hr =>
 (ss_one (s_ret (e_and (e_cmp op_ge v_ge (e_var (by decide) (pv 0)) e_int (nomark _)) (e_one (e_cmp (op_eqD hr.units) (v_eq rfl) (e_bin op_mulX v_mul (e_call (ok_root_below T) hr rfl rfl takes_ok (a_cons (e_var (by decide) (pv 0)) a_nil) rfl) (e_call (ok_root_below T) hr rfl rfl takes_ok (a_cons (e_var (by decide) (pv 0)) a_nil) rfl)) (e_var (by decide) (pv 0)) (nomark _))))))
/-! ### common_divisor -/
abbrev s_common_divisor : Stmt := topS 6
abbrev N_common_divisor : List PySem.Str := ["one", "other"]
theorem sc_common_divisor : FnScope N_common_divisor ["one", "other"] (defScope s_common_divisor) := ⟨rfl, rfl, rfl, by decide +kernel, rfl, by decide +kernel, by decide +kernel⟩
noncomputable def d_common_divisor : List D → Res D := runF 2 2
 ((sSeq (sPar 0 1 (eArgs fAbs (aCons (eVar 0) aNil)) (eArgs fAbs (aCons (eVar 1) aNil)))
 (sSeq (sWhile (bBin vNe (eVar 1) (eC (.int 0))) (sPar 0 1 (eVar 1) (eBin vMod (eVar 0) (eVar 1))))
 (sRet (eVar 0)))))
theorem ok_common_divisor (T : Txt K mg) : FnD P w K mg base "common_divisor" 1 2 d_common_divisor :=
 own_P (t := none) (mn := ⟨[], none, none⟩) (mb := ⟨[], none, none⟩) (mc := ⟨[], none, none⟩) T.f_common_divisor sc_common_divisor rfl fun f F0 cdv A outer s H E hr =>
 (ss_cons (m1 := ⟨[], none, none⟩) (s_par (i := 0) (j := 1) (a_cons (e_callB call_abs v_abs rfl T.b_abs (by decide +kernel) (a_cons (e_var (by decide) (pv 0)) a_nil)) (a_cons (e_callB call_abs v_abs rfl T.b_abs (by decide +kernel) (a_cons (e_var (by decide) (pv 1)) a_nil)) a_nil)) rfl sc_common_divisor.nd rfl rfl (by decide) rfl rfl (by rfl))
 (ss_cons (m1 := ⟨[], none, none⟩) (s_while pass_ok (b_cmp (op_neD hr.units) (v_ne rfl) (e_var (by decide) (pv 1)) e_int (nomark _)) (ss_one (s_par (i := 0) (j := 1) (a_cons (e_var (by decide) (pv 1)) (a_cons (e_bin op_modN v_mod (e_var (by decide) (pv 0)) (e_var (by decide) (pv 1))) a_nil)) rfl sc_common_divisor.nd rfl rfl (by decide) rfl rfl (by rfl))))
 (ss_one (s_ret (e_var (by decide) (pv 0))))))
/-! ### divisor_of_all -/
abbrev s_divisor_of_all : Stmt := topS 7
abbrev N_divisor_of_all : List PySem.Str := ["numbers", "found", "number"]
theorem sc_divisor_of_all : FnScope N_divisor_of_all ["numbers"] (defScope s_divisor_of_all) := ⟨rfl, rfl, rfl, by decide +kernel, rfl, by decide +kernel, by decide +kernel⟩
noncomputable def d_divisor_of_all : List D → Res D := runF 3 1
 ((sSeq (sAsg (eC (.int 0)) (gN 1))
 (sSeq (sFor (iSeq (eVar 0)) (gN 2) (sAsg (eCall d_common_divisor (aCons (eVar 1) (aCons (eVar 2) aNil))) (gN 1)))
 (sRet (eVar 1)))))
theorem ok_divisor_of_all (T : Txt K mg) : FnD P w K mg base "divisor_of_all" 2 1 d_divisor_of_all :=
 own_P (t := none) (mn := ⟨[], none, none⟩) (mb := ⟨[], none, none⟩) (mc := ⟨[], none, none⟩) T.f_divisor_of_all sc_divisor_of_all rfl fun f F0 cdv A outer s H E hr =>
 (ss_cons (m1 := ⟨[], none, none⟩) (s_set e_int (fun h => ps_set (i := 1) sc_divisor_of_all.nd rfl (.inl rfl) h))
 (ss_cons (m1 := ⟨[], none, none⟩) (s_for pass_ok rfl (i_seq rfl (e_var (by decide) (pv 0))) (g_name (pg_name (i := 2) sc_divisor_of_all.nd rfl (.inl rfl))) (ss_one (s_set (e_call (ok_common_divisor T) hr rfl rfl takes_ok (a_cons (e_var (by decide) (pv 1)) (a_cons (e_var (by decide) (pv 2)) a_nil)) rfl) (fun h => ps_set (i := 1) sc_divisor_of_all.nd rfl (.inl rfl) h))))
 (ss_one (s_ret (e_var (by decide) (pv 1))))))
/-! ### is_integer -/
abbrev s_is_integer : Stmt := topS 9
abbrev N_is_integer : List PySem.Str := ["value"]
theorem sc_is_integer : FnScope N_is_integer ["value"] (defScope s_is_integer) := ⟨rfl, rfl, rfl, by decide +kernel, rfl, by decide +kernel, by decide +kernel⟩
noncomputable def d_is_integer : List D → Res D := runF 1 1
 ((sRet (eAnd (eUn (fIsi "int") (eVar 0)) (eOfB (bNot (bOfE (eUn (fIsi "bool") (eVar 0))))))))
theorem ok_is_integer (T : Txt K mg) : FnD P w K mg base "is_integer" 1 1 d_is_integer :=
 own_P (t := none) (mn := ⟨[], none, none⟩) (mb := ⟨[], none, none⟩) (mc := ⟨[], none, none⟩) T.f_is_integer sc_is_integer rfl fun f F0 cdv A outer s H E hr =>
 (ss_one (s_ret (e_and (e_isi tyOk_int rfl rfl T.b_isinstance rfl T.b_int (by decide +kernel) (e_var (by decide) (pv 0))) (e_one (e_not (e_isi tyOk_bool rfl rfl T.b_isinstance rfl T.b_bool (by decide +kernel) (e_var (by decide) (pv 0))))))))
/-! ### is_row -/
abbrev s_is_row : Stmt := topS 10
abbrev N_is_row : List PySem.Str := ["value", "size", "part"]
theorem sc_is_row : FnScope N_is_row ["value", "size"] (defScope s_is_row) := ⟨rfl, rfl, rfl, by decide +kernel, rfl, by decide +kernel, by decide +kernel⟩
noncomputable def d_is_row : List D → Res D := runF 3 2
 ((sSeq (sIf (bOr (bNot (bTru (eUn (fIsi "tuple") (eVar 0)))) (bBin vNe (eArgs fLen (aCons (eVar 0) aNil)) (eVar 1))) (sRet (eC (.bool false))) sNext)
 (sRet (eArgs fAll (aCons (eOfF (lcD (iSeq (eVar 0)) (gN 2) bYes (eCall d_is_integer (aCons (eVar 2) aNil)) [2])) aNil)))))
theorem ok_is_row (T : Txt K mg) : FnD P w K mg base "is_row" 2 2 d_is_row :=
 own_P (t := none) (mn := ⟨[], none, none⟩) (mb := ⟨[], none, none⟩) (mc := ⟨[], none, none⟩) T.f_is_row sc_is_row rfl fun f F0 cdv A outer s H E hr =>
 (ss_cons (m1 := ⟨[], none, none⟩) (s_if (b_w (bw_or (b_not (b_tru (e_isi tyOk_tuple rfl rfl T.b_isinstance rfl T.b_tuple (by decide +kernel) (e_var (by decide) (pv 0))) rfl)) (bw_or1 (b_cmp (op_neD hr.units) (v_ne rfl) (e_callB call_len (v_len rfl) rfl T.b_len (by decide +kernel) (a_cons (e_var (by decide) (pv 0)) a_nil)) (e_var (by decide) (pv 1)) (nomark _))))) (ss_one (s_ret e_bl)) ss_nil)
 (ss_one (s_ret (e_callB (cr_all rfl) (v_all rfl) rfl T.b_all (by decide +kernel) (a_cons (e_ofF (f_lc rfl sc_is_row.nd  (i_seq rfl (e_var (by decide) (pv 0))) (blkOk_by (own := [("part", 2)]) (N := N_is_row) (sc := defScope s_is_row) (by decide +kernel)) (fun _ _ _ _ _ => (g_name (pg_name (i := 2) sc_is_row.nd rfl (.inl rfl)))) (fun _ _ _ _ _ => t_nil) (fun _ _ _ _ _ => (e_call (ok_is_integer T) hr rfl rfl takes0 (a_cons (e_var (by decide) (pv 2)) a_nil) rfl)))) a_nil)))))
/-! ### value_at_point -/
abbrev s_value_at_point : Stmt := topS 12
abbrev N_value_at_point : List PySem.Str := ["form", "x", "y"]
theorem sc_value_at_point : FnScope N_value_at_point ["form", "x", "y"] (defScope s_value_at_point) := ⟨rfl, rfl, rfl, by decide +kernel, rfl, by decide +kernel, by decide +kernel⟩
noncomputable def d_value_at_point : List D → Res D := runF 3 3
 ((sRet (eBin vAdd (eBin vAdd (eBin vMul (eBin vMul (eBin vIx (eVar 0) (eC (.int 0))) (eVar 1)) (eVar 1)) (eBin vMul (eBin vMul (eBin vIx (eVar 0) (eC (.int 1))) (eVar 1)) (eVar 2))) (eBin vMul (eBin vMul (eBin vIx (eVar 0) (eC (.int 2))) (eVar 2)) (eVar 2)))))
theorem ok_value_at_point (T : Txt K mg) : FnD P w K mg base "value_at_point" 1 3 d_value_at_point :=
 own_P (t := none) (mn := ⟨[], none, none⟩) (mb := ⟨[], none, none⟩) (mc := ⟨[], none, none⟩) T.f_value_at_point sc_value_at_point rfl fun f F0 cdv A outer s H E hr =>
 (ss_one (s_ret (e_bin op_addX (v_add rfl) (e_bin op_addX (v_add rfl) (e_bin op_mulX v_mul (e_bin op_mulX v_mul (e_ix ix_seq (v_ix rfl) (e_var (by decide) (pv 0)) e_int (fun _ _ => rfl)) (e_var (by decide) (pv 1))) (e_var (by decide) (pv 1))) (e_bin op_mulX v_mul (e_bin op_mulX v_mul (e_ix ix_seq (v_ix rfl) (e_var (by decide) (pv 0)) e_int (fun _ _ => rfl)) (e_var (by decide) (pv 1))) (e_var (by decide) (pv 2)))) (e_bin op_mulX v_mul (e_bin op_mulX v_mul (e_ix ix_seq (v_ix rfl) (e_var (by decide) (pv 0)) e_int (fun _ _ => rfl)) (e_var (by decide) (pv 2))) (e_var (by decide) (pv 2))))))
/-! ### discriminant_of -/
abbrev s_discriminant_of : Stmt := topS 13
abbrev N_discriminant_of : List PySem.Str := ["form"]
theorem sc_discriminant_of : FnScope N_discriminant_of ["form"] (defScope s_discriminant_of) := ⟨rfl, rfl, rfl, by decide +kernel, rfl, by decide +kernel, by decide +kernel⟩
noncomputable def d_discriminant_of : List D → Res D := runF 1 1
 ((sRet (eBin vSub (eBin vMul (eBin vIx (eVar 0) (eC (.int 1))) (eBin vIx (eVar 0) (eC (.int 1)))) (eBin vMul (eBin vMul (eC (.int 4)) (eBin vIx (eVar 0) (eC (.int 0)))) (eBin vIx (eVar 0) (eC (.int 2)))))))
theorem ok_discriminant_of (T : Txt K mg) : FnD P w K mg base "discriminant_of" 1 1 d_discriminant_of :=
 own_P (t := none) (mn := ⟨[], none, none⟩) (mb := ⟨[], none, none⟩) (mc := ⟨[], none, none⟩) T.f_discriminant_of sc_discriminant_of rfl fun f F0 cdv A outer s H E hr =>
 (ss_one (s_ret (e_bin op_sub v_sub (e_bin op_mulX v_mul (e_ix ix_seq (v_ix rfl) (e_var (by decide) (pv 0)) e_int (fun _ _ => rfl)) (e_ix ix_seq (v_ix rfl) (e_var (by decide) (pv 0)) e_int (fun _ _ => rfl))) (e_bin op_mulX v_mul (e_bin op_mulX v_mul e_int (e_ix ix_seq (v_ix rfl) (e_var (by decide) (pv 0)) e_int (fun _ _ => rfl))) (e_ix ix_seq (v_ix rfl) (e_var (by decide) (pv 0)) e_int (fun _ _ => rfl))))))
/-! ### content_of -/
abbrev s_content_of : Stmt := topS 14
abbrev N_content_of : List PySem.Str := ["form"]
theorem sc_content_of : FnScope N_content_of ["form"] (defScope s_content_of) := ⟨rfl, rfl, rfl, by decide +kernel, rfl, by decide +kernel, by decide +kernel⟩
noncomputable def d_content_of : List D → Res D := runF 1 1
 ((sRet (eCall d_divisor_of_all (aCons (eVar 0) aNil))))
theorem ok_content_of (T : Txt K mg) : FnD P w K mg base "content_of" 3 1 d_content_of :=
 own_P (t := none) (mn := ⟨[], none, none⟩) (mb := ⟨[], none, none⟩) (mc := ⟨[], none, none⟩) T.f_content_of sc_content_of rfl fun f F0 cdv A outer s H E hr =>
 (ss_one (s_ret (e_call (ok_divisor_of_all T) hr rfl rfl takes_ok (a_cons (e_var (by decide) (pv 0)) a_nil) rfl)))
/-! ### turned_form -/
abbrev s_turned_form : Stmt := topS 15
abbrev N_turned_form : List PySem.Str := ["form", "twist", "p", "q", "r", "s"]
theorem sc_turned_form : FnScope N_turned_form ["form", "twist"] (defScope s_turned_form) := ⟨rfl, rfl, rfl, by decide +kernel, rfl, by decide +kernel, by decide +kernel⟩
noncomputable def d_turned_form : List D → Res D := runF 6 2
 ((sSeq (sAsg (eVar 1) (gT (gsCons (gN 2) (gsCons (gN 3) (gsCons (gN 4) (gsCons (gN 5) gsNil))))))
 (sRet (eTup (aCons (eCall d_value_at_point (aCons (eVar 0) (aCons (eVar 2) (aCons (eVar 4) aNil)))) (aCons (eBin vAdd (eBin vAdd (eBin vMul (eBin vMul (eBin vMul (eC (.int 2)) (eBin vIx (eVar 0) (eC (.int 0)))) (eVar 2)) (eVar 3)) (eBin vMul (eBin vIx (eVar 0) (eC (.int 1))) (eBin vAdd (eBin vMul (eVar 2) (eVar 5)) (eBin vMul (eVar 3) (eVar 4))))) (eBin vMul (eBin vMul (eBin vMul (eC (.int 2)) (eBin vIx (eVar 0) (eC (.int 2)))) (eVar 4)) (eVar 5))) (aCons (eCall d_value_at_point (aCons (eVar 0) (aCons (eVar 3) (aCons (eVar 5) aNil)))) aNil)))))))
theorem ok_turned_form (T : Txt K mg) : FnD P w K mg base "turned_form" 2 2 d_turned_form :=
 own_P (t := none) (mn := ⟨[], none, none⟩) (mb := ⟨[], none, none⟩) (mc := ⟨[], none, none⟩) T.f_turned_form sc_turned_form rfl fun f F0 cdv A outer s H E hr =>
 (ss_cons (m1 := ⟨[], none, none⟩) (s_asg (e_var (by decide) (pv 1)) (g_tup rfl rfl (gs_cons (g_name (pg_name (i := 2) sc_turned_form.nd rfl (.inl rfl))) (gs_cons (g_name (pg_name (i := 3) sc_turned_form.nd rfl (.inl rfl))) (gs_cons (g_name (pg_name (i := 4) sc_turned_form.nd rfl (.inl rfl))) (gs_cons (g_name (pg_name (i := 5) sc_turned_form.nd rfl (.inl rfl))) gs_nil)))) (gl_cons (gl_cons (gl_cons (gl_cons gl_nil))))))
 (ss_one (s_ret (e_tup (a_cons (e_call (ok_value_at_point T) hr rfl rfl takes_ok (a_cons (e_var (by decide) (pv 0)) (a_cons (e_var (by decide) (pv 2)) (a_cons (e_var (by decide) (pv 4)) a_nil))) rfl) (a_cons (e_bin op_addX (v_add rfl) (e_bin op_addX (v_add rfl) (e_bin op_mulX v_mul (e_bin op_mulX v_mul (e_bin op_mulX v_mul e_int (e_ix ix_seq (v_ix rfl) (e_var (by decide) (pv 0)) e_int (fun _ _ => rfl))) (e_var (by decide) (pv 2))) (e_var (by decide) (pv 3))) (e_bin op_mulX v_mul (e_ix ix_seq (v_ix rfl) (e_var (by decide) (pv 0)) e_int (fun _ _ => rfl)) (e_bin op_addX (v_add rfl) (e_bin op_mulX v_mul (e_var (by decide) (pv 2)) (e_var (by decide) (pv 5))) (e_bin op_mulX v_mul (e_var (by decide) (pv 3)) (e_var (by decide) (pv 4)))))) (e_bin op_mulX v_mul (e_bin op_mulX v_mul (e_bin op_mulX v_mul e_int (e_ix ix_seq (v_ix rfl) (e_var (by decide) (pv 0)) e_int (fun _ _ => rfl))) (e_var (by decide) (pv 4))) (e_var (by decide) (pv 5)))) (a_cons (e_call (ok_value_at_point T) hr rfl rfl takes_ok (a_cons (e_var (by decide) (pv 0)) (a_cons (e_var (by decide) (pv 3)) (a_cons (e_var (by decide) (pv 5)) a_nil))) rfl) a_nil)))))))
/-! ### scaled_form -/
abbrev s_scaled_form : Stmt := topS 16
abbrev N_scaled_form : List PySem.Str := ["form", "factor"]
theorem sc_scaled_form : FnScope N_scaled_form ["form", "factor"] (defScope s_scaled_form) := ⟨rfl, rfl, rfl, by decide +kernel, rfl, by decide +kernel, by decide +kernel⟩
noncomputable def d_scaled_form : List D → Res D := runF 2 2
 ((sRet (eTup (aCons (eBin vMul (eVar 1) (eBin vIx (eVar 0) (eC (.int 0)))) (aCons (eBin vMul (eVar 1) (eBin vIx (eVar 0) (eC (.int 1)))) (aCons (eBin vMul (eVar 1) (eBin vIx (eVar 0) (eC (.int 2)))) aNil))))))
theorem ok_scaled_form (T : Txt K mg) : FnD P w K mg base "scaled_form" 1 2 d_scaled_form :=
 own_P (t := none) (mn := ⟨[], none, none⟩) (mb := ⟨[], none, none⟩) (mc := ⟨[], none, none⟩) T.f_scaled_form sc_scaled_form rfl fun f F0 cdv A outer s H E hr =>
 (ss_one (s_ret (e_tup (a_cons (e_bin op_mulX v_mul (e_var (by decide) (pv 1)) (e_ix ix_seq (v_ix rfl) (e_var (by decide) (pv 0)) e_int (fun _ _ => rfl))) (a_cons (e_bin op_mulX v_mul (e_var (by decide) (pv 1)) (e_ix ix_seq (v_ix rfl) (e_var (by decide) (pv 0)) e_int (fun _ _ => rfl))) (a_cons (e_bin op_mulX v_mul (e_var (by decide) (pv 1)) (e_ix ix_seq (v_ix rfl) (e_var (by decide) (pv 0)) e_int (fun _ _ => rfl))) a_nil))))))
/-! ### primitive_part -/
abbrev s_primitive_part : Stmt := topS 17
abbrev N_primitive_part : List PySem.Str := ["form", "divisor"]
theorem sc_primitive_part : FnScope N_primitive_part ["form"] (defScope s_primitive_part) := ⟨rfl, rfl, rfl, by decide +kernel, rfl, by decide +kernel, by decide +kernel⟩
noncomputable def d_primitive_part : List D → Res D := runF 2 1
 ((sSeq (sAsg (eCall d_content_of (aCons (eVar 0) aNil)) (gN 1))
 (sRet (eTup (aCons (eBin vFdiv (eBin vIx (eVar 0) (eC (.int 0))) (eVar 1)) (aCons (eBin vFdiv (eBin vIx (eVar 0) (eC (.int 1))) (eVar 1)) (aCons (eBin vFdiv (eBin vIx (eVar 0) (eC (.int 2))) (eVar 1)) aNil)))))))
theorem ok_primitive_part (T : Txt K mg) : FnD P w K mg base "primitive_part" 4 1 d_primitive_part :=
 own_P (t := none) (mn := ⟨[], none, none⟩) (mb := ⟨[], none, none⟩) (mc := ⟨[], none, none⟩) T.f_primitive_part sc_primitive_part rfl fun f F0 cdv A outer s H E hr =>
 (ss_cons (m1 := ⟨[], none, none⟩) (s_set (e_call (ok_content_of T) hr rfl rfl takes_ok (a_cons (e_var (by decide) (pv 0)) a_nil) rfl) (fun h => ps_set (i := 1) sc_primitive_part.nd rfl (.inl rfl) h))
 (ss_one (s_ret (e_tup (a_cons (e_bin op_fdivG v_fdiv (e_ix ix_seq (v_ix rfl) (e_var (by decide) (pv 0)) e_int (fun _ _ => rfl)) (e_var (by decide) (pv 1))) (a_cons (e_bin op_fdivG v_fdiv (e_ix ix_seq (v_ix rfl) (e_var (by decide) (pv 0)) e_int (fun _ _ => rfl)) (e_var (by decide) (pv 1))) (a_cons (e_bin op_fdivG v_fdiv (e_ix ix_seq (v_ix rfl) (e_var (by decide) (pv 0)) e_int (fun _ _ => rfl)) (e_var (by decide) (pv 1))) a_nil)))))))
/-! ### kind_of_form -/
abbrev s_kind_of_form : Stmt := topS 18
abbrev N_kind_of_form : List PySem.Str := ["form", "discriminant"]
theorem sc_kind_of_form : FnScope N_kind_of_form ["form"] (defScope s_kind_of_form) := ⟨rfl, rfl, rfl, by decide +kernel, rfl, by decide +kernel, by decide +kernel⟩
noncomputable def d_kind_of_form : List D → Res D := runF 2 1
 ((sSeq (sAsg (eCall d_discriminant_of (aCons (eVar 0) aNil)) (gN 1))
 (sSeq (sIf (bBin vEq (eVar 1) (eC (.int 0))) (sRet (eC (.str "flat"))) sNext)
 (sSeq (sIf (bBin cGt (eVar 1) (eC (.int 0))) (sRet (eIf (bTru (eCall d_is_square (aCons (eVar 1) aNil))) (eC (.str "split")) (eC (.str "mixed")))) sNext)
 (sRet (eIf (bBin cGt (eBin vIx (eVar 0) (eC (.int 0))) (eC (.int 0))) (eC (.str "positive")) (eC (.str "negative"))))))))
theorem ok_kind_of_form (T : Txt K mg) : FnD P w K mg base "kind_of_form" 3 1 d_kind_of_form :=
 own_P (t := none) (mn := ⟨[], none, none⟩) (mb := ⟨[], none, none⟩) (mc := ⟨[], none, none⟩) T.f_kind_of_form sc_kind_of_form rfl fun f F0 cdv A outer s H E hr =>
 (ss_cons (m1 := ⟨[], none, none⟩) (s_set (e_call (ok_discriminant_of T) hr rfl rfl takes_ok (a_cons (e_var (by decide) (pv 0)) a_nil) rfl) (fun h => ps_set (i := 1) sc_kind_of_form.nd rfl (.inl rfl) h))
 (ss_cons (m1 := ⟨[], none, none⟩) (s_if (b_cmp (op_eqD hr.units) (v_eq rfl) (e_var (by decide) (pv 1)) e_int (nomark _)) (ss_one (s_ret e_str)) ss_nil)
 (ss_cons (m1 := ⟨[], none, none⟩) (s_if (b_cmp op_gt v_gt (e_var (by decide) (pv 1)) e_int (nomark _)) (ss_one (s_ret (e_if (b_tru (e_call (ok_is_square T) hr rfl rfl takes_ok (a_cons (e_var (by decide) (pv 1)) a_nil) rfl) rfl) e_str e_str))) ss_nil)
 (ss_one (s_ret (e_if (b_cmp op_gt v_gt (e_ix ix_seq (v_ix rfl) (e_var (by decide) (pv 0)) e_int (fun _ _ => rfl)) e_int (nomark _)) e_str e_str))))))
/-! ### principal_form -/
abbrev s_principal_form : Stmt := topS 19
abbrev N_principal_form : List PySem.Str := ["discriminant", "middle"]
theorem sc_principal_form : FnScope N_principal_form ["discriminant"] (defScope s_principal_form) := ⟨rfl, rfl, rfl, by decide +kernel, rfl, by decide +kernel, by decide +kernel⟩
noncomputable def d_principal_form : List D → Res D := runF 2 1
 ((sSeq (sAsg (eBin vMod (eVar 0) (eC (.int 2))) (gN 1))
 (sRet (eTup (aCons (eC (.int 1)) (aCons (eVar 1) (aCons (eBin vFdiv (eBin vSub (eVar 1) (eVar 0)) (eC (.int 4))) aNil)))))))
theorem ok_principal_form (T : Txt K mg) : FnD P w K mg base "principal_form" 1 1 d_principal_form :=
 own_P (t := none) (mn := ⟨[], none, none⟩) (mb := ⟨[], none, none⟩) (mc := ⟨[], none, none⟩) T.f_principal_form sc_principal_form rfl fun f F0 cdv A outer s H E hr =>
 (ss_cons (m1 := ⟨[], none, none⟩) (s_set (e_bin op_modN v_mod (e_var (by decide) (pv 0)) e_int) (fun h => ps_set (i := 1) sc_principal_form.nd rfl (.inl rfl) h))
 (ss_one (s_ret (e_tup (a_cons e_int (a_cons (e_var (by decide) (pv 1)) (a_cons (e_bin op_fdivG v_fdiv (e_bin op_sub v_sub (e_var (by decide) (pv 1)) (e_var (by decide) (pv 0))) e_int) a_nil)))))))
/-! ### is_twist -/
abbrev s_is_twist : Stmt := topS 23
abbrev N_is_twist : List PySem.Str := ["value"]
theorem sc_is_twist : FnScope N_is_twist ["value"] (defScope s_is_twist) := ⟨rfl, rfl, rfl, by decide +kernel, rfl, by decide +kernel, by decide +kernel⟩
noncomputable def d_is_twist : List D → Res D := runF 1 1
 ((sRet (eAnd (eCall d_is_row (aCons (eVar 0) (aCons (eC (.int 4)) aNil))) (eOfB (bBin vEq (eBin vSub (eBin vMul (eBin vIx (eVar 0) (eC (.int 0))) (eBin vIx (eVar 0) (eC (.int 3)))) (eBin vMul (eBin vIx (eVar 0) (eC (.int 1))) (eBin vIx (eVar 0) (eC (.int 2))))) (eC (.int 1)))))))
theorem ok_is_twist (T : Txt K mg) : FnD P w K mg base "is_twist" 3 1 d_is_twist :=
 own_P (t := none) (mn := ⟨[], none, none⟩) (mb := ⟨[], none, none⟩) (mc := ⟨[], none, none⟩) T.f_is_twist sc_is_twist rfl fun f F0 cdv A outer s H E hr =>
 (ss_one (s_ret (e_and (e_call (ok_is_row T) hr rfl rfl takes_ok (a_cons (e_var (by decide) (pv 0)) (a_cons e_int a_nil)) rfl) (e_one (e_cmp (op_eqD hr.units) (v_eq rfl) (e_bin op_sub v_sub (e_bin op_mulX v_mul (e_ix ix_seq (v_ix rfl) (e_var (by decide) (pv 0)) e_int (fun _ _ => rfl)) (e_ix ix_seq (v_ix rfl) (e_var (by decide) (pv 0)) e_int (fun _ _ => rfl))) (e_bin op_mulX v_mul (e_ix ix_seq (v_ix rfl) (e_var (by decide) (pv 0)) e_int (fun _ _ => rfl)) (e_ix ix_seq (v_ix rfl) (e_var (by decide) (pv 0)) e_int (fun _ _ => rfl)))) e_int (nomark _))))))
/-! ### after_twist -/
abbrev s_after_twist : Stmt := topS 24
abbrev N_after_twist : List PySem.Str := ["one", "other", "a", "b", "c", "d", "p", "q", "r", "s"]
theorem sc_after_twist : FnScope N_after_twist ["one", "other"] (defScope s_after_twist) := ⟨rfl, rfl, rfl, by decide +kernel, rfl, by decide +kernel, by decide +kernel⟩
noncomputable def d_after_twist : List D → Res D := runF 10 2
 ((sSeq (sAsg (eVar 0) (gT (gsCons (gN 2) (gsCons (gN 3) (gsCons (gN 4) (gsCons (gN 5) gsNil))))))
 (sSeq (sAsg (eVar 1) (gT (gsCons (gN 6) (gsCons (gN 7) (gsCons (gN 8) (gsCons (gN 9) gsNil))))))
 (sRet (eTup (aCons (eBin vAdd (eBin vMul (eVar 2) (eVar 6)) (eBin vMul (eVar 3) (eVar 8))) (aCons (eBin vAdd (eBin vMul (eVar 2) (eVar 7)) (eBin vMul (eVar 3) (eVar 9))) (aCons (eBin vAdd (eBin vMul (eVar 4) (eVar 6)) (eBin vMul (eVar 5) (eVar 8))) (aCons (eBin vAdd (eBin vMul (eVar 4) (eVar 7)) (eBin vMul (eVar 5) (eVar 9))) aNil)))))))))
theorem ok_after_twist (T : Txt K mg) : FnD P w K mg base "after_twist" 1 2 d_after_twist :=
 own_P (t := none) (mn := ⟨[], none, none⟩) (mb := ⟨[], none, none⟩) (mc := ⟨[], none, none⟩) T.f_after_twist sc_after_twist rfl fun f F0 cdv A outer s H E hr =>
 (ss_cons (m1 := ⟨[], none, none⟩) (s_asg (e_var (by decide) (pv 0)) (g_tup rfl rfl (gs_cons (g_name (pg_name (i := 2) sc_after_twist.nd rfl (.inl rfl))) (gs_cons (g_name (pg_name (i := 3) sc_after_twist.nd rfl (.inl rfl))) (gs_cons (g_name (pg_name (i := 4) sc_after_twist.nd rfl (.inl rfl))) (gs_cons (g_name (pg_name (i := 5) sc_after_twist.nd rfl (.inl rfl))) gs_nil)))) (gl_cons (gl_cons (gl_cons (gl_cons gl_nil))))))
 (ss_cons (m1 := ⟨[], none, none⟩) (s_asg (e_var (by decide) (pv 1)) (g_tup rfl rfl (gs_cons (g_name (pg_name (i := 6) sc_after_twist.nd rfl (.inl rfl))) (gs_cons (g_name (pg_name (i := 7) sc_after_twist.nd rfl (.inl rfl))) (gs_cons (g_name (pg_name (i := 8) sc_after_twist.nd rfl (.inl rfl))) (gs_cons (g_name (pg_name (i := 9) sc_after_twist.nd rfl (.inl rfl))) gs_nil)))) (gl_cons (gl_cons (gl_cons (gl_cons gl_nil))))))
 (ss_one (s_ret (e_tup (a_cons (e_bin op_addX (v_add rfl) (e_bin op_mulX v_mul (e_var (by decide) (pv 2)) (e_var (by decide) (pv 6))) (e_bin op_mulX v_mul (e_var (by decide) (pv 3)) (e_var (by decide) (pv 8)))) (a_cons (e_bin op_addX (v_add rfl) (e_bin op_mulX v_mul (e_var (by decide) (pv 2)) (e_var (by decide) (pv 7))) (e_bin op_mulX v_mul (e_var (by decide) (pv 3)) (e_var (by decide) (pv 9)))) (a_cons (e_bin op_addX (v_add rfl) (e_bin op_mulX v_mul (e_var (by decide) (pv 4)) (e_var (by decide) (pv 6))) (e_bin op_mulX v_mul (e_var (by decide) (pv 5)) (e_var (by decide) (pv 8)))) (a_cons (e_bin op_addX (v_add rfl) (e_bin op_mulX v_mul (e_var (by decide) (pv 4)) (e_var (by decide) (pv 7))) (e_bin op_mulX v_mul (e_var (by decide) (pv 5)) (e_var (by decide) (pv 9)))) a_nil)))))))))
/-! ### undone_twist -/
abbrev s_undone_twist : Stmt := topS 25
abbrev N_undone_twist : List PySem.Str := ["one", "a", "b", "c", "d"]
theorem sc_undone_twist : FnScope N_undone_twist ["one"] (defScope s_undone_twist) := ⟨rfl, rfl, rfl, by decide +kernel, rfl, by decide +kernel, by decide +kernel⟩
noncomputable def d_undone_twist : List D → Res D := runF 5 1
 ((sSeq (sAsg (eVar 0) (gT (gsCons (gN 1) (gsCons (gN 2) (gsCons (gN 3) (gsCons (gN 4) gsNil))))))
 (sRet (eTup (aCons (eVar 4) (aCons (eUn vNeg (eVar 2)) (aCons (eUn vNeg (eVar 3)) (aCons (eVar 1) aNil))))))))
theorem ok_undone_twist (T : Txt K mg) : FnD P w K mg base "undone_twist" 1 1 d_undone_twist :=
 own_P (t := none) (mn := ⟨[], none, none⟩) (mb := ⟨[], none, none⟩) (mc := ⟨[], none, none⟩) T.f_undone_twist sc_undone_twist rfl fun f F0 cdv A outer s H E hr =>
 (ss_cons (m1 := ⟨[], none, none⟩) (s_asg (e_var (by decide) (pv 0)) (g_tup rfl rfl (gs_cons (g_name (pg_name (i := 1) sc_undone_twist.nd rfl (.inl rfl))) (gs_cons (g_name (pg_name (i := 2) sc_undone_twist.nd rfl (.inl rfl))) (gs_cons (g_name (pg_name (i := 3) sc_undone_twist.nd rfl (.inl rfl))) (gs_cons (g_name (pg_name (i := 4) sc_undone_twist.nd rfl (.inl rfl))) gs_nil)))) (gl_cons (gl_cons (gl_cons (gl_cons gl_nil))))))
 (ss_one (s_ret (e_tup (a_cons (e_var (by decide) (pv 4)) (a_cons (e_un un_neg v_neg (e_var (by decide) (pv 2))) (a_cons (e_un un_neg v_neg (e_var (by decide) (pv 3))) (a_cons (e_var (by decide) (pv 1)) a_nil))))))))
/-! ### shift -/
abbrev s_shift : Stmt := topS 26
abbrev N_shift : List PySem.Str := ["count"]
theorem sc_shift : FnScope N_shift ["count"] (defScope s_shift) := ⟨rfl, rfl, rfl, by decide +kernel, rfl, by decide +kernel, by decide +kernel⟩
noncomputable def d_shift : List D → Res D := runF 1 1
 ((sRet (eTup (aCons (eC (.int 1)) (aCons (eVar 0) (aCons (eC (.int 0)) (aCons (eC (.int 1)) aNil)))))))
theorem ok_shift (T : Txt K mg) : FnD P w K mg base "shift" 1 1 d_shift :=
 own_P (t := none) (mn := ⟨[], none, none⟩) (mb := ⟨[], none, none⟩) (mc := ⟨[], none, none⟩) T.f_shift sc_shift rfl fun f F0 cdv A outer s H E hr =>
 (ss_one (s_ret (e_tup (a_cons e_int (a_cons (e_var (by decide) (pv 0)) (a_cons e_int (a_cons e_int a_nil)))))))
/-! ### twist_power -/
abbrev s_twist_power : Stmt := topS 27
abbrev N_twist_power : List PySem.Str := ["one", "count", "found"]
theorem sc_twist_power : FnScope N_twist_power ["one", "count"] (defScope s_twist_power) := ⟨rfl, rfl, rfl, by decide +kernel, rfl, by decide +kernel, by decide +kernel⟩
noncomputable def d_twist_power : List D → Res D := runF 3 2
 ((sSeq (sIf (bBin cLt (eVar 1) (eC (.int 0))) (sPar 0 1 (eCall d_undone_twist (aCons (eVar 0) aNil)) (eUn vNeg (eVar 1))) sNext)
 (sSeq (sAsg (eC (.tuple (List.map .int [1, 0, 0, 1]))) (gN 2))
 (sSeq (sWhile (bBin cGt (eVar 1) (eC (.int 0))) (sSeq (sIf (bBin vEq (eBin vMod (eVar 1) (eC (.int 2))) (eC (.int 1))) (sAsg (eCall d_after_twist (aCons (eVar 2) (aCons (eVar 0) aNil))) (gN 2)) sNext)
 (sSeq (sAsg (eCall d_after_twist (aCons (eVar 0) (aCons (eVar 0) aNil))) (gN 0))
 (sAug 1 vFdiv (eC (.int 2))))))
 (sRet (eVar 2))))))
theorem ok_twist_power (T : Txt K mg) : FnD P w K mg base "twist_power" 2 2 d_twist_power :=
 own_P (t := none) (mn := ⟨[], none, none⟩) (mb := ⟨[], none, none⟩) (mc := ⟨[], none, none⟩) T.f_twist_power sc_twist_power rfl fun f F0 cdv A outer s H E hr =>
 (ss_cons (m1 := ⟨[], none, none⟩) (s_if (b_cmp op_lt v_lt (e_var (by decide) (pv 1)) e_int (nomark _)) (ss_one (s_par (i := 0) (j := 1) (a_cons (e_call (ok_undone_twist T) hr rfl rfl takes_ok (a_cons (e_var (by decide) (pv 0)) a_nil) rfl) (a_cons (e_un un_neg v_neg (e_var (by decide) (pv 1))) a_nil)) rfl sc_twist_power.nd rfl rfl (by decide) rfl rfl (by rfl))) ss_nil)
 (ss_cons (m1 := ⟨[], none, none⟩) (s_set (e_ctup rfl T.c_STRAIGHT rfl) (fun h => ps_set (i := 2) sc_twist_power.nd rfl (.inl rfl) h))
 (ss_cons (m1 := ⟨[], none, none⟩) (s_while pass_ok (b_cmp op_gt v_gt (e_var (by decide) (pv 1)) e_int (nomark _)) (ss_cons (m1 := ⟨[], none, none⟩) (s_if (b_cmp (op_eqD hr.units) (v_eq rfl) (e_bin op_modN v_mod (e_var (by decide) (pv 1)) e_int) e_int (nomark _)) (ss_one (s_set (e_call (ok_after_twist T) hr rfl rfl takes_ok (a_cons (e_var (by decide) (pv 2)) (a_cons (e_var (by decide) (pv 0)) a_nil)) rfl) (fun h => ps_set (i := 2) sc_twist_power.nd rfl (.inl rfl) h))) ss_nil)
 (ss_cons (m1 := ⟨[], none, none⟩) (s_set (e_call (ok_after_twist T) hr rfl rfl takes_ok (a_cons (e_var (by decide) (pv 0)) (a_cons (e_var (by decide) (pv 0)) a_nil)) rfl) (fun h => ps_set (i := 0) sc_twist_power.nd rfl (.inl rfl) h))
 (ss_one (s_aug v_fdiv (by decide) e_int (fun h => ps_aug (i := 1) sc_twist_power.nd rfl (.inl rfl) h iop_fdivG))))))
 (ss_one (s_ret (e_var (by decide) (pv 2)))))))
/-! ### is_reduced_mixed -/
abbrev s_is_reduced_mixed : Stmt := topS 29
abbrev N_is_reduced_mixed : List PySem.Str := ["form", "a", "b", "_", "discriminant", "low", "high"]
theorem sc_is_reduced_mixed : FnScope N_is_reduced_mixed ["form"] (defScope s_is_reduced_mixed) := ⟨rfl, rfl, rfl, by decide +kernel, rfl, by decide +kernel, by decide +kernel⟩
noncomputable def d_is_reduced_mixed : List D → Res D := runF 7 1
 ((sSeq (sAsg (eVar 0) (gT (gsCons (gN 1) (gsCons (gN 2) (gsCons (gN 3) gsNil)))))
 (sSeq (sAsg (eCall d_discriminant_of (aCons (eVar 0) aNil)) (gN 4))
 (sSeq (sIf (bOr (bBin cLe (eVar 2) (eC (.int 0))) (bBin cGt (eBin vMul (eVar 2) (eVar 2)) (eVar 4))) (sRet (eC (.bool false))) sNext)
 (sSeq (sAsg (eBin vSub (eBin vMul (eC (.int 2)) (eArgs fAbs (aCons (eVar 1) aNil))) (eVar 2)) (gN 5))
 (sSeq (sAsg (eBin vAdd (eBin vMul (eC (.int 2)) (eArgs fAbs (aCons (eVar 1) aNil))) (eVar 2)) (gN 6))
 (sRet (eAnd (eOr (eOfB (bBin cLt (eVar 5) (eC (.int 0)))) (eOfB (bBin cLt (eBin vMul (eVar 5) (eVar 5)) (eVar 4)))) (eOfB (bBin cGt (eBin vMul (eVar 6) (eVar 6)) (eVar 4)))))))))))
theorem ok_is_reduced_mixed (T : Txt K mg) : FnD P w K mg base "is_reduced_mixed" 2 1 d_is_reduced_mixed :=
 own_P (t := none) (mn := ⟨[], none, none⟩) (mb := ⟨[], none, none⟩) (mc := ⟨[], none, none⟩) T.f_is_reduced_mixed sc_is_reduced_mixed rfl fun f F0 cdv A outer s H E hr =>
 (ss_cons (m1 := ⟨[], none, none⟩) (s_asg (e_var (by decide) (pv 0)) (g_tup rfl rfl (gs_cons (g_name (pg_name (i := 1) sc_is_reduced_mixed.nd rfl (.inl rfl))) (gs_cons (g_name (pg_name (i := 2) sc_is_reduced_mixed.nd rfl (.inl rfl))) (gs_cons (g_name (pg_name (i := 3) sc_is_reduced_mixed.nd rfl (.inl rfl))) gs_nil))) (gl_cons (gl_cons (gl_cons gl_nil)))))
 (ss_cons (m1 := ⟨[], none, none⟩) (s_set (e_call (ok_discriminant_of T) hr rfl rfl takes_ok (a_cons (e_var (by decide) (pv 0)) a_nil) rfl) (fun h => ps_set (i := 4) sc_is_reduced_mixed.nd rfl (.inl rfl) h))
 (ss_cons (m1 := ⟨[], none, none⟩) (s_if (b_w (bw_or (b_cmp op_le v_le (e_var (by decide) (pv 2)) e_int (nomark _)) (bw_or1 (b_cmp op_gt v_gt (e_bin op_mulX v_mul (e_var (by decide) (pv 2)) (e_var (by decide) (pv 2))) (e_var (by decide) (pv 4)) (nomark _))))) (ss_one (s_ret e_bl)) ss_nil)
 (ss_cons (m1 := ⟨[], none, none⟩) (s_set (e_bin op_sub v_sub (e_bin op_mulX v_mul e_int (e_callB call_abs v_abs rfl T.b_abs (by decide +kernel) (a_cons (e_var (by decide) (pv 1)) a_nil))) (e_var (by decide) (pv 2))) (fun h => ps_set (i := 5) sc_is_reduced_mixed.nd rfl (.inl rfl) h))
 (ss_cons (m1 := ⟨[], none, none⟩) (s_set (e_bin op_addX (v_add rfl) (e_bin op_mulX v_mul e_int (e_callB call_abs v_abs rfl T.b_abs (by decide +kernel) (a_cons (e_var (by decide) (pv 1)) a_nil))) (e_var (by decide) (pv 2))) (fun h => ps_set (i := 6) sc_is_reduced_mixed.nd rfl (.inl rfl) h))
 (ss_one (s_ret (e_and (e_or (e_cmp op_lt v_lt (e_var (by decide) (pv 5)) e_int (nomark _)) (e_one (e_cmp op_lt v_lt (e_bin op_mulX v_mul (e_var (by decide) (pv 5)) (e_var (by decide) (pv 5))) (e_var (by decide) (pv 4)) (nomark _)))) (e_one (e_cmp op_gt v_gt (e_bin op_mulX v_mul (e_var (by decide) (pv 6)) (e_var (by decide) (pv 6))) (e_var (by decide) (pv 4)) (nomark _)))))))))))
/-! ### next_mixed -/
abbrev s_next_mixed : Stmt := topS 30
abbrev N_next_mixed : List PySem.Str := ["form", "a", "b", "c", "discriminant", "root", "size", "top", "middle", "count", "twist"]
theorem sc_next_mixed : FnScope N_next_mixed ["form"] (defScope s_next_mixed) := ⟨rfl, rfl, rfl, by decide +kernel, rfl, by decide +kernel, by decide +kernel⟩
noncomputable def d_next_mixed : List D → Res D := runF 11 1
 ((sSeq (sAsg (eVar 0) (gT (gsCons (gN 1) (gsCons (gN 2) (gsCons (gN 3) gsNil)))))
 (sSeq (sAsg (eCall d_discriminant_of (aCons (eVar 0) aNil)) (gN 4))
 (sSeq (sAsg (eCall d_root_below (aCons (eVar 4) aNil)) (gN 5))
 (sSeq (sAsg (eArgs fAbs (aCons (eVar 3) aNil)) (gN 6))
 (sSeq (sAsg (eIf (bBin cLe (eVar 6) (eVar 5)) (eVar 5) (eVar 6)) (gN 7))
 (sSeq (sAsg (eBin vSub (eVar 7) (eBin vMod (eBin vAdd (eVar 7) (eVar 2)) (eBin vMul (eC (.int 2)) (eVar 6)))) (gN 8))
 (sSeq (sAsg (eBin vFdiv (eBin vAdd (eVar 8) (eVar 2)) (eBin vMul (eC (.int 2)) (eVar 3))) (gN 9))
 (sSeq (sAsg (eTup (aCons (eC (.int 0)) (aCons (eUn vNeg (eC (.int 1))) (aCons (eC (.int 1)) (aCons (eVar 9) aNil))))) (gN 10))
 (sRet (eTup (aCons (eCall d_turned_form (aCons (eVar 0) (aCons (eVar 10) aNil))) (aCons (eVar 10) aNil)))))))))))))
theorem ok_next_mixed (T : Txt K mg) : FnD P w K mg base "next_mixed" 3 1 d_next_mixed :=
 own_P (t := none) (mn := ⟨[], none, none⟩) (mb := ⟨[], none, none⟩) (mc := ⟨[], none, none⟩) T.f_next_mixed sc_next_mixed rfl fun f F0 cdv A outer s H E hr =>
 (ss_cons (m1 := ⟨[], none, none⟩) (s_asg (e_var (by decide) (pv 0)) (g_tup rfl rfl (gs_cons (g_name (pg_name (i := 1) sc_next_mixed.nd rfl (.inl rfl))) (gs_cons (g_name (pg_name (i := 2) sc_next_mixed.nd rfl (.inl rfl))) (gs_cons (g_name (pg_name (i := 3) sc_next_mixed.nd rfl (.inl rfl))) gs_nil))) (gl_cons (gl_cons (gl_cons gl_nil)))))
 (ss_cons (m1 := ⟨[], none, none⟩) (s_set (e_call (ok_discriminant_of T) hr rfl rfl takes_ok (a_cons (e_var (by decide) (pv 0)) a_nil) rfl) (fun h => ps_set (i := 4) sc_next_mixed.nd rfl (.inl rfl) h))
 (ss_cons (m1 := ⟨[], none, none⟩) (s_set (e_call (ok_root_below T) hr rfl rfl takes_ok (a_cons (e_var (by decide) (pv 4)) a_nil) rfl) (fun h => ps_set (i := 5) sc_next_mixed.nd rfl (.inl rfl) h))
 (ss_cons (m1 := ⟨[], none, none⟩) (s_set (e_callB call_abs v_abs rfl T.b_abs (by decide +kernel) (a_cons (e_var (by decide) (pv 3)) a_nil)) (fun h => ps_set (i := 6) sc_next_mixed.nd rfl (.inl rfl) h))
 (ss_cons (m1 := ⟨[], none, none⟩) (s_set (e_if (b_cmp op_le v_le (e_var (by decide) (pv 6)) (e_var (by decide) (pv 5)) (nomark _)) (e_var (by decide) (pv 5)) (e_var (by decide) (pv 6))) (fun h => ps_set (i := 7) sc_next_mixed.nd rfl (.inl rfl) h))
 (ss_cons (m1 := ⟨[], none, none⟩) (s_set (e_bin op_sub v_sub (e_var (by decide) (pv 7)) (e_bin op_modN v_mod (e_bin op_addX (v_add rfl) (e_var (by decide) (pv 7)) (e_var (by decide) (pv 2))) (e_bin op_mulX v_mul e_int (e_var (by decide) (pv 6))))) (fun h => ps_set (i := 8) sc_next_mixed.nd rfl (.inl rfl) h))
 (ss_cons (m1 := ⟨[], none, none⟩) (s_set (e_bin op_fdivG v_fdiv (e_bin op_addX (v_add rfl) (e_var (by decide) (pv 8)) (e_var (by decide) (pv 2))) (e_bin op_mulX v_mul e_int (e_var (by decide) (pv 3)))) (fun h => ps_set (i := 9) sc_next_mixed.nd rfl (.inl rfl) h))
 (ss_cons (m1 := ⟨[], none, none⟩) (s_set (e_tup (a_cons e_int (a_cons (e_un un_neg v_neg e_int) (a_cons e_int (a_cons (e_var (by decide) (pv 9)) a_nil))))) (fun h => ps_set (i := 10) sc_next_mixed.nd rfl (.inl rfl) h))
 (ss_one (s_ret (e_tup (a_cons (e_call (ok_turned_form T) hr rfl rfl takes_ok (a_cons (e_var (by decide) (pv 0)) (a_cons (e_var (by decide) (pv 10)) a_nil)) rfl) (a_cons (e_var (by decide) (pv 10)) a_nil)))))))))))))
/-! ### reduced_mixed -/
abbrev s_reduced_mixed : Stmt := topS 31
abbrev N_reduced_mixed : List PySem.Str := ["form", "twist", "step"]
theorem sc_reduced_mixed : FnScope N_reduced_mixed ["form"] (defScope s_reduced_mixed) := ⟨rfl, rfl, rfl, by decide +kernel, rfl, by decide +kernel, by decide +kernel⟩
noncomputable def d_reduced_mixed : List D → Res D := runF 3 1
 ((sSeq (sIf (bOr (bBin cLe (eCall d_discriminant_of (aCons (eVar 0) aNil)) (eC (.int 0))) (bTru (eCall d_is_square (aCons (eCall d_discriminant_of (aCons (eVar 0) aNil)) aNil)))) (sRaise ⟨"NotPossible", none⟩) sNext)
 (sSeq (sAsg (eC (.tuple (List.map .int [1, 0, 0, 1]))) (gN 1))
 (sSeq (sWhile (bNot (bTru (eCall d_is_reduced_mixed (aCons (eVar 0) aNil)))) (sSeq (sAsg (eCall d_next_mixed (aCons (eVar 0) aNil)) (gT (gsCons (gN 0) (gsCons (gN 2) gsNil))))
 (sAsg (eCall d_after_twist (aCons (eVar 1) (aCons (eVar 2) aNil))) (gN 1))))
 (sRet (eTup (aCons (eVar 0) (aCons (eVar 1) aNil))))))))
theorem ok_reduced_mixed (T : Txt K mg) : FnD P w K mg base "reduced_mixed" 4 1 d_reduced_mixed :=
 own_P (t := none) (mn := ⟨[], none, none⟩) (mb := ⟨[], none, none⟩) (mc := ⟨[], none, none⟩) T.f_reduced_mixed sc_reduced_mixed rfl fun f F0 cdv A outer s H E hr =>
 (ss_cons (m1 := ⟨[], none, none⟩) (s_if (b_w (bw_or (b_cmp op_le v_le (e_call (ok_discriminant_of T) hr rfl rfl takes_ok (a_cons (e_var (by decide) (pv 0)) a_nil) rfl) e_int (nomark _)) (bw_or1 (b_tru (e_call (ok_is_square T) hr rfl rfl takes_ok (a_cons (e_call (ok_discriminant_of T) hr rfl rfl takes_ok (a_cons (e_var (by decide) (pv 0)) a_nil) rfl) a_nil) rfl) rfl)))) (ss_one (s_raiseT T.x_NotPossible rfl rfl rfl takes_ok rfl)) ss_nil)
 (ss_cons (m1 := ⟨[], none, none⟩) (s_set (e_ctup rfl T.c_STRAIGHT rfl) (fun h => ps_set (i := 1) sc_reduced_mixed.nd rfl (.inl rfl) h))
 (ss_cons (m1 := ⟨[], none, none⟩) (s_while pass_ok (b_not (b_tru (e_call (ok_is_reduced_mixed T) hr rfl rfl takes_ok (a_cons (e_var (by decide) (pv 0)) a_nil) rfl) rfl)) (ss_cons (m1 := ⟨[], none, none⟩) (s_asg (e_call (ok_next_mixed T) hr rfl rfl takes_ok (a_cons (e_var (by decide) (pv 0)) a_nil) rfl) (g_tup rfl rfl (gs_cons (g_name (pg_name (i := 0) sc_reduced_mixed.nd rfl (.inl rfl))) (gs_cons (g_name (pg_name (i := 2) sc_reduced_mixed.nd rfl (.inl rfl))) gs_nil)) (gl_cons (gl_cons gl_nil))))
 (ss_one (s_set (e_call (ok_after_twist T) hr rfl rfl takes_ok (a_cons (e_var (by decide) (pv 1)) (a_cons (e_var (by decide) (pv 2)) a_nil)) rfl) (fun h => ps_set (i := 1) sc_reduced_mixed.nd rfl (.inl rfl) h)))))
 (ss_one (s_ret (e_tup (a_cons (e_var (by decide) (pv 0)) (a_cons (e_var (by decide) (pv 1)) a_nil))))))))
/-! ### twist_along -/
abbrev s_twist_along : Stmt := topS 32
abbrev N_twist_along : List PySem.Str := ["form", "twist", "other", "step"]
theorem sc_twist_along : FnScope N_twist_along ["form"] (defScope s_twist_along) := ⟨rfl, rfl, rfl, by decide +kernel, rfl, by decide +kernel, by decide +kernel⟩
noncomputable def d_twist_along : List D → Res D := runF 4 1
 ((sSeq (sAsg (eC (.tuple (List.map .int [1, 0, 0, 1]))) (gN 1))
 (sSeq (sAsg (eCall d_next_mixed (aCons (eVar 0) aNil)) (gT (gsCons (gN 2) (gsCons (gN 3) gsNil))))
 (sSeq (sAsg (eCall d_after_twist (aCons (eVar 1) (aCons (eVar 3) aNil))) (gN 1))
 (sSeq (sWhile (bBin vNe (eVar 2) (eVar 0)) (sSeq (sAsg (eCall d_next_mixed (aCons (eVar 2) aNil)) (gT (gsCons (gN 2) (gsCons (gN 3) gsNil))))
 (sAsg (eCall d_after_twist (aCons (eVar 1) (aCons (eVar 3) aNil))) (gN 1))))
 (sRet (eVar 1)))))))
theorem ok_twist_along (T : Txt K mg) : FnD P w K mg base "twist_along" 4 1 d_twist_along :=
 own_P (t := none) (mn := ⟨[], none, none⟩) (mb := ⟨[], none, none⟩) (mc := ⟨[], none, none⟩) T.f_twist_along sc_twist_along rfl fun f F0 cdv A outer s H E hr =>
 (ss_cons (m1 := ⟨[], none, none⟩) (s_set (e_ctup rfl T.c_STRAIGHT rfl) (fun h => ps_set (i := 1) sc_twist_along.nd rfl (.inl rfl) h))
 (ss_cons (m1 := ⟨[], none, none⟩) (s_asg (e_call (ok_next_mixed T) hr rfl rfl takes_ok (a_cons (e_var (by decide) (pv 0)) a_nil) rfl) (g_tup rfl rfl (gs_cons (g_name (pg_name (i := 2) sc_twist_along.nd rfl (.inl rfl))) (gs_cons (g_name (pg_name (i := 3) sc_twist_along.nd rfl (.inl rfl))) gs_nil)) (gl_cons (gl_cons gl_nil))))
 (ss_cons (m1 := ⟨[], none, none⟩) (s_set (e_call (ok_after_twist T) hr rfl rfl takes_ok (a_cons (e_var (by decide) (pv 1)) (a_cons (e_var (by decide) (pv 3)) a_nil)) rfl) (fun h => ps_set (i := 1) sc_twist_along.nd rfl (.inl rfl) h))
 (ss_cons (m1 := ⟨[], none, none⟩) (s_while pass_ok (b_cmp (op_neD hr.units) (v_ne rfl) (e_var (by decide) (pv 2)) (e_var (by decide) (pv 0)) (nomark _)) (ss_cons (m1 := ⟨[], none, none⟩) (s_asg (e_call (ok_next_mixed T) hr rfl rfl takes_ok (a_cons (e_var (by decide) (pv 2)) a_nil) rfl) (g_tup rfl rfl (gs_cons (g_name (pg_name (i := 2) sc_twist_along.nd rfl (.inl rfl))) (gs_cons (g_name (pg_name (i := 3) sc_twist_along.nd rfl (.inl rfl))) gs_nil)) (gl_cons (gl_cons gl_nil))))
 (ss_one (s_set (e_call (ok_after_twist T) hr rfl rfl takes_ok (a_cons (e_var (by decide) (pv 1)) (a_cons (e_var (by decide) (pv 3)) a_nil)) rfl) (fun h => ps_set (i := 1) sc_twist_along.nd rfl (.inl rfl) h)))))
 (ss_one (s_ret (e_var (by decide) (pv 1))))))))
/-! ### is_reduced_positive -/
abbrev s_is_reduced_positive : Stmt := topS 34
abbrev N_is_reduced_positive : List PySem.Str := ["form", "a", "b", "c"]
theorem sc_is_reduced_positive : FnScope N_is_reduced_positive ["form"] (defScope s_is_reduced_positive) := ⟨rfl, rfl, rfl, by decide +kernel, rfl, by decide +kernel, by decide +kernel⟩
noncomputable def d_is_reduced_positive : List D → Res D := runF 4 1
 ((sSeq (sAsg (eVar 0) (gT (gsCons (gN 1) (gsCons (gN 2) (gsCons (gN 3) gsNil)))))
 (sRet (eAnd (eChain3 cLt cLe cLe (eUn vNeg (eVar 1)) (eVar 2) (eVar 1) (eVar 3)) (eOr (eOfB (bBin vNe (eVar 1) (eVar 3))) (eOfB (bBin cGe (eVar 2) (eC (.int 0)))))))))
theorem ok_is_reduced_positive (T : Txt K mg) : FnD P w K mg base "is_reduced_positive" 1 1 d_is_reduced_positive :=
 own_P (t := none) (mn := ⟨[], none, none⟩) (mb := ⟨[], none, none⟩) (mc := ⟨[], none, none⟩) T.f_is_reduced_positive sc_is_reduced_positive rfl fun f F0 cdv A outer s H E hr =>
 (ss_cons (m1 := ⟨[], none, none⟩) (s_asg (e_var (by decide) (pv 0)) (g_tup rfl rfl (gs_cons (g_name (pg_name (i := 1) sc_is_reduced_positive.nd rfl (.inl rfl))) (gs_cons (g_name (pg_name (i := 2) sc_is_reduced_positive.nd rfl (.inl rfl))) (gs_cons (g_name (pg_name (i := 3) sc_is_reduced_positive.nd rfl (.inl rfl))) gs_nil))) (gl_cons (gl_cons (gl_cons gl_nil)))))
 (ss_one (s_ret (e_and (e_chain3 op_lt op_le op_le v_lt v_le v_le (e_un un_neg v_neg (e_var (by decide) (pv 1))) (e_var (by decide) (pv 2)) (e_var (by decide) (pv 1)) (e_var (by decide) (pv 3))) (e_one (e_or (e_cmp (op_neD hr.units) (v_ne rfl) (e_var (by decide) (pv 1)) (e_var (by decide) (pv 3)) (nomark _)) (e_one (e_cmp op_ge v_ge (e_var (by decide) (pv 2)) e_int (nomark _)))))))))
/-! ### reduced_positive -/
abbrev s_reduced_positive : Stmt := topS 35
abbrev N_reduced_positive : List PySem.Str := ["form", "twist", "a", "b", "_", "step", "c"]
theorem sc_reduced_positive : FnScope N_reduced_positive ["form"] (defScope s_reduced_positive) := ⟨rfl, rfl, rfl, by decide +kernel, rfl, by decide +kernel, by decide +kernel⟩
noncomputable def d_reduced_positive : List D → Res D := runF 7 1
 ((sSeq (sIf (bOr (bBin cGe (eCall d_discriminant_of (aCons (eVar 0) aNil)) (eC (.int 0))) (bBin cLe (eBin vIx (eVar 0) (eC (.int 0))) (eC (.int 0)))) (sRaise ⟨"NotPossible", none⟩) sNext)
 (sSeq (sAsg (eC (.tuple (List.map .int [1, 0, 0, 1]))) (gN 1))
 (sSeq (sWhile (bNot (bTru (eCall d_is_reduced_positive (aCons (eVar 0) aNil)))) (sSeq (sAsg (eVar 0) (gT (gsCons (gN 2) (gsCons (gN 3) (gsCons (gN 4) gsNil)))))
 (sSeq (sAsg (eCall d_shift (aCons (eUn vNeg (eBin vFdiv (eBin vSub (eBin vAdd (eVar 3) (eVar 2)) (eC (.int 1))) (eBin vMul (eC (.int 2)) (eVar 2)))) aNil)) (gN 5))
 (sSeq (sAsg (eCall d_after_twist (aCons (eVar 1) (aCons (eVar 5) aNil))) (gN 1))
 (sSeq (sAsg (eCall d_turned_form (aCons (eVar 0) (aCons (eVar 5) aNil))) (gN 0))
 (sSeq (sAsg (eVar 0) (gT (gsCons (gN 2) (gsCons (gN 3) (gsCons (gN 6) gsNil)))))
 (sIf (bOr (bBin cGt (eVar 2) (eVar 6)) (bAnd (bBin vEq (eVar 2) (eVar 6)) (bBin cLt (eVar 3) (eC (.int 0))))) (sSeq (sAsg (eCall d_after_twist (aCons (eVar 1) (aCons (eC (.tuple (List.map .int [0, -1, 1, 0]))) aNil))) (gN 1))
 (sAsg (eCall d_turned_form (aCons (eVar 0) (aCons (eC (.tuple (List.map .int [0, -1, 1, 0]))) aNil))) (gN 0))) sNext)))))))
 (sRet (eTup (aCons (eVar 0) (aCons (eVar 1) aNil))))))))
theorem ok_reduced_positive (T : Txt K mg) : FnD P w K mg base "reduced_positive" 3 1 d_reduced_positive :=
 own_P (t := none) (mn := ⟨[], none, none⟩) (mb := ⟨[], none, none⟩) (mc := ⟨[], none, none⟩) T.f_reduced_positive sc_reduced_positive rfl fun f F0 cdv A outer s H E hr =>
 (ss_cons (m1 := ⟨[], none, none⟩) (s_if (b_w (bw_or (b_cmp op_ge v_ge (e_call (ok_discriminant_of T) hr rfl rfl takes_ok (a_cons (e_var (by decide) (pv 0)) a_nil) rfl) e_int (nomark _)) (bw_or1 (b_cmp op_le v_le (e_ix ix_seq (v_ix rfl) (e_var (by decide) (pv 0)) e_int (fun _ _ => rfl)) e_int (nomark _))))) (ss_one (s_raiseT T.x_NotPossible rfl rfl rfl takes_ok rfl)) ss_nil)
 (ss_cons (m1 := ⟨[], none, none⟩) (s_set (e_ctup rfl T.c_STRAIGHT rfl) (fun h => ps_set (i := 1) sc_reduced_positive.nd rfl (.inl rfl) h))
 (ss_cons (m1 := ⟨[], none, none⟩) (s_while pass_ok (b_not (b_tru (e_call (ok_is_reduced_positive T) hr rfl rfl takes_ok (a_cons (e_var (by decide) (pv 0)) a_nil) rfl) rfl)) (ss_cons (m1 := ⟨[], none, none⟩) (s_asg (e_var (by decide) (pv 0)) (g_tup rfl rfl (gs_cons (g_name (pg_name (i := 2) sc_reduced_positive.nd rfl (.inl rfl))) (gs_cons (g_name (pg_name (i := 3) sc_reduced_positive.nd rfl (.inl rfl))) (gs_cons (g_name (pg_name (i := 4) sc_reduced_positive.nd rfl (.inl rfl))) gs_nil))) (gl_cons (gl_cons (gl_cons gl_nil)))))
 (ss_cons (m1 := ⟨[], none, none⟩) (s_set (e_call (ok_shift T) hr rfl rfl takes_ok (a_cons (e_un un_neg v_neg (e_bin op_fdivG v_fdiv (e_bin op_sub v_sub (e_bin op_addX (v_add rfl) (e_var (by decide) (pv 3)) (e_var (by decide) (pv 2))) e_int) (e_bin op_mulX v_mul e_int (e_var (by decide) (pv 2))))) a_nil) rfl) (fun h => ps_set (i := 5) sc_reduced_positive.nd rfl (.inl rfl) h))
 (ss_cons (m1 := ⟨[], none, none⟩) (s_set (e_call (ok_after_twist T) hr rfl rfl takes_ok (a_cons (e_var (by decide) (pv 1)) (a_cons (e_var (by decide) (pv 5)) a_nil)) rfl) (fun h => ps_set (i := 1) sc_reduced_positive.nd rfl (.inl rfl) h))
 (ss_cons (m1 := ⟨[], none, none⟩) (s_set (e_call (ok_turned_form T) hr rfl rfl takes_ok (a_cons (e_var (by decide) (pv 0)) (a_cons (e_var (by decide) (pv 5)) a_nil)) rfl) (fun h => ps_set (i := 0) sc_reduced_positive.nd rfl (.inl rfl) h))
 (ss_cons (m1 := ⟨[], none, none⟩) (s_asg (e_var (by decide) (pv 0)) (g_tup rfl rfl (gs_cons (g_name (pg_name (i := 2) sc_reduced_positive.nd rfl (.inl rfl))) (gs_cons (g_name (pg_name (i := 3) sc_reduced_positive.nd rfl (.inl rfl))) (gs_cons (g_name (pg_name (i := 6) sc_reduced_positive.nd rfl (.inl rfl))) gs_nil))) (gl_cons (gl_cons (gl_cons gl_nil)))))
 (ss_one (s_if (b_w (bw_or (b_cmp op_gt v_gt (e_var (by decide) (pv 2)) (e_var (by decide) (pv 6)) (nomark _)) (bw_or1 (b_w (bw_and (b_cmp (op_eqD hr.units) (v_eq rfl) (e_var (by decide) (pv 2)) (e_var (by decide) (pv 6)) (nomark _)) (bw_and1 (b_cmp op_lt v_lt (e_var (by decide) (pv 3)) e_int (nomark _)))))))) (ss_cons (m1 := ⟨[], none, none⟩) (s_set (e_call (ok_after_twist T) hr rfl rfl takes_ok (a_cons (e_var (by decide) (pv 1)) (a_cons (e_ctup rfl T.c_TURN rfl) a_nil)) rfl) (fun h => ps_set (i := 1) sc_reduced_positive.nd rfl (.inl rfl) h))
 (ss_one (s_set (e_call (ok_turned_form T) hr rfl rfl takes_ok (a_cons (e_var (by decide) (pv 0)) (a_cons (e_ctup rfl T.c_TURN rfl) a_nil)) rfl) (fun h => ps_set (i := 0) sc_reduced_positive.nd rfl (.inl rfl) h)))) ss_nil))))))))
 (ss_one (s_ret (e_tup (a_cons (e_var (by decide) (pv 0)) (a_cons (e_var (by decide) (pv 1)) a_nil))))))))
/-! ### selves_of -/
abbrev s_selves_of : Stmt := topS 40
abbrev N_selves_of : List PySem.Str := ["form", "kind", "one", "other", "twist", "rows", "plain", "row"]
theorem sc_selves_of : FnScope N_selves_of ["form"] (defScope s_selves_of) := ⟨rfl, rfl, rfl, by decide +kernel, rfl, by decide +kernel, by decide +kernel⟩
noncomputable def d_selves_of : List D → Res D := runF 8 1
 ((sSeq (sAsg (eCall d_kind_of_form (aCons (eVar 0) aNil)) (gN 1))
 (sSeq (sIf (bBin vEq (eVar 1) (eC (.str "split"))) (sRet (eArgs fList (aCons (eC (.tuple (List.map (fun n => .tuple (List.map .int n)) [[-1, 0, 0, -1], [1, 0, 0, 1]]))) aNil))) sNext)
 (sSeq (sIf (bBin vIn (eVar 1) (eTup (aCons (eC (.str "mixed")) (aCons (eC (.str "flat")) aNil)))) (sRaise ⟨"NotPossible", none⟩) sNext)
 (sSeq (sAsg (eIf (bBin vEq (eVar 1) (eC (.str "positive"))) (eVar 0) (eCall d_scaled_form (aCons (eVar 0) (aCons (eUn vNeg (eC (.int 1))) aNil)))) (gN 2))
 (sSeq (sAsg (eCall d_reduced_positive (aCons (eVar 2) aNil)) (gT (gsCons (gN 3) (gsCons (gN 4) gsNil))))
 (sSeq (sOwn 5 (fListF (aCons (eC (.tuple (List.map (fun n => .tuple (List.map .int n)) [[-1, 0, 0, -1], [1, 0, 0, 1]]))) aNil)))
 (sSeq (sAsg (eCall d_primitive_part (aCons (eVar 3) aNil)) (gN 6))
 (sSeq (sIf (bBin vEq (eVar 6) (eTup (aCons (eC (.int 1)) (aCons (eC (.int 0)) (aCons (eC (.int 1)) aNil))))) (sExt 5 (eArgs fList (aCons (eC (.tuple (List.map (fun n => .tuple (List.map .int n)) [[0, -1, 1, 0], [0, 1, -1, 0]]))) aNil))) sNext)
 (sSeq (sIf (bBin vEq (eVar 6) (eTup (aCons (eC (.int 1)) (aCons (eC (.int 1)) (aCons (eC (.int 1)) aNil))))) (sExt 5 (eArgs fList (aCons (eC (.tuple (List.map (fun n => .tuple (List.map .int n)) [[-1, -1, 1, 0], [0, -1, 1, 1], [0, 1, -1, -1], [1, 1, -1, 0]]))) aNil))) sNext)
 (sRet (eArgs fSortD (aCons (eOfF (lcD (iSeq (eVar 5)) (gN 7) bYes (eCall d_after_twist (aCons (eCall d_after_twist (aCons (eVar 4) (aCons (eVar 7) aNil))) (aCons (eCall d_undone_twist (aCons (eVar 4) aNil)) aNil))) [7])) aNil)))))))))))))
theorem ok_selves_of (T : Txt K mg) : FnD P w K mg base "selves_of" 5 1 d_selves_of :=
 own_P (t := none) (mn := ⟨[], none, none⟩) (mb := ⟨[], none, none⟩) (mc := ⟨[], none, none⟩) T.f_selves_of sc_selves_of rfl fun f F0 cdv A outer s H E hr =>
 (ss_cons (m1 := ⟨[], none, none⟩) (s_set (e_call (ok_kind_of_form T) hr rfl rfl takes_ok (a_cons (e_var (by decide) (pv 0)) a_nil) rfl) (fun h => ps_set (i := 1) sc_selves_of.nd rfl (.inl rfl) h))
 (ss_cons (m1 := ⟨[], none, none⟩) (s_if (b_cmp (op_eqD hr.units) (v_eq rfl) (e_var (by decide) (pv 1)) e_str (nomark _)) (ss_one (s_ret (e_callTy call_list_of (v_list rfl) rfl T.b_list (by decide +kernel) (a_cons (e_cdat rfl T.c_STRAIGHTS rfl) a_nil)))) ss_nil)
 (ss_cons (m1 := ⟨[], none, none⟩) (s_if (b_cmp (op_in (units65 hr)) (v_in rfl) (e_var (by decide) (pv 1)) (e_tup (a_cons e_str (a_cons e_str a_nil))) (by rfl)) (ss_one (s_raiseT T.x_NotPossible rfl rfl rfl takes_ok rfl)) ss_nil)
 (ss_cons (m1 := ⟨[], none, none⟩) (s_set (e_if (b_cmp (op_eqD hr.units) (v_eq rfl) (e_var (by decide) (pv 1)) e_str (nomark _)) (e_var (by decide) (pv 0)) (e_call (ok_scaled_form T) hr rfl rfl takes_ok (a_cons (e_var (by decide) (pv 0)) (a_cons (e_un un_neg v_neg e_int) a_nil)) rfl)) (fun h => ps_set (i := 2) sc_selves_of.nd rfl (.inl rfl) h))
 (ss_cons (m1 := ⟨[], none, none⟩) (s_asg (e_call (ok_reduced_positive T) hr rfl rfl takes_ok (a_cons (e_var (by decide) (pv 2)) a_nil) rfl) (g_tup rfl rfl (gs_cons (g_name (pg_name (i := 3) sc_selves_of.nd rfl (.inl rfl))) (gs_cons (g_name (pg_name (i := 4) sc_selves_of.nd rfl (.inr rfl))) gs_nil)) (gl_cons (gl_cons gl_nil))))
 (ss_cons (m1 := ⟨[5], none, none⟩) (s_own (f_list (x := "") rfl rfl T.b_list (a_cons (e_cdat rfl T.c_STRAIGHTS rfl) a_nil)) (fun h => ps_set (i := 5) sc_selves_of.nd rfl (.inl rfl) h))
 (ss_cons (m1 := ⟨[5], none, none⟩) (s_set (e_call (ok_primitive_part T) hr rfl rfl takes_ok (a_cons (e_var (by decide) (pv 3)) a_nil) rfl) (fun h => ps_set (i := 6) sc_selves_of.nd rfl (.inl rfl) h))
 (ss_cons (m1 := ⟨[5], none, none⟩) (s_if (b_cmp (op_eqD hr.units) (v_eq rfl) (e_var (by decide) (pv 6)) (e_tup (a_cons e_int (a_cons e_int (a_cons e_int a_nil)))) (nomark _)) (ss_one (s_ext (by decide) (e_callTy call_list_of (v_list rfl) rfl T.b_list (by decide +kernel) (a_cons (e_cdat rfl T.c_QUARTERS rfl) a_nil)) (fun h => ps_expr (pe_bm PySem.F.plainAttrs_list PySem.F.slot_list_extend PySem.F.type_list_extend mt_extend (pv 5) (pa_cons h pa_nil))))) ss_nil)
 (ss_cons (m1 := ⟨[5], none, none⟩) (s_if (b_cmp (op_eqD hr.units) (v_eq rfl) (e_var (by decide) (pv 6)) (e_tup (a_cons e_int (a_cons e_int (a_cons e_int a_nil)))) (nomark _)) (ss_one (s_ext (by decide) (e_callTy call_list_of (v_list rfl) rfl T.b_list (by decide +kernel) (a_cons (e_cdat rfl T.c_SIXTHS rfl) a_nil)) (fun h => ps_expr (pe_bm PySem.F.plainAttrs_list PySem.F.slot_list_extend PySem.F.type_list_extend mt_extend (pv 5) (pa_cons h pa_nil))))) ss_nil)
 (ss_frz 5 (ss_one (s_ret (e_callB (cr_sortDL (units65 hr)) (v_sortD rfl) rfl T.b_sorted (by decide +kernel) (a_cons (e_ofF (f_lc rfl sc_selves_of.nd  (i_seq rfl (e_var (by decide) (pv 5))) (blkOk_by (own := [("row", 7)]) (N := N_selves_of) (sc := defScope s_selves_of) (by decide +kernel)) (fun _ _ _ _ _ => (g_name (pg_name (i := 7) sc_selves_of.nd rfl (.inl rfl)))) (fun _ _ _ _ _ => t_nil) (fun _ _ _ _ _ => (e_call (ok_after_twist T) hr rfl rfl takes0 (a_cons (e_call (ok_after_twist T) hr rfl rfl takes0 (a_cons (e_var (by decide) (pv 4)) (a_cons (e_var (by decide) (pv 7)) a_nil)) rfl) (a_cons (e_call (ok_undone_twist T) hr rfl rfl takes0 (a_cons (e_var (by decide) (pv 4)) a_nil) rfl) a_nil)) rfl)))) a_nil))))))))))))))
/-! ### number_of_selves -/
abbrev s_number_of_selves : Stmt := topS 41
abbrev N_number_of_selves : List PySem.Str := ["discriminant"]
theorem sc_number_of_selves : FnScope N_number_of_selves ["discriminant"] (defScope s_number_of_selves) := ⟨rfl, rfl, rfl, by decide +kernel, rfl, by decide +kernel, by decide +kernel⟩
noncomputable def d_number_of_selves : List D → Res D := runF 1 1
 ((sSeq (sIf (bBin vEq (eVar 0) (eUn vNeg (eC (.int 4)))) (sRet (eC (.int 4))) sNext)
 (sRet (eIf (bBin vEq (eVar 0) (eUn vNeg (eC (.int 3)))) (eC (.int 6)) (eC (.int 2))))))
theorem ok_number_of_selves (T : Txt K mg) : FnD P w K mg base "number_of_selves" 1 1 d_number_of_selves :=
 own_P (t := none) (mn := ⟨[], none, none⟩) (mb := ⟨[], none, none⟩) (mc := ⟨[], none, none⟩) T.f_number_of_selves sc_number_of_selves rfl fun f F0 cdv A outer s H E hr =>
 (ss_cons (m1 := ⟨[], none, none⟩) (s_if (b_cmp (op_eqD hr.units) (v_eq rfl) (e_var (by decide) (pv 0)) (e_un un_neg v_neg e_int) (nomark _)) (ss_one (s_ret e_int)) ss_nil)
 (ss_one (s_ret (e_if (b_cmp (op_eqD hr.units) (v_eq rfl) (e_var (by decide) (pv 0)) (e_un un_neg v_neg e_int) (nomark _)) e_int e_int))))
/-! ### least_self -/
abbrev s_least_self : Stmt := topS 42
abbrev N_least_self : List PySem.Str := ["form", "other", "twist", "found"]
theorem sc_least_self : FnScope N_least_self ["form"] (defScope s_least_self) := ⟨rfl, rfl, rfl, by decide +kernel, rfl, by decide +kernel, by decide +kernel⟩
noncomputable def d_least_self : List D → Res D := runF 4 1
 ((sSeq (sIf (bBin vNe (eCall d_kind_of_form (aCons (eVar 0) aNil)) (eC (.str "mixed"))) (sRaise ⟨"NotPossible", none⟩) sNext)
 (sSeq (sAsg (eCall d_reduced_mixed (aCons (eVar 0) aNil)) (gT (gsCons (gN 1) (gsCons (gN 2) gsNil))))
 (sSeq (sAsg (eCall d_after_twist (aCons (eCall d_after_twist (aCons (eVar 2) (aCons (eCall d_twist_along (aCons (eVar 1) aNil)) aNil))) (aCons (eCall d_undone_twist (aCons (eVar 2) aNil)) aNil))) (gN 3))
 (sSeq (sIf (bBin cLt (eBin vAdd (eBin vIx (eVar 3) (eC (.int 0))) (eBin vIx (eVar 3) (eC (.int 3)))) (eC (.int 0))) (sAsg (eTup (aCons (eUn vNeg (eBin vIx (eVar 3) (eC (.int 0)))) (aCons (eUn vNeg (eBin vIx (eVar 3) (eC (.int 1)))) (aCons (eUn vNeg (eBin vIx (eVar 3) (eC (.int 2)))) (aCons (eUn vNeg (eBin vIx (eVar 3) (eC (.int 3)))) aNil))))) (gN 3)) sNext)
 (sSeq (sIf (bBin cLt (eBin vMul (eBin vIx (eVar 3) (eC (.int 2))) (eBin vIx (eVar 0) (eC (.int 0)))) (eC (.int 0))) (sAsg (eCall d_undone_twist (aCons (eVar 3) aNil)) (gN 3)) sNext)
 (sRet (eVar 3))))))))
theorem ok_least_self (T : Txt K mg) : FnD P w K mg base "least_self" 5 1 d_least_self :=
 own_P (t := none) (mn := ⟨[], none, none⟩) (mb := ⟨[], none, none⟩) (mc := ⟨[], none, none⟩) T.f_least_self sc_least_self rfl fun f F0 cdv A outer s H E hr =>
 (ss_cons (m1 := ⟨[], none, none⟩) (s_if (b_cmp (op_neD hr.units) (v_ne rfl) (e_call (ok_kind_of_form T) hr rfl rfl takes_ok (a_cons (e_var (by decide) (pv 0)) a_nil) rfl) e_str (nomark _)) (ss_one (s_raiseT T.x_NotPossible rfl rfl rfl takes_ok rfl)) ss_nil)
 (ss_cons (m1 := ⟨[], none, none⟩) (s_asg (e_call (ok_reduced_mixed T) hr rfl rfl takes_ok (a_cons (e_var (by decide) (pv 0)) a_nil) rfl) (g_tup rfl rfl (gs_cons (g_name (pg_name (i := 1) sc_least_self.nd rfl (.inl rfl))) (gs_cons (g_name (pg_name (i := 2) sc_least_self.nd rfl (.inl rfl))) gs_nil)) (gl_cons (gl_cons gl_nil))))
 (ss_cons (m1 := ⟨[], none, none⟩) (s_set (e_call (ok_after_twist T) hr rfl rfl takes_ok (a_cons (e_call (ok_after_twist T) hr rfl rfl takes_ok (a_cons (e_var (by decide) (pv 2)) (a_cons (e_call (ok_twist_along T) hr rfl rfl takes_ok (a_cons (e_var (by decide) (pv 1)) a_nil) rfl) a_nil)) rfl) (a_cons (e_call (ok_undone_twist T) hr rfl rfl takes_ok (a_cons (e_var (by decide) (pv 2)) a_nil) rfl) a_nil)) rfl) (fun h => ps_set (i := 3) sc_least_self.nd rfl (.inl rfl) h))
 (ss_cons (m1 := ⟨[], none, none⟩) (s_if (b_cmp op_lt v_lt (e_bin op_addX (v_add rfl) (e_ix ix_seq (v_ix rfl) (e_var (by decide) (pv 3)) e_int (fun _ _ => rfl)) (e_ix ix_seq (v_ix rfl) (e_var (by decide) (pv 3)) e_int (fun _ _ => rfl))) e_int (nomark _)) (ss_one (s_set (e_tup (a_cons (e_un un_neg v_neg (e_ix ix_seq (v_ix rfl) (e_var (by decide) (pv 3)) e_int (fun _ _ => rfl))) (a_cons (e_un un_neg v_neg (e_ix ix_seq (v_ix rfl) (e_var (by decide) (pv 3)) e_int (fun _ _ => rfl))) (a_cons (e_un un_neg v_neg (e_ix ix_seq (v_ix rfl) (e_var (by decide) (pv 3)) e_int (fun _ _ => rfl))) (a_cons (e_un un_neg v_neg (e_ix ix_seq (v_ix rfl) (e_var (by decide) (pv 3)) e_int (fun _ _ => rfl))) a_nil))))) (fun h => ps_set (i := 3) sc_least_self.nd rfl (.inl rfl) h))) ss_nil)
 (ss_cons (m1 := ⟨[], none, none⟩) (s_if (b_cmp op_lt v_lt (e_bin op_mulX v_mul (e_ix ix_seq (v_ix rfl) (e_var (by decide) (pv 3)) e_int (fun _ _ => rfl)) (e_ix ix_seq (v_ix rfl) (e_var (by decide) (pv 0)) e_int (fun _ _ => rfl))) e_int (nomark _)) (ss_one (s_set (e_call (ok_undone_twist T) hr rfl rfl takes_ok (a_cons (e_var (by decide) (pv 3)) a_nil) rfl) (fun h => ps_set (i := 3) sc_least_self.nd rfl (.inl rfl) h))) ss_nil)
 (ss_one (s_ret (e_var (by decide) (pv 3)))))))))
/-! ### self_of_unit -/
abbrev s_self_of_unit : Stmt := topS 43
abbrev N_self_of_unit : List PySem.Str := ["form", "t", "u", "a", "b", "c"]
theorem sc_self_of_unit : FnScope N_self_of_unit ["form", "t", "u"] (defScope s_self_of_unit) := ⟨rfl, rfl, rfl, by decide +kernel, rfl, by decide +kernel, by decide +kernel⟩
noncomputable def d_self_of_unit : List D → Res D := runF 6 3
 ((sSeq (sAsg (eVar 0) (gT (gsCons (gN 3) (gsCons (gN 4) (gsCons (gN 5) gsNil)))))
 (sRet (eTup (aCons (eBin vFdiv (eBin vSub (eVar 1) (eBin vMul (eVar 4) (eVar 2))) (eC (.int 2))) (aCons (eBin vMul (eUn vNeg (eVar 5)) (eVar 2)) (aCons (eBin vMul (eVar 3) (eVar 2)) (aCons (eBin vFdiv (eBin vAdd (eVar 1) (eBin vMul (eVar 4) (eVar 2))) (eC (.int 2))) aNil))))))))
theorem ok_self_of_unit (T : Txt K mg) : FnD P w K mg base "self_of_unit" 1 3 d_self_of_unit :=
 own_P (t := none) (mn := ⟨[], none, none⟩) (mb := ⟨[], none, none⟩) (mc := ⟨[], none, none⟩) T.f_self_of_unit sc_self_of_unit rfl fun f F0 cdv A outer s H E hr =>
 (ss_cons (m1 := ⟨[], none, none⟩) (s_asg (e_var (by decide) (pv 0)) (g_tup rfl rfl (gs_cons (g_name (pg_name (i := 3) sc_self_of_unit.nd rfl (.inl rfl))) (gs_cons (g_name (pg_name (i := 4) sc_self_of_unit.nd rfl (.inl rfl))) (gs_cons (g_name (pg_name (i := 5) sc_self_of_unit.nd rfl (.inl rfl))) gs_nil))) (gl_cons (gl_cons (gl_cons gl_nil)))))
 (ss_one (s_ret (e_tup (a_cons (e_bin op_fdivG v_fdiv (e_bin op_sub v_sub (e_var (by decide) (pv 1)) (e_bin op_mulX v_mul (e_var (by decide) (pv 4)) (e_var (by decide) (pv 2)))) e_int) (a_cons (e_bin op_mulX v_mul (e_un un_neg v_neg (e_var (by decide) (pv 5))) (e_var (by decide) (pv 2))) (a_cons (e_bin op_mulX v_mul (e_var (by decide) (pv 3)) (e_var (by decide) (pv 2))) (a_cons (e_bin op_fdivG v_fdiv (e_bin op_addX (v_add rfl) (e_var (by decide) (pv 1)) (e_bin op_mulX v_mul (e_var (by decide) (pv 4)) (e_var (by decide) (pv 2)))) e_int) a_nil))))))))
/-! ### unit_of_self -/
abbrev s_unit_of_self : Stmt := topS 44
abbrev N_unit_of_self : List PySem.Str := ["form", "twist", "plain"]
theorem sc_unit_of_self : FnScope N_unit_of_self ["form", "twist"] (defScope s_unit_of_self) := ⟨rfl, rfl, rfl, by decide +kernel, rfl, by decide +kernel, by decide +kernel⟩
noncomputable def d_unit_of_self : List D → Res D := runF 3 2
 ((sSeq (sAsg (eCall d_primitive_part (aCons (eVar 0) aNil)) (gN 2))
 (sRet (eTup (aCons (eBin vAdd (eBin vIx (eVar 1) (eC (.int 0))) (eBin vIx (eVar 1) (eC (.int 3)))) (aCons (eBin vFdiv (eBin vIx (eVar 1) (eC (.int 2))) (eBin vIx (eVar 2) (eC (.int 0)))) aNil))))))
theorem ok_unit_of_self (T : Txt K mg) : FnD P w K mg base "unit_of_self" 5 2 d_unit_of_self :=
 own_P (t := none) (mn := ⟨[], none, none⟩) (mb := ⟨[], none, none⟩) (mc := ⟨[], none, none⟩) T.f_unit_of_self sc_unit_of_self rfl fun f F0 cdv A outer s H E hr =>
 (ss_cons (m1 := ⟨[], none, none⟩) (s_set (e_call (ok_primitive_part T) hr rfl rfl takes_ok (a_cons (e_var (by decide) (pv 0)) a_nil) rfl) (fun h => ps_set (i := 2) sc_unit_of_self.nd rfl (.inl rfl) h))
 (ss_one (s_ret (e_tup (a_cons (e_bin op_addX (v_add rfl) (e_ix ix_seq (v_ix rfl) (e_var (by decide) (pv 1)) e_int (fun _ _ => rfl)) (e_ix ix_seq (v_ix rfl) (e_var (by decide) (pv 1)) e_int (fun _ _ => rfl))) (a_cons (e_bin op_fdivG v_fdiv (e_ix ix_seq (v_ix rfl) (e_var (by decide) (pv 1)) e_int (fun _ _ => rfl)) (e_ix ix_seq (v_ix rfl) (e_var (by decide) (pv 2)) e_int (fun _ _ => rfl))) a_nil))))))
/-! ### is_self -/
abbrev s_is_self : Stmt := topS 45
abbrev N_is_self : List PySem.Str := ["form", "twist"]
theorem sc_is_self : FnScope N_is_self ["form", "twist"] (defScope s_is_self) := ⟨rfl, rfl, rfl, by decide +kernel, rfl, by decide +kernel, by decide +kernel⟩
noncomputable def d_is_self : List D → Res D := runF 2 2
 ((sRet (eAnd (eCall d_is_twist (aCons (eVar 1) aNil)) (eOfB (bBin vEq (eCall d_turned_form (aCons (eVar 0) (aCons (eVar 1) aNil))) (eVar 0))))))
theorem ok_is_self (T : Txt K mg) : FnD P w K mg base "is_self" 4 2 d_is_self :=
 own_P (t := none) (mn := ⟨[], none, none⟩) (mb := ⟨[], none, none⟩) (mc := ⟨[], none, none⟩) T.f_is_self sc_is_self rfl fun f F0 cdv A outer s H E hr =>
 (ss_one (s_ret (e_and (e_call (ok_is_twist T) hr rfl rfl takes_ok (a_cons (e_var (by decide) (pv 1)) a_nil) rfl) (e_one (e_cmp (op_eqD hr.units) (v_eq rfl) (e_call (ok_turned_form T) hr rfl rfl takes_ok (a_cons (e_var (by decide) (pv 0)) (a_cons (e_var (by decide) (pv 1)) a_nil)) rfl) (e_var (by decide) (pv 0)) (nomark _))))))
/-! ### exponent_of_self -/
abbrev s_exponent_of_self : Stmt := topS 46
abbrev N_exponent_of_self : List PySem.Str := ["form", "twist", "least", "sign", "one", "count", "turn"]
theorem sc_exponent_of_self : FnScope N_exponent_of_self ["form", "twist"] (defScope s_exponent_of_self) := ⟨rfl, rfl, rfl, by decide +kernel, rfl, by decide +kernel, by decide +kernel⟩
noncomputable def d_exponent_of_self : List D → Res D := runF 7 2
 ((sSeq (sAsg (eCall d_least_self (aCons (eVar 0) aNil)) (gN 2))
 (sSeq (sAsg (eIf (bBin cGt (eBin vAdd (eBin vIx (eVar 1) (eC (.int 0))) (eBin vIx (eVar 1) (eC (.int 3)))) (eC (.int 0))) (eC (.int 1)) (eUn vNeg (eC (.int 1)))) (gN 3))
 (sSeq (sAsg (eTup (aCons (eBin vMul (eVar 3) (eBin vIx (eVar 1) (eC (.int 0)))) (aCons (eBin vMul (eVar 3) (eBin vIx (eVar 1) (eC (.int 1)))) (aCons (eBin vMul (eVar 3) (eBin vIx (eVar 1) (eC (.int 2)))) (aCons (eBin vMul (eVar 3) (eBin vIx (eVar 1) (eC (.int 3)))) aNil))))) (gN 4))
 (sSeq (sIf (bNot (bTru (eCall d_is_self (aCons (eVar 0) (aCons (eVar 4) aNil))))) (sRaise ⟨"NotPossible", none⟩) sNext)
 (sSeq (sAsg (eC (.int 0)) (gN 5))
 (sSeq (sAsg (eIf (bBin cGt (eBin vMul (eBin vIx (eVar 4) (eC (.int 2))) (eBin vIx (eVar 0) (eC (.int 0)))) (eC (.int 0))) (eC (.int 1)) (eUn vNeg (eC (.int 1)))) (gN 6))
 (sSeq (sWhile (bBin vNe (eCall d_twist_power (aCons (eVar 2) (aCons (eBin vMul (eVar 6) (eVar 5)) aNil))) (eVar 4)) (sAug 5 vAddI (eC (.int 1))))
 (sRet (eTup (aCons (eVar 3) (aCons (eBin vMul (eVar 6) (eVar 5)) aNil))))))))))))
theorem ok_exponent_of_self (T : Txt K mg) : FnD P w K mg base "exponent_of_self" 6 2 d_exponent_of_self :=
 own_P (t := none) (mn := ⟨[], none, none⟩) (mb := ⟨[], none, none⟩) (mc := ⟨[], none, none⟩) T.f_exponent_of_self sc_exponent_of_self rfl fun f F0 cdv A outer s H E hr =>
 (ss_cons (m1 := ⟨[], none, none⟩) (s_set (e_call (ok_least_self T) hr rfl rfl takes_ok (a_cons (e_var (by decide) (pv 0)) a_nil) rfl) (fun h => ps_set (i := 2) sc_exponent_of_self.nd rfl (.inl rfl) h))
 (ss_cons (m1 := ⟨[], none, none⟩) (s_set (e_if (b_cmp op_gt v_gt (e_bin op_addX (v_add rfl) (e_ix ix_seq (v_ix rfl) (e_var (by decide) (pv 1)) e_int (fun _ _ => rfl)) (e_ix ix_seq (v_ix rfl) (e_var (by decide) (pv 1)) e_int (fun _ _ => rfl))) e_int (nomark _)) e_int (e_un un_neg v_neg e_int)) (fun h => ps_set (i := 3) sc_exponent_of_self.nd rfl (.inl rfl) h))
 (ss_cons (m1 := ⟨[], none, none⟩) (s_set (e_tup (a_cons (e_bin op_mulX v_mul (e_var (by decide) (pv 3)) (e_ix ix_seq (v_ix rfl) (e_var (by decide) (pv 1)) e_int (fun _ _ => rfl))) (a_cons (e_bin op_mulX v_mul (e_var (by decide) (pv 3)) (e_ix ix_seq (v_ix rfl) (e_var (by decide) (pv 1)) e_int (fun _ _ => rfl))) (a_cons (e_bin op_mulX v_mul (e_var (by decide) (pv 3)) (e_ix ix_seq (v_ix rfl) (e_var (by decide) (pv 1)) e_int (fun _ _ => rfl))) (a_cons (e_bin op_mulX v_mul (e_var (by decide) (pv 3)) (e_ix ix_seq (v_ix rfl) (e_var (by decide) (pv 1)) e_int (fun _ _ => rfl))) a_nil))))) (fun h => ps_set (i := 4) sc_exponent_of_self.nd rfl (.inl rfl) h))
 (ss_cons (m1 := ⟨[], none, none⟩) (s_if (b_not (b_tru (e_call (ok_is_self T) hr rfl rfl takes_ok (a_cons (e_var (by decide) (pv 0)) (a_cons (e_var (by decide) (pv 4)) a_nil)) rfl) rfl)) (ss_one (s_raiseT T.x_NotPossible rfl rfl rfl takes_ok rfl)) ss_nil)
 (ss_cons (m1 := ⟨[], none, none⟩) (s_set e_int (fun h => ps_set (i := 5) sc_exponent_of_self.nd rfl (.inl rfl) h))
 (ss_cons (m1 := ⟨[], none, none⟩) (s_set (e_if (b_cmp op_gt v_gt (e_bin op_mulX v_mul (e_ix ix_seq (v_ix rfl) (e_var (by decide) (pv 4)) e_int (fun _ _ => rfl)) (e_ix ix_seq (v_ix rfl) (e_var (by decide) (pv 0)) e_int (fun _ _ => rfl))) e_int (nomark _)) e_int (e_un un_neg v_neg e_int)) (fun h => ps_set (i := 6) sc_exponent_of_self.nd rfl (.inl rfl) h))
 (ss_cons (m1 := ⟨[], none, none⟩) (s_while pass_ok (b_cmp (op_neD hr.units) (v_ne rfl) (e_call (ok_twist_power T) hr rfl rfl takes_ok (a_cons (e_var (by decide) (pv 2)) (a_cons (e_bin op_mulX v_mul (e_var (by decide) (pv 6)) (e_var (by decide) (pv 5))) a_nil)) rfl) (e_var (by decide) (pv 4)) (nomark _)) (ss_one (s_aug v_addI (by decide) e_int (fun h => ps_aug (i := 5) sc_exponent_of_self.nd rfl (.inl rfl) h iop_add))))
 (ss_one (s_ret (e_tup (a_cons (e_var (by decide) (pv 3)) (a_cons (e_bin op_mulX v_mul (e_var (by decide) (pv 6)) (e_var (by decide) (pv 5))) a_nil))))))))))))
/-! ### is_discriminant -/
abbrev s_is_discriminant : Stmt := topS 48
abbrev N_is_discriminant : List PySem.Str := ["number"]
theorem sc_is_discriminant : FnScope N_is_discriminant ["number"] (defScope s_is_discriminant) := ⟨rfl, rfl, rfl, by decide +kernel, rfl, by decide +kernel, by decide +kernel⟩
noncomputable def d_is_discriminant : List D → Res D := runF 1 1
 ((sRet (eOfB (bBin vIn (eBin vMod (eVar 0) (eC (.int 4))) (eTup (aCons (eC (.int 0)) (aCons (eC (.int 1)) aNil)))))))
theorem ok_is_discriminant (T : Txt K mg) : FnD P w K mg base "is_discriminant" 1 1 d_is_discriminant :=
 own_P (t := none) (mn := ⟨[], none, none⟩) (mb := ⟨[], none, none⟩) (mc := ⟨[], none, none⟩) T.f_is_discriminant sc_is_discriminant rfl fun f F0 cdv A outer s H E hr =>
 (ss_one (s_ret (e_cmp (op_in (units65 hr)) (v_in rfl) (e_bin op_modN v_mod (e_var (by decide) (pv 0)) e_int) (e_tup (a_cons e_int (a_cons e_int a_nil))) (by rfl))))
/-! ### least_unit -/
abbrev s_least_unit : Stmt := topS 50
abbrev N_least_unit : List PySem.Str := ["discriminant", "form", "_", "p", "r", "s"]
theorem sc_least_unit : FnScope N_least_unit ["discriminant"] (defScope s_least_unit) := ⟨rfl, rfl, rfl, by decide +kernel, rfl, by decide +kernel, by decide +kernel⟩
noncomputable def d_least_unit : List D → Res D := runF 6 1
 ((sSeq (sIf (bOr (bBin cLe (eVar 0) (eC (.int 0))) (bOr (bTru (eCall d_is_square (aCons (eVar 0) aNil))) (bNot (bTru (eCall d_is_discriminant (aCons (eVar 0) aNil)))))) (sRaise ⟨"NotPossible", none⟩) sNext)
 (sSeq (sAsg (eCall d_reduced_mixed (aCons (eCall d_principal_form (aCons (eVar 0) aNil)) aNil)) (gT (gsCons (gN 1) (gsCons (gN 2) gsNil))))
 (sSeq (sAsg (eCall d_twist_along (aCons (eVar 1) aNil)) (gT (gsCons (gN 3) (gsCons (gN 2) (gsCons (gN 4) (gsCons (gN 5) gsNil))))))
 (sRet (eTup (aCons (eArgs fAbs (aCons (eBin vAdd (eVar 3) (eVar 5)) aNil)) (aCons (eArgs fAbs (aCons (eBin vFdiv (eVar 4) (eBin vIx (eVar 1) (eC (.int 0)))) aNil)) aNil))))))))
theorem ok_least_unit (T : Txt K mg) : FnD P w K mg base "least_unit" 5 1 d_least_unit :=
 own_P (t := none) (mn := ⟨[], none, none⟩) (mb := ⟨[], none, none⟩) (mc := ⟨[], none, none⟩) T.f_least_unit sc_least_unit rfl fun f F0 cdv A outer s H E hr =>
 (ss_cons (m1 := ⟨[], none, none⟩) (s_if (b_w (bw_or (b_cmp op_le v_le (e_var (by decide) (pv 0)) e_int (nomark _)) (bw_or (b_tru (e_call (ok_is_square T) hr rfl rfl takes_ok (a_cons (e_var (by decide) (pv 0)) a_nil) rfl) rfl) (bw_or1 (b_not (b_tru (e_call (ok_is_discriminant T) hr rfl rfl takes_ok (a_cons (e_var (by decide) (pv 0)) a_nil) rfl) rfl)))))) (ss_one (s_raiseT T.x_NotPossible rfl rfl rfl takes_ok rfl)) ss_nil)
 (ss_cons (m1 := ⟨[], none, none⟩) (s_asg (e_call (ok_reduced_mixed T) hr rfl rfl takes_ok (a_cons (e_call (ok_principal_form T) hr rfl rfl takes_ok (a_cons (e_var (by decide) (pv 0)) a_nil) rfl) a_nil) rfl) (g_tup rfl rfl (gs_cons (g_name (pg_name (i := 1) sc_least_unit.nd rfl (.inl rfl))) (gs_cons (g_name (pg_name (i := 2) sc_least_unit.nd rfl (.inl rfl))) gs_nil)) (gl_cons (gl_cons gl_nil))))
 (ss_cons (m1 := ⟨[], none, none⟩) (s_asg (e_call (ok_twist_along T) hr rfl rfl takes_ok (a_cons (e_var (by decide) (pv 1)) a_nil) rfl) (g_tup rfl rfl (gs_cons (g_name (pg_name (i := 3) sc_least_unit.nd rfl (.inl rfl))) (gs_cons (g_name (pg_name (i := 2) sc_least_unit.nd rfl (.inl rfl))) (gs_cons (g_name (pg_name (i := 4) sc_least_unit.nd rfl (.inl rfl))) (gs_cons (g_name (pg_name (i := 5) sc_least_unit.nd rfl (.inl rfl))) gs_nil)))) (gl_cons (gl_cons (gl_cons (gl_cons gl_nil))))))
 (ss_one (s_ret (e_tup (a_cons (e_callB call_abs v_abs rfl T.b_abs (by decide +kernel) (a_cons (e_bin op_addX (v_add rfl) (e_var (by decide) (pv 3)) (e_var (by decide) (pv 5))) a_nil)) (a_cons (e_callB call_abs v_abs rfl T.b_abs (by decide +kernel) (a_cons (e_bin op_fdivG v_fdiv (e_var (by decide) (pv 4)) (e_ix ix_seq (v_ix rfl) (e_var (by decide) (pv 1)) e_int (fun _ _ => rfl))) a_nil)) a_nil))))))))
/-! ### _law_state -/
abbrev s_L_state : Stmt := topS 52
abbrev N_L_state : List PySem.Str := ["script"]
theorem sc_L_state : FnScope N_L_state ["script"] (defScope s_L_state) := ⟨rfl, rfl, rfl, by decide +kernel, rfl, by decide +kernel, by decide +kernel⟩
theorem ok_L_state (T : Txt K mg) : Own P w K mg base "_law_state" 1 (spI K) :=
  own_I T.f_L_state sc_L_state fun f cdv A outer s H E => pss_one (ps_ret (pe_lst (pa_cons (pe_callTy call_list_of rfl T.b_list (by decide +kernel) (pa_cons (pv 0) pa_nil)) (pa_cons pe_int (pa_cons pe_int (pa_cons pe_int (pa_cons pe_bl (pa_cons pe_int pa_nil))))))))
/-! ### _law_draw -/
abbrev s_L_draw : Stmt := topS 53
abbrev N_L_draw : List PySem.Str := ["state", "limit", "cell", "digit", "mixed"]
theorem sc_L_draw : FnScope N_L_draw ["state", "limit"] (defScope s_L_draw) := ⟨rfl, rfl, rfl, by decide +kernel, rfl, by decide +kernel, by decide +kernel⟩
noncomputable def d_L_draw : List D → MM D := runS 5 2
 ((sSeq (sIf (bBin vEq (eIxB (eC (.int 3))) (eC (.int 0))) (sSeq (sIf (bBin cGe (eIxB (eC (.int 1))) (eArgs fLen (aCons (eIxB (eC (.int 0))) aNil))) (sRet (eC (.int 0))) sNext)
 (sSeq (sAsg (eBin vIx (eIxB (eC (.int 0))) (eIxB (eC (.int 1)))) (gN 2))
 (sSeq (sIf (bBin cLt (eVar 2) (eC (.int 0))) (sAsg (eBin vSub (eUn vNeg (eC (.int 1))) (eVar 2)) (gN 2)) sNext)
 (sSeq (sSetB (eBin vAdd (eIxB (eC (.int 1))) (eC (.int 1))) (eC (.int 1)))
 (sSeq (sSetB (eVar 2) (eC (.int 2)))
 (sSeq (sSetB (eOfB (bBin cGe (eVar 2) (eBin vPow (eC (.int 10)) (eC (.int 18))))) (eC (.int 4)))
 (sSeq (sSetB (eC (.int 6)) (eC (.int 3)))
 (sIf (bTru (eIxB (eC (.int 4)))) (sSetB (eC (.int 60)) (eC (.int 3))) sNext)))))))) sNext)
 (sSeq (sSetB (eBin vSub (eIxB (eC (.int 3))) (eC (.int 1))) (eC (.int 3)))
 (sSeq (sIf (bTru (eIxB (eC (.int 4)))) (sSeq (sAsg (eBin vMod (eArgs fInt (aCons (eIxB (eC (.int 2))) aNil)) (eVar 1)) (gN 3))
 (sSeq (sSetB (eBin vFdiv (eIxB (eC (.int 2))) (eVar 1)) (eC (.int 2)))
 (sSeq (sIf (bBin vEq (eIxB (eC (.int 2))) (eC (.int 0))) (sSetB (eC (.int 0)) (eC (.int 3))) sNext)
 (sRet (eVar 3))))) sNext)
 (sSeq (sAsg (eBin vMod (eArgs fInt (aCons (eBin vAdd (eBin vAdd (eBin vMul (eIxB (eC (.int 2))) (eC (.int 48271))) (eBin vMul (eIxB (eC (.int 3))) (eC (.int 69621)))) (eC (.int 7))) aNil)) (eC (.int 2147483647))) (gN 4))
 (sSeq (sAsg (eBin vMod (eArgs fInt (aCons (eBin vAdd (eBin vAdd (eBin vMul (eVar 4) (eVar 4)) (eBin vMul (eIxB (eC (.int 2))) (eC (.int 31)))) (eIxB (eC (.int 3)))) aNil)) (eC (.int 1000003))) (gN 4))
 (sRet (eBin vMod (eArgs fInt (aCons (eVar 4) aNil)) (eVar 1)))))))))
theorem ok_L_draw (T : Txt K mg) : FnS P w K mg base "_law_draw" 1 2 d_L_draw :=
 own_S (mn := ⟨[], some 0, none⟩) (mb := ⟨[], none, none⟩) (mc := ⟨[], none, none⟩) T.f_L_draw sc_L_draw rfl fun f F0 b cdv A outer s H E hr =>
 (ss_cons (m1 := ⟨[], some 0, none⟩) (s_if (b_cmp (op_eqD hr.units) (v_eq rfl) (e_ixB rfl e_int (fun h => pe_ix ix_list (pv 0) h (fun _ _ => rfl))) e_int (nomark _)) (ss_cons (m1 := ⟨[], some 0, none⟩) (s_if (b_cmp op_ge v_ge (e_ixB rfl e_int (fun h => pe_ix ix_list (pv 0) h (fun _ _ => rfl))) (e_callB call_len (v_len rfl) rfl T.b_len (by decide +kernel) (a_cons (e_ixB rfl e_int (fun h => pe_ix ix_list (pv 0) h (fun _ _ => rfl))) a_nil)) (nomark _)) (ss_one (s_ret e_int)) ss_nil)
 (ss_cons (m1 := ⟨[], some 0, none⟩) (s_set (e_ix ix_seq (v_ix rfl) (e_ixB rfl e_int (fun h => pe_ix ix_list (pv 0) h (fun _ _ => rfl))) (e_ixB rfl e_int (fun h => pe_ix ix_list (pv 0) h (fun _ _ => rfl))) (fun _ _ => rfl)) (fun h => ps_set (i := 2) sc_L_draw.nd rfl (.inl rfl) h))
 (ss_cons (m1 := ⟨[], some 0, none⟩) (s_if (b_cmp op_lt v_lt (e_var (by decide) (pv 2)) e_int (nomark _)) (ss_one (s_set (e_bin op_sub v_sub (e_un un_neg v_neg e_int) (e_var (by decide) (pv 2))) (fun h => ps_set (i := 2) sc_L_draw.nd rfl (.inl rfl) h))) ss_nil)
 (ss_cons (m1 := ⟨[], some 0, none⟩) (s_setB rfl (e_bin op_addX (v_add rfl) (e_ixB rfl e_int (fun h => pe_ix ix_list (pv 0) h (fun _ _ => rfl))) e_int) e_int (fun h g => ps_asg h (pg_sub (pv 0) g set_list)))
 (ss_cons (m1 := ⟨[], some 0, none⟩) (s_setB rfl (e_var (by decide) (pv 2)) e_int (fun h g => ps_asg h (pg_sub (pv 0) g set_list)))
 (ss_cons (m1 := ⟨[], some 0, none⟩) (s_setB rfl (e_cmp op_ge v_ge (e_var (by decide) (pv 2)) (e_bin op_pow v_pow e_int e_int) (nomark _)) e_int (fun h g => ps_asg h (pg_sub (pv 0) g set_list)))
 (ss_cons (m1 := ⟨[], some 0, none⟩) (s_setB rfl e_int e_int (fun h g => ps_asg h (pg_sub (pv 0) g set_list)))
 (ss_one (s_if (b_tru (e_ixB rfl e_int (fun h => pe_ix ix_list (pv 0) h (fun _ _ => rfl))) rfl) (ss_one (s_setB rfl e_int e_int (fun h g => ps_asg h (pg_sub (pv 0) g set_list)))) ss_nil))))))))) ss_nil)
 (ss_cons (m1 := ⟨[], some 0, none⟩) (s_setB rfl (e_bin op_sub v_sub (e_ixB rfl e_int (fun h => pe_ix ix_list (pv 0) h (fun _ _ => rfl))) e_int) e_int (fun h g => ps_asg h (pg_sub (pv 0) g set_list)))
 (ss_cons (m1 := ⟨[], some 0, none⟩) (s_if (b_tru (e_ixB rfl e_int (fun h => pe_ix ix_list (pv 0) h (fun _ _ => rfl))) rfl) (ss_cons (m1 := ⟨[], some 0, none⟩) (s_set (e_bin op_modN v_mod (e_callTy call_int1 v_int1 rfl T.b_int (by decide +kernel) (a_cons (e_ixB rfl e_int (fun h => pe_ix ix_list (pv 0) h (fun _ _ => rfl))) a_nil)) (e_var (by decide) (pv 1))) (fun h => ps_set (i := 3) sc_L_draw.nd rfl (.inl rfl) h))
 (ss_cons (m1 := ⟨[], some 0, none⟩) (s_setB rfl (e_bin op_fdivG v_fdiv (e_ixB rfl e_int (fun h => pe_ix ix_list (pv 0) h (fun _ _ => rfl))) (e_var (by decide) (pv 1))) e_int (fun h g => ps_asg h (pg_sub (pv 0) g set_list)))
 (ss_cons (m1 := ⟨[], some 0, none⟩) (s_if (b_cmp (op_eqD hr.units) (v_eq rfl) (e_ixB rfl e_int (fun h => pe_ix ix_list (pv 0) h (fun _ _ => rfl))) e_int (nomark _)) (ss_one (s_setB rfl e_int e_int (fun h g => ps_asg h (pg_sub (pv 0) g set_list)))) ss_nil)
 (ss_one (s_ret (e_var (by decide) (pv 3))))))) ss_nil)
 (ss_cons (m1 := ⟨[], some 0, none⟩) (s_set (e_bin op_modN v_mod (e_callTy call_int1 v_int1 rfl T.b_int (by decide +kernel) (a_cons (e_bin op_addX (v_add rfl) (e_bin op_addX (v_add rfl) (e_bin op_mulX v_mul (e_ixB rfl e_int (fun h => pe_ix ix_list (pv 0) h (fun _ _ => rfl))) e_int) (e_bin op_mulX v_mul (e_ixB rfl e_int (fun h => pe_ix ix_list (pv 0) h (fun _ _ => rfl))) e_int)) e_int) a_nil)) e_int) (fun h => ps_set (i := 4) sc_L_draw.nd rfl (.inl rfl) h))
 (ss_cons (m1 := ⟨[], some 0, none⟩) (s_set (e_bin op_modN v_mod (e_callTy call_int1 v_int1 rfl T.b_int (by decide +kernel) (a_cons (e_bin op_addX (v_add rfl) (e_bin op_addX (v_add rfl) (e_bin op_mulX v_mul (e_var (by decide) (pv 4)) (e_var (by decide) (pv 4))) (e_bin op_mulX v_mul (e_ixB rfl e_int (fun h => pe_ix ix_list (pv 0) h (fun _ _ => rfl))) e_int)) (e_ixB rfl e_int (fun h => pe_ix ix_list (pv 0) h (fun _ _ => rfl)))) a_nil)) e_int) (fun h => ps_set (i := 4) sc_L_draw.nd rfl (.inl rfl) h))
 (ss_one (s_ret (e_bin op_modN v_mod (e_callTy call_int1 v_int1 rfl T.b_int (by decide +kernel) (a_cons (e_var (by decide) (pv 4)) a_nil)) (e_var (by decide) (pv 1))))))))))
/-! ### _law_is_square -/
abbrev s_L_is_square : Stmt := topS 54
abbrev N_L_is_square : List PySem.Str := ["number", "low", "high", "middle"]
theorem sc_L_is_square : FnScope N_L_is_square ["number"] (defScope s_L_is_square) := ⟨rfl, rfl, rfl, by decide +kernel, rfl, by decide +kernel, by decide +kernel⟩
noncomputable def d_L_is_square : List D → Res D := runF 4 1
 ((sSeq (sIf (bBin cLt (eVar 0) (eC (.int 0))) (sRet (eC (.bool false))) sNext)
 (sSeq (sAsg (eC (.int 0)) (gN 1))
 (sSeq (sAsg (eBin vAdd (eVar 0) (eC (.int 1))) (gN 2))
 (sSeq (sWhile (bBin cGt (eBin vSub (eVar 2) (eVar 1)) (eC (.int 1))) (sSeq (sAsg (eBin vFdiv (eBin vAdd (eVar 1) (eVar 2)) (eC (.int 2))) (gN 3))
 (sIf (bBin cLe (eBin vMul (eVar 3) (eVar 3)) (eVar 0)) (sAsg (eVar 3) (gN 1)) (sAsg (eVar 3) (gN 2)))))
 (sRet (eOfB (bBin vEq (eBin vMul (eVar 1) (eVar 1)) (eVar 0)))))))))
theorem ok_L_is_square (T : Txt K mg) : FnD P w K mg base "_law_is_square" 1 1 d_L_is_square :=
 own_P (t := none) (mn := ⟨[], none, none⟩) (mb := ⟨[], none, none⟩) (mc := ⟨[], none, none⟩) T.f_L_is_square sc_L_is_square rfl fun f F0 cdv A outer s H E hr =>
 (ss_cons (m1 := ⟨[], none, none⟩) (s_if (b_cmp op_lt v_lt (e_var (by decide) (pv 0)) e_int (nomark _)) (ss_one (s_ret e_bl)) ss_nil)
 (ss_cons (m1 := ⟨[], none, none⟩) (s_set e_int (fun h => ps_set (i := 1) sc_L_is_square.nd rfl (.inl rfl) h))
 (ss_cons (m1 := ⟨[], none, none⟩) (s_set (e_bin op_addX (v_add rfl) (e_var (by decide) (pv 0)) e_int) (fun h => ps_set (i := 2) sc_L_is_square.nd rfl (.inl rfl) h))
 (ss_cons (m1 := ⟨[], none, none⟩) (s_while pass_ok (b_cmp op_gt v_gt (e_bin op_sub v_sub (e_var (by decide) (pv 2)) (e_var (by decide) (pv 1))) e_int (nomark _)) (ss_cons (m1 := ⟨[], none, none⟩) (s_set (e_bin op_fdivG v_fdiv (e_bin op_addX (v_add rfl) (e_var (by decide) (pv 1)) (e_var (by decide) (pv 2))) e_int) (fun h => ps_set (i := 3) sc_L_is_square.nd rfl (.inl rfl) h))
 (ss_one (s_if (b_cmp op_le v_le (e_bin op_mulX v_mul (e_var (by decide) (pv 3)) (e_var (by decide) (pv 3))) (e_var (by decide) (pv 0)) (nomark _)) (ss_one (s_set (e_var (by decide) (pv 3)) (fun h => ps_set (i := 1) sc_L_is_square.nd rfl (.inl rfl) h))) (ss_one (s_set (e_var (by decide) (pv 3)) (fun h => ps_set (i := 2) sc_L_is_square.nd rfl (.inl rfl) h)))))))
 (ss_one (s_ret (e_cmp (op_eqD hr.units) (v_eq rfl) (e_bin op_mulX v_mul (e_var (by decide) (pv 1)) (e_var (by decide) (pv 1))) (e_var (by decide) (pv 0)) (nomark _))))))))
/-! ### _law_turned -/
abbrev s_L_turned : Stmt := topS 55
abbrev N_L_turned : List PySem.Str := ["form", "matrix", "a", "b", "c", "p", "q", "r", "s", "first", "last"]
theorem sc_L_turned : FnScope N_L_turned ["form", "matrix"] (defScope s_L_turned) := ⟨rfl, rfl, rfl, by decide +kernel, rfl, by decide +kernel, by decide +kernel⟩
noncomputable def d_L_turned : List D → Res D := runF 11 2
 ((sSeq (sAsg (eVar 0) (gT (gsCons (gN 2) (gsCons (gN 3) (gsCons (gN 4) gsNil)))))
 (sSeq (sAsg (eVar 1) (gT (gsCons (gN 5) (gsCons (gN 6) (gsCons (gN 7) (gsCons (gN 8) gsNil))))))
 (sSeq (sAsg (eBin vAdd (eBin vAdd (eBin vMul (eBin vMul (eVar 2) (eVar 5)) (eVar 5)) (eBin vMul (eBin vMul (eVar 3) (eVar 5)) (eVar 7))) (eBin vMul (eBin vMul (eVar 4) (eVar 7)) (eVar 7))) (gN 9))
 (sSeq (sAsg (eBin vAdd (eBin vAdd (eBin vMul (eBin vMul (eVar 2) (eVar 6)) (eVar 6)) (eBin vMul (eBin vMul (eVar 3) (eVar 6)) (eVar 8))) (eBin vMul (eBin vMul (eVar 4) (eVar 8)) (eVar 8))) (gN 10))
 (sRet (eTup (aCons (eVar 9) (aCons (eBin vAdd (eBin vAdd (eBin vMul (eBin vMul (eBin vMul (eC (.int 2)) (eVar 2)) (eVar 5)) (eVar 6)) (eBin vMul (eVar 3) (eBin vAdd (eBin vMul (eVar 5) (eVar 8)) (eBin vMul (eVar 6) (eVar 7))))) (eBin vMul (eBin vMul (eBin vMul (eC (.int 2)) (eVar 4)) (eVar 7)) (eVar 8))) (aCons (eVar 10) aNil))))))))))
theorem ok_L_turned (T : Txt K mg) : FnD P w K mg base "_law_turned" 1 2 d_L_turned :=
 own_P (t := none) (mn := ⟨[], none, none⟩) (mb := ⟨[], none, none⟩) (mc := ⟨[], none, none⟩) T.f_L_turned sc_L_turned rfl fun f F0 cdv A outer s H E hr =>
 (ss_cons (m1 := ⟨[], none, none⟩) (s_asg (e_var (by decide) (pv 0)) (g_tup rfl rfl (gs_cons (g_name (pg_name (i := 2) sc_L_turned.nd rfl (.inl rfl))) (gs_cons (g_name (pg_name (i := 3) sc_L_turned.nd rfl (.inl rfl))) (gs_cons (g_name (pg_name (i := 4) sc_L_turned.nd rfl (.inl rfl))) gs_nil))) (gl_cons (gl_cons (gl_cons gl_nil)))))
 (ss_cons (m1 := ⟨[], none, none⟩) (s_asg (e_var (by decide) (pv 1)) (g_tup rfl rfl (gs_cons (g_name (pg_name (i := 5) sc_L_turned.nd rfl (.inl rfl))) (gs_cons (g_name (pg_name (i := 6) sc_L_turned.nd rfl (.inl rfl))) (gs_cons (g_name (pg_name (i := 7) sc_L_turned.nd rfl (.inl rfl))) (gs_cons (g_name (pg_name (i := 8) sc_L_turned.nd rfl (.inl rfl))) gs_nil)))) (gl_cons (gl_cons (gl_cons (gl_cons gl_nil))))))
 (ss_cons (m1 := ⟨[], none, none⟩) (s_set (e_bin op_addX (v_add rfl) (e_bin op_addX (v_add rfl) (e_bin op_mulX v_mul (e_bin op_mulX v_mul (e_var (by decide) (pv 2)) (e_var (by decide) (pv 5))) (e_var (by decide) (pv 5))) (e_bin op_mulX v_mul (e_bin op_mulX v_mul (e_var (by decide) (pv 3)) (e_var (by decide) (pv 5))) (e_var (by decide) (pv 7)))) (e_bin op_mulX v_mul (e_bin op_mulX v_mul (e_var (by decide) (pv 4)) (e_var (by decide) (pv 7))) (e_var (by decide) (pv 7)))) (fun h => ps_set (i := 9) sc_L_turned.nd rfl (.inl rfl) h))
 (ss_cons (m1 := ⟨[], none, none⟩) (s_set (e_bin op_addX (v_add rfl) (e_bin op_addX (v_add rfl) (e_bin op_mulX v_mul (e_bin op_mulX v_mul (e_var (by decide) (pv 2)) (e_var (by decide) (pv 6))) (e_var (by decide) (pv 6))) (e_bin op_mulX v_mul (e_bin op_mulX v_mul (e_var (by decide) (pv 3)) (e_var (by decide) (pv 6))) (e_var (by decide) (pv 8)))) (e_bin op_mulX v_mul (e_bin op_mulX v_mul (e_var (by decide) (pv 4)) (e_var (by decide) (pv 8))) (e_var (by decide) (pv 8)))) (fun h => ps_set (i := 10) sc_L_turned.nd rfl (.inl rfl) h))
 (ss_one (s_ret (e_tup (a_cons (e_var (by decide) (pv 9)) (a_cons (e_bin op_addX (v_add rfl) (e_bin op_addX (v_add rfl) (e_bin op_mulX v_mul (e_bin op_mulX v_mul (e_bin op_mulX v_mul e_int (e_var (by decide) (pv 2))) (e_var (by decide) (pv 5))) (e_var (by decide) (pv 6))) (e_bin op_mulX v_mul (e_var (by decide) (pv 3)) (e_bin op_addX (v_add rfl) (e_bin op_mulX v_mul (e_var (by decide) (pv 5)) (e_var (by decide) (pv 8))) (e_bin op_mulX v_mul (e_var (by decide) (pv 6)) (e_var (by decide) (pv 7)))))) (e_bin op_mulX v_mul (e_bin op_mulX v_mul (e_bin op_mulX v_mul e_int (e_var (by decide) (pv 4))) (e_var (by decide) (pv 7))) (e_var (by decide) (pv 8)))) (a_cons (e_var (by decide) (pv 10)) a_nil))))))))))
/-! ### _law_mix -/
abbrev s_L_mix : Stmt := topS 56
abbrev N_L_mix : List PySem.Str := ["state", "most", "a", "c", "b", "form", "k"]
theorem sc_L_mix : FnScope N_L_mix ["state", "most"] (defScope s_L_mix) := ⟨rfl, rfl, rfl, by decide +kernel, rfl, by decide +kernel, by decide +kernel⟩
noncomputable def d_L_mix : List D → MM D := runS 7 2
 ((sSeq (sAsg (eBin vAdd (eC (.int 1)) (eCallS d_L_draw (aCons (eVar 1) aNil))) (gN 2))
 (sSeq (sAsg (eBin vSub (eBin vSub (eC (.int 0)) (eC (.int 1))) (eCallS d_L_draw (aCons (eVar 1) aNil))) (gN 3))
 (sSeq (sAsg (eBin vSub (eCallS d_L_draw (aCons (eBin vAdd (eBin vMul (eC (.int 2)) (eVar 1)) (eC (.int 1))) aNil)) (eVar 1)) (gN 4))
 (sSeq (sWhile (bTru (eCall d_L_is_square (aCons (eBin vSub (eBin vMul (eVar 4) (eVar 4)) (eBin vMul (eBin vMul (eC (.int 4)) (eVar 2)) (eVar 3))) aNil))) (sAsg (eBin vAdd (eVar 4) (eC (.int 1))) (gN 4)))
 (sSeq (sAsg (eTup (aCons (eVar 2) (aCons (eVar 4) (aCons (eVar 3) aNil)))) (gN 5))
 (sSeq (sFor (iArgs iRange (aCons (eCallS d_L_draw (aCons (eC (.int 4)) aNil)) aNil)) (gN 6) (sAsg (eCall d_L_turned (aCons (eVar 5) (aCons (eTup (aCons (eBin vSub (eCallS d_L_draw (aCons (eC (.int 5)) aNil)) (eC (.int 2))) (aCons (eUn vNeg (eC (.int 1))) (aCons (eC (.int 1)) (aCons (eC (.int 0)) aNil))))) aNil))) (gN 5)))
 (sRet (eVar 5)))))))))
theorem ok_L_mix (T : Txt K mg) : FnS P w K mg base "_law_mix" 2 2 d_L_mix :=
 own_S (mn := ⟨[], some 0, none⟩) (mb := ⟨[], none, none⟩) (mc := ⟨[], none, none⟩) T.f_L_mix sc_L_mix rfl fun f F0 b cdv A outer s H E hr =>
 (ss_cons (m1 := ⟨[], some 0, none⟩) (s_set (e_bin op_addX (v_add rfl) e_int (e_callS (ok_L_draw T) hr rfl rfl takes_ok rfl (pv 0) (a_cons (e_var (by decide) (pv 1)) a_nil) rfl)) (fun h => ps_set (i := 2) sc_L_mix.nd rfl (.inl rfl) h))
 (ss_cons (m1 := ⟨[], some 0, none⟩) (s_set (e_bin op_sub v_sub (e_bin op_sub v_sub e_int e_int) (e_callS (ok_L_draw T) hr rfl rfl takes_ok rfl (pv 0) (a_cons (e_var (by decide) (pv 1)) a_nil) rfl)) (fun h => ps_set (i := 3) sc_L_mix.nd rfl (.inl rfl) h))
 (ss_cons (m1 := ⟨[], some 0, none⟩) (s_set (e_bin op_sub v_sub (e_callS (ok_L_draw T) hr rfl rfl takes_ok rfl (pv 0) (a_cons (e_bin op_addX (v_add rfl) (e_bin op_mulX v_mul e_int (e_var (by decide) (pv 1))) e_int) a_nil) rfl) (e_var (by decide) (pv 1))) (fun h => ps_set (i := 4) sc_L_mix.nd rfl (.inl rfl) h))
 (ss_cons (m1 := ⟨[], some 0, none⟩) (s_while pass_ok (b_tru (e_call (ok_L_is_square T) hr rfl rfl takes_ok (a_cons (e_bin op_sub v_sub (e_bin op_mulX v_mul (e_var (by decide) (pv 4)) (e_var (by decide) (pv 4))) (e_bin op_mulX v_mul (e_bin op_mulX v_mul e_int (e_var (by decide) (pv 2))) (e_var (by decide) (pv 3)))) a_nil) rfl) rfl) (ss_one (s_set (e_bin op_addX (v_add rfl) (e_var (by decide) (pv 4)) e_int) (fun h => ps_set (i := 4) sc_L_mix.nd rfl (.inl rfl) h))))
 (ss_cons (m1 := ⟨[], some 0, none⟩) (s_set (e_tup (a_cons (e_var (by decide) (pv 2)) (a_cons (e_var (by decide) (pv 4)) (a_cons (e_var (by decide) (pv 3)) a_nil)))) (fun h => ps_set (i := 5) sc_L_mix.nd rfl (.inl rfl) h))
 (ss_cons (m1 := ⟨[], some 0, none⟩) (s_for pass_ok rfl (i_range1 rfl T.b_range (a_cons (e_callS (ok_L_draw T) hr rfl rfl takes_ok rfl (pv 0) (a_cons e_int a_nil) rfl) a_nil)) (g_name (pg_name (i := 6) sc_L_mix.nd rfl (.inl rfl))) (ss_one (s_set (e_call (ok_L_turned T) hr rfl rfl takes_ok (a_cons (e_var (by decide) (pv 5)) (a_cons (e_tup (a_cons (e_bin op_sub v_sub (e_callS (ok_L_draw T) hr rfl rfl takes_ok rfl (pv 0) (a_cons e_int a_nil) rfl) e_int) (a_cons (e_un un_neg v_neg e_int) (a_cons e_int (a_cons e_int a_nil))))) a_nil)) rfl) (fun h => ps_set (i := 5) sc_L_mix.nd rfl (.inl rfl) h))))
 (ss_one (s_ret (e_var (by decide) (pv 5))))))))))
/-! ### _law_floor -/
abbrev s_L_floor : Stmt := topS 57
abbrev N_L_floor : List PySem.Str := ["number", "low", "high", "middle"]
theorem sc_L_floor : FnScope N_L_floor ["number"] (defScope s_L_floor) := ⟨rfl, rfl, rfl, by decide +kernel, rfl, by decide +kernel, by decide +kernel⟩
noncomputable def d_L_floor : List D → Res D := runF 4 1
 ((sSeq (sAsg (eC (.int 0)) (gN 1))
 (sSeq (sAsg (eBin vAdd (eVar 0) (eC (.int 1))) (gN 2))
 (sSeq (sWhile (bBin cGt (eBin vSub (eVar 2) (eVar 1)) (eC (.int 1))) (sSeq (sAsg (eBin vFdiv (eBin vAdd (eVar 1) (eVar 2)) (eC (.int 2))) (gN 3))
 (sIf (bBin cLe (eBin vMul (eVar 3) (eVar 3)) (eVar 0)) (sAsg (eVar 3) (gN 1)) (sAsg (eVar 3) (gN 2)))))
 (sRet (eVar 1))))))
theorem ok_L_floor (T : Txt K mg) : FnD P w K mg base "_law_floor" 1 1 d_L_floor :=
 own_P (t := none) (mn := ⟨[], none, none⟩) (mb := ⟨[], none, none⟩) (mc := ⟨[], none, none⟩) T.f_L_floor sc_L_floor rfl fun f F0 cdv A outer s H E hr =>
 (ss_cons (m1 := ⟨[], none, none⟩) (s_set e_int (fun h => ps_set (i := 1) sc_L_floor.nd rfl (.inl rfl) h))
 (ss_cons (m1 := ⟨[], none, none⟩) (s_set (e_bin op_addX (v_add rfl) (e_var (by decide) (pv 0)) e_int) (fun h => ps_set (i := 2) sc_L_floor.nd rfl (.inl rfl) h))
 (ss_cons (m1 := ⟨[], none, none⟩) (s_while pass_ok (b_cmp op_gt v_gt (e_bin op_sub v_sub (e_var (by decide) (pv 2)) (e_var (by decide) (pv 1))) e_int (nomark _)) (ss_cons (m1 := ⟨[], none, none⟩) (s_set (e_bin op_fdivG v_fdiv (e_bin op_addX (v_add rfl) (e_var (by decide) (pv 1)) (e_var (by decide) (pv 2))) e_int) (fun h => ps_set (i := 3) sc_L_floor.nd rfl (.inl rfl) h))
 (ss_one (s_if (b_cmp op_le v_le (e_bin op_mulX v_mul (e_var (by decide) (pv 3)) (e_var (by decide) (pv 3))) (e_var (by decide) (pv 0)) (nomark _)) (ss_one (s_set (e_var (by decide) (pv 3)) (fun h => ps_set (i := 1) sc_L_floor.nd rfl (.inl rfl) h))) (ss_one (s_set (e_var (by decide) (pv 3)) (fun h => ps_set (i := 2) sc_L_floor.nd rfl (.inl rfl) h)))))))
 (ss_one (s_ret (e_var (by decide) (pv 1)))))))
/-! ### _law_truth -/
abbrev s_L_truth : Stmt := topS 58
abbrev N_L_truth : List PySem.Str := ["told", "due"]
theorem sc_L_truth : FnScope N_L_truth ["told", "due"] (defScope s_L_truth) := ⟨rfl, rfl, rfl, by decide +kernel, rfl, by decide +kernel, by decide +kernel⟩
noncomputable def d_L_truth : List D → Res D := runF 2 2
 ((sSeq (sIf (bTru (eVar 1)) (sRet (eOfB (bBin vIsB (eVar 0) (eC (.bool true))))) sNext)
 (sRet (eOfB (bBin vIsB (eVar 0) (eC (.bool false)))))))
theorem ok_L_truth (T : Txt K mg) : FnD P w K mg base "_law_truth" 1 2 d_L_truth :=
 own_P (t := none) (mn := ⟨[], none, none⟩) (mb := ⟨[], none, none⟩) (mc := ⟨[], none, none⟩) T.f_L_truth sc_L_truth rfl fun f F0 cdv A outer s H E hr =>
 (ss_cons (m1 := ⟨[], none, none⟩) (s_if (b_tru (e_var (by decide) (pv 1)) rfl) (ss_one (s_ret (e_cmp op_isBl v_isB (e_var (by decide) (pv 0)) e_bl (nomark _)))) ss_nil)
 (ss_one (s_ret (e_cmp op_isBl v_isB (e_var (by decide) (pv 0)) e_bl (nomark _)))))
/-! ### _law_pos -/
abbrev s_L_pos : Stmt := topS 59
abbrev N_L_pos : List PySem.Str := ["state", "most", "a", "c", "b", "form", "k"]
theorem sc_L_pos : FnScope N_L_pos ["state", "most"] (defScope s_L_pos) := ⟨rfl, rfl, rfl, by decide +kernel, rfl, by decide +kernel, by decide +kernel⟩
noncomputable def d_L_pos : List D → MM D := runS 7 2
 ((sSeq (sAsg (eBin vAdd (eC (.int 1)) (eCallS d_L_draw (aCons (eVar 1) aNil))) (gN 2))
 (sSeq (sAsg (eBin vAdd (eC (.int 1)) (eCallS d_L_draw (aCons (eVar 1) aNil))) (gN 3))
 (sSeq (sAsg (eBin vSub (eCallS d_L_draw (aCons (eBin vAdd (eBin vMul (eC (.int 2)) (eVar 1)) (eC (.int 1))) aNil)) (eVar 1)) (gN 4))
 (sSeq (sWhile (bBin cGe (eBin vMul (eVar 4) (eVar 4)) (eBin vMul (eBin vMul (eC (.int 4)) (eVar 2)) (eVar 3))) (sAsg (eBin vAdd (eBin vFdiv (eVar 4) (eC (.int 2))) (eArgs fInt (aCons (eOfB (bBin cLt (eVar 4) (eC (.int 0)))) aNil))) (gN 4)))
 (sSeq (sAsg (eTup (aCons (eVar 2) (aCons (eVar 4) (aCons (eVar 3) aNil)))) (gN 5))
 (sSeq (sFor (iArgs iRange (aCons (eCallS d_L_draw (aCons (eC (.int 4)) aNil)) aNil)) (gN 6) (sAsg (eCall d_L_turned (aCons (eVar 5) (aCons (eTup (aCons (eBin vSub (eCallS d_L_draw (aCons (eC (.int 5)) aNil)) (eC (.int 2))) (aCons (eUn vNeg (eC (.int 1))) (aCons (eC (.int 1)) (aCons (eC (.int 0)) aNil))))) aNil))) (gN 5)))
 (sRet (eVar 5)))))))))
theorem ok_L_pos (T : Txt K mg) : FnS P w K mg base "_law_pos" 2 2 d_L_pos :=
 own_S (mn := ⟨[], some 0, none⟩) (mb := ⟨[], none, none⟩) (mc := ⟨[], none, none⟩) T.f_L_pos sc_L_pos rfl fun f F0 b cdv A outer s H E hr =>
 (ss_cons (m1 := ⟨[], some 0, none⟩) (s_set (e_bin op_addX (v_add rfl) e_int (e_callS (ok_L_draw T) hr rfl rfl takes_ok rfl (pv 0) (a_cons (e_var (by decide) (pv 1)) a_nil) rfl)) (fun h => ps_set (i := 2) sc_L_pos.nd rfl (.inl rfl) h))
 (ss_cons (m1 := ⟨[], some 0, none⟩) (s_set (e_bin op_addX (v_add rfl) e_int (e_callS (ok_L_draw T) hr rfl rfl takes_ok rfl (pv 0) (a_cons (e_var (by decide) (pv 1)) a_nil) rfl)) (fun h => ps_set (i := 3) sc_L_pos.nd rfl (.inl rfl) h))
 (ss_cons (m1 := ⟨[], some 0, none⟩) (s_set (e_bin op_sub v_sub (e_callS (ok_L_draw T) hr rfl rfl takes_ok rfl (pv 0) (a_cons (e_bin op_addX (v_add rfl) (e_bin op_mulX v_mul e_int (e_var (by decide) (pv 1))) e_int) a_nil) rfl) (e_var (by decide) (pv 1))) (fun h => ps_set (i := 4) sc_L_pos.nd rfl (.inl rfl) h))
 (ss_cons (m1 := ⟨[], some 0, none⟩) (s_while pass_ok (b_cmp op_ge v_ge (e_bin op_mulX v_mul (e_var (by decide) (pv 4)) (e_var (by decide) (pv 4))) (e_bin op_mulX v_mul (e_bin op_mulX v_mul e_int (e_var (by decide) (pv 2))) (e_var (by decide) (pv 3))) (nomark _)) (ss_one (s_set (e_bin op_addX (v_add rfl) (e_bin op_fdivG v_fdiv (e_var (by decide) (pv 4)) e_int) (e_callTy call_int1 v_int1 rfl T.b_int (by decide +kernel) (a_cons (e_cmp op_lt v_lt (e_var (by decide) (pv 4)) e_int (nomark _)) a_nil))) (fun h => ps_set (i := 4) sc_L_pos.nd rfl (.inl rfl) h))))
 (ss_cons (m1 := ⟨[], some 0, none⟩) (s_set (e_tup (a_cons (e_var (by decide) (pv 2)) (a_cons (e_var (by decide) (pv 4)) (a_cons (e_var (by decide) (pv 3)) a_nil)))) (fun h => ps_set (i := 5) sc_L_pos.nd rfl (.inl rfl) h))
 (ss_cons (m1 := ⟨[], some 0, none⟩) (s_for pass_ok rfl (i_range1 rfl T.b_range (a_cons (e_callS (ok_L_draw T) hr rfl rfl takes_ok rfl (pv 0) (a_cons e_int a_nil) rfl) a_nil)) (g_name (pg_name (i := 6) sc_L_pos.nd rfl (.inl rfl))) (ss_one (s_set (e_call (ok_L_turned T) hr rfl rfl takes_ok (a_cons (e_var (by decide) (pv 5)) (a_cons (e_tup (a_cons (e_bin op_sub v_sub (e_callS (ok_L_draw T) hr rfl rfl takes_ok rfl (pv 0) (a_cons e_int a_nil) rfl) e_int) (a_cons (e_un un_neg v_neg e_int) (a_cons e_int (a_cons e_int a_nil))))) a_nil)) rfl) (fun h => ps_set (i := 5) sc_L_pos.nd rfl (.inl rfl) h))))
 (ss_one (s_ret (e_var (by decide) (pv 5))))))))))
/-! ### _law_common -/
abbrev s_L_common : Stmt := topS 60
abbrev N_L_common : List PySem.Str := ["one", "two"]
theorem sc_L_common : FnScope N_L_common ["one", "two"] (defScope s_L_common) := ⟨rfl, rfl, rfl, by decide +kernel, rfl, by decide +kernel, by decide +kernel⟩
noncomputable def d_L_common : List D → Res D := runF 2 2
 ((sSeq (sAsg (eArgs fAbs (aCons (eVar 0) aNil)) (gN 0))
 (sSeq (sAsg (eArgs fAbs (aCons (eVar 1) aNil)) (gN 1))
 (sSeq (sWhile (bBin vNe (eVar 1) (eC (.int 0))) (sPar 0 1 (eVar 1) (eBin vMod (eArgs fInt (aCons (eVar 0) aNil)) (eVar 1))))
 (sRet (eVar 0))))))
theorem ok_L_common (T : Txt K mg) : FnD P w K mg base "_law_common" 1 2 d_L_common :=
 own_P (t := none) (mn := ⟨[], none, none⟩) (mb := ⟨[], none, none⟩) (mc := ⟨[], none, none⟩) T.f_L_common sc_L_common rfl fun f F0 cdv A outer s H E hr =>
 (ss_cons (m1 := ⟨[], none, none⟩) (s_set (e_callB call_abs v_abs rfl T.b_abs (by decide +kernel) (a_cons (e_var (by decide) (pv 0)) a_nil)) (fun h => ps_set (i := 0) sc_L_common.nd rfl (.inl rfl) h))
 (ss_cons (m1 := ⟨[], none, none⟩) (s_set (e_callB call_abs v_abs rfl T.b_abs (by decide +kernel) (a_cons (e_var (by decide) (pv 1)) a_nil)) (fun h => ps_set (i := 1) sc_L_common.nd rfl (.inl rfl) h))
 (ss_cons (m1 := ⟨[], none, none⟩) (s_while pass_ok (b_cmp (op_neD hr.units) (v_ne rfl) (e_var (by decide) (pv 1)) e_int (nomark _)) (ss_one (s_par (i := 0) (j := 1) (a_cons (e_var (by decide) (pv 1)) (a_cons (e_bin op_modN v_mod (e_callTy call_int1 v_int1 rfl T.b_int (by decide +kernel) (a_cons (e_var (by decide) (pv 0)) a_nil)) (e_var (by decide) (pv 1))) a_nil)) rfl sc_L_common.nd rfl rfl (by decide) rfl rfl (by rfl))))
 (ss_one (s_ret (e_var (by decide) (pv 0)))))))
/-! ### _law_twist -/
abbrev s_L_twist : Stmt := topS 61
abbrev N_L_twist : List PySem.Str := ["state", "matrix", "k", "count", "p", "q", "r", "s"]
theorem sc_L_twist : FnScope N_L_twist ["state"] (defScope s_L_twist) := ⟨rfl, rfl, rfl, by decide +kernel, rfl, by decide +kernel, by decide +kernel⟩
noncomputable def d_L_twist : List D → MM D := runS 8 1
 ((sSeq (sAsg (eTup (aCons (eC (.int 1)) (aCons (eC (.int 0)) (aCons (eC (.int 0)) (aCons (eC (.int 1)) aNil))))) (gN 1))
 (sSeq (sFor (iArgs iRange (aCons (eCallS d_L_draw (aCons (eC (.int 5)) aNil)) aNil)) (gN 2) (sSeq (sAsg (eBin vSub (eCallS d_L_draw (aCons (eC (.int 7)) aNil)) (eC (.int 3))) (gN 3))
 (sSeq (sAsg (eVar 1) (gT (gsCons (gN 4) (gsCons (gN 5) (gsCons (gN 6) (gsCons (gN 7) gsNil))))))
 (sAsg (eTup (aCons (eBin vAdd (eBin vMul (eVar 4) (eVar 3)) (eVar 5)) (aCons (eBin vSub (eC (.int 0)) (eVar 4)) (aCons (eBin vAdd (eBin vMul (eVar 6) (eVar 3)) (eVar 7)) (aCons (eBin vSub (eC (.int 0)) (eVar 6)) aNil))))) (gN 1)))))
 (sRet (eVar 1)))))
theorem ok_L_twist (T : Txt K mg) : FnS P w K mg base "_law_twist" 2 1 d_L_twist :=
 own_S (mn := ⟨[], some 0, none⟩) (mb := ⟨[], none, none⟩) (mc := ⟨[], none, none⟩) T.f_L_twist sc_L_twist rfl fun f F0 b cdv A outer s H E hr =>
 (ss_cons (m1 := ⟨[], some 0, none⟩) (s_set (e_tup (a_cons e_int (a_cons e_int (a_cons e_int (a_cons e_int a_nil))))) (fun h => ps_set (i := 1) sc_L_twist.nd rfl (.inl rfl) h))
 (ss_cons (m1 := ⟨[], some 0, none⟩) (s_for pass_ok rfl (i_range1 rfl T.b_range (a_cons (e_callS (ok_L_draw T) hr rfl rfl takes_ok rfl (pv 0) (a_cons e_int a_nil) rfl) a_nil)) (g_name (pg_name (i := 2) sc_L_twist.nd rfl (.inl rfl))) (ss_cons (m1 := ⟨[], some 0, none⟩) (s_set (e_bin op_sub v_sub (e_callS (ok_L_draw T) hr rfl rfl takes_ok rfl (pv 0) (a_cons e_int a_nil) rfl) e_int) (fun h => ps_set (i := 3) sc_L_twist.nd rfl (.inl rfl) h))
 (ss_cons (m1 := ⟨[], some 0, none⟩) (s_asg (e_var (by decide) (pv 1)) (g_tup rfl rfl (gs_cons (g_name (pg_name (i := 4) sc_L_twist.nd rfl (.inl rfl))) (gs_cons (g_name (pg_name (i := 5) sc_L_twist.nd rfl (.inl rfl))) (gs_cons (g_name (pg_name (i := 6) sc_L_twist.nd rfl (.inl rfl))) (gs_cons (g_name (pg_name (i := 7) sc_L_twist.nd rfl (.inl rfl))) gs_nil)))) (gl_cons (gl_cons (gl_cons (gl_cons gl_nil))))))
 (ss_one (s_set (e_tup (a_cons (e_bin op_addX (v_add rfl) (e_bin op_mulX v_mul (e_var (by decide) (pv 4)) (e_var (by decide) (pv 3))) (e_var (by decide) (pv 5))) (a_cons (e_bin op_sub v_sub e_int (e_var (by decide) (pv 4))) (a_cons (e_bin op_addX (v_add rfl) (e_bin op_mulX v_mul (e_var (by decide) (pv 6)) (e_var (by decide) (pv 3))) (e_var (by decide) (pv 7))) (a_cons (e_bin op_sub v_sub e_int (e_var (by decide) (pv 6))) a_nil))))) (fun h => ps_set (i := 1) sc_L_twist.nd rfl (.inl rfl) h))))))
 (ss_one (s_ret (e_var (by decide) (pv 1))))))
/-! ### _law_points -/
abbrev s_L_points : Stmt := topS 62
abbrev N_L_points : List PySem.Str := ["form", "number", "a", "b", "c", "size", "found", "high", "y", "rest", "root", "top"]
theorem sc_L_points : FnScope N_L_points ["form", "number"] (defScope s_L_points) := ⟨rfl, rfl, rfl, by decide +kernel, rfl, by decide +kernel, by decide +kernel⟩
noncomputable def d_L_points : List D → Res D := runF 12 2
 ((sSeq (sAsg (eVar 0) (gT (gsCons (gN 2) (gsCons (gN 3) (gsCons (gN 4) gsNil)))))
 (sSeq (sAsg (eBin vSub (eBin vMul (eBin vMul (eC (.int 4)) (eVar 2)) (eVar 4)) (eBin vMul (eVar 3) (eVar 3))) (gN 5))
 (sSeq (sOwn 6 aNil)
 (sSeq (sAsg (eCall d_L_floor (aCons (eBin vFdiv (eBin vMul (eBin vMul (eC (.int 4)) (eVar 2)) (eVar 1)) (eVar 5)) aNil)) (gN 7))
 (sSeq (sFor (iArgs iRange (aCons (eBin vSub (eC (.int 0)) (eVar 7)) (aCons (eBin vAdd (eVar 7) (eC (.int 1))) aNil))) (gN 8) (sSeq (sAsg (eBin vSub (eBin vMul (eBin vMul (eC (.int 4)) (eVar 2)) (eVar 1)) (eBin vMul (eBin vMul (eVar 5) (eVar 8)) (eVar 8))) (gN 9))
 (sSeq (sAsg (eCall d_L_floor (aCons (eVar 9) aNil)) (gN 10))
 (sIf (bBin vEq (eBin vMul (eVar 10) (eVar 10)) (eVar 9)) (sFor (iSeq (eArgs fSortSet (aCons (eLst (aCons (eBin vSub (eVar 10) (eBin vMul (eVar 3) (eVar 8))) (aCons (eBin vSub (eBin vSub (eC (.int 0)) (eVar 10)) (eBin vMul (eVar 3) (eVar 8))) aNil))) aNil))) (gN 11) (sIf (bBin vEq (eBin vMod (eArgs fInt (aCons (eVar 11) aNil)) (eBin vMul (eC (.int 2)) (eVar 2))) (eC (.int 0))) (sApp 6 (eTup (aCons (eBin vFdiv (eVar 11) (eBin vMul (eC (.int 2)) (eVar 2))) (aCons (eVar 8) aNil)))) sNext)) sNext))))
 (sRet (eVar 6))))))))
theorem ok_L_points (T : Txt K mg) : FnD P w K mg base "_law_points" 2 2 d_L_points :=
 own_P (t := none) (mn := ⟨[], none, none⟩) (mb := ⟨[], none, none⟩) (mc := ⟨[], none, none⟩) T.f_L_points sc_L_points rfl fun f F0 cdv A outer s H E hr =>
 (ss_cons (m1 := ⟨[], none, none⟩) (s_asg (e_var (by decide) (pv 0)) (g_tup rfl rfl (gs_cons (g_name (pg_name (i := 2) sc_L_points.nd rfl (.inl rfl))) (gs_cons (g_name (pg_name (i := 3) sc_L_points.nd rfl (.inl rfl))) (gs_cons (g_name (pg_name (i := 4) sc_L_points.nd rfl (.inl rfl))) gs_nil))) (gl_cons (gl_cons (gl_cons gl_nil)))))
 (ss_cons (m1 := ⟨[], none, none⟩) (s_set (e_bin op_sub v_sub (e_bin op_mulX v_mul (e_bin op_mulX v_mul e_int (e_var (by decide) (pv 2))) (e_var (by decide) (pv 4))) (e_bin op_mulX v_mul (e_var (by decide) (pv 3)) (e_var (by decide) (pv 3)))) (fun h => ps_set (i := 5) sc_L_points.nd rfl (.inl rfl) h))
 (ss_cons (m1 := ⟨[6], none, none⟩) (s_own (f_lst a_nil) (fun h => ps_set (i := 6) sc_L_points.nd rfl (.inl rfl) h))
 (ss_cons (m1 := ⟨[6], none, none⟩) (s_set (e_call (ok_L_floor T) hr rfl rfl takes_ok (a_cons (e_bin op_fdivG v_fdiv (e_bin op_mulX v_mul (e_bin op_mulX v_mul e_int (e_var (by decide) (pv 2))) (e_var (by decide) (pv 1))) (e_var (by decide) (pv 5))) a_nil) rfl) (fun h => ps_set (i := 7) sc_L_points.nd rfl (.inl rfl) h))
 (ss_cons (m1 := ⟨[6], none, none⟩) (s_for pass_ok rfl (i_range2 rfl T.b_range (a_cons (e_bin op_sub v_sub e_int (e_var (by decide) (pv 7))) (a_cons (e_bin op_addX (v_add rfl) (e_var (by decide) (pv 7)) e_int) a_nil))) (g_name (pg_name (i := 8) sc_L_points.nd rfl (.inl rfl))) (ss_cons (m1 := ⟨[6], none, none⟩) (s_set (e_bin op_sub v_sub (e_bin op_mulX v_mul (e_bin op_mulX v_mul e_int (e_var (by decide) (pv 2))) (e_var (by decide) (pv 1))) (e_bin op_mulX v_mul (e_bin op_mulX v_mul (e_var (by decide) (pv 5)) (e_var (by decide) (pv 8))) (e_var (by decide) (pv 8)))) (fun h => ps_set (i := 9) sc_L_points.nd rfl (.inl rfl) h))
 (ss_cons (m1 := ⟨[6], none, none⟩) (s_set (e_call (ok_L_floor T) hr rfl rfl takes_ok (a_cons (e_var (by decide) (pv 9)) a_nil) rfl) (fun h => ps_set (i := 10) sc_L_points.nd rfl (.inl rfl) h))
 (ss_one (s_if (b_cmp (op_eqD hr.units) (v_eq rfl) (e_bin op_mulX v_mul (e_var (by decide) (pv 10)) (e_var (by decide) (pv 10))) (e_var (by decide) (pv 9)) (nomark _)) (ss_one (s_for pass_ok rfl (i_seq rfl (e_sortedSet rfl rfl rfl T.b_sorted rfl T.b_set (e_lst (a_cons (e_bin op_sub v_sub (e_var (by decide) (pv 10)) (e_bin op_mulX v_mul (e_var (by decide) (pv 3)) (e_var (by decide) (pv 8)))) (a_cons (e_bin op_sub v_sub (e_bin op_sub v_sub e_int (e_var (by decide) (pv 10))) (e_bin op_mulX v_mul (e_var (by decide) (pv 3)) (e_var (by decide) (pv 8)))) a_nil))))) (g_name (pg_name (i := 11) sc_L_points.nd rfl (.inl rfl))) (ss_one (s_if (b_cmp (op_eqD hr.units) (v_eq rfl) (e_bin op_modN v_mod (e_callTy call_int1 v_int1 rfl T.b_int (by decide +kernel) (a_cons (e_var (by decide) (pv 11)) a_nil)) (e_bin op_mulX v_mul e_int (e_var (by decide) (pv 2)))) e_int (nomark _)) (ss_one (s_app (by decide) (e_tup (a_cons (e_bin op_fdivG v_fdiv (e_var (by decide) (pv 11)) (e_bin op_mulX v_mul e_int (e_var (by decide) (pv 2)))) (a_cons (e_var (by decide) (pv 8)) a_nil))) (fun h => ps_expr (pe_bm PySem.F.plainAttrs_list PySem.F.slot_list_append PySem.F.type_list_append mt_append (pv 6) (pa_cons h pa_nil))))) ss_nil)))) ss_nil)))))
 (ss_frz 6 (ss_one (s_ret (e_var (by decide) (pv 6))))))))))
/-! ### _law_selves -/
abbrev s_L_selves : Stmt := topS 63
abbrev N_L_selves : List PySem.Str := ["form", "found", "p", "r", "q", "s"]
theorem sc_L_selves : FnScope N_L_selves ["form"] (defScope s_L_selves) := ⟨rfl, rfl, rfl, by decide +kernel, rfl, by decide +kernel, by decide +kernel⟩
noncomputable def d_L_selves : List D → Res D := runF 6 1
 ((sSeq (sOwn 1 aNil)
 (sSeq (sFor (iSeq (eCall d_L_points (aCons (eVar 0) (aCons (eBin vIx (eVar 0) (eC (.int 0))) aNil)))) (gT (gsCons (gN 2) (gsCons (gN 3) gsNil))) (sFor (iSeq (eCall d_L_points (aCons (eVar 0) (aCons (eBin vIx (eVar 0) (eC (.int 2))) aNil)))) (gT (gsCons (gN 4) (gsCons (gN 5) gsNil))) (sIf (bAnd (bBin vEq (eBin vSub (eBin vMul (eVar 2) (eVar 5)) (eBin vMul (eVar 4) (eVar 3))) (eC (.int 1))) (bBin vEq (eCall d_L_turned (aCons (eVar 0) (aCons (eTup (aCons (eVar 2) (aCons (eVar 4) (aCons (eVar 3) (aCons (eVar 5) aNil))))) aNil))) (eVar 0))) (sApp 1 (eTup (aCons (eVar 2) (aCons (eVar 4) (aCons (eVar 3) (aCons (eVar 5) aNil)))))) sNext)))
 (sRet (eArgs fSortD (aCons (eVar 1) aNil))))))
theorem ok_L_selves (T : Txt K mg) : FnD P w K mg base "_law_selves" 3 1 d_L_selves :=
 own_P (t := none) (mn := ⟨[], none, none⟩) (mb := ⟨[], none, none⟩) (mc := ⟨[], none, none⟩) T.f_L_selves sc_L_selves rfl fun f F0 cdv A outer s H E hr =>
 (ss_cons (m1 := ⟨[1], none, none⟩) (s_own (f_lst a_nil) (fun h => ps_set (i := 1) sc_L_selves.nd rfl (.inl rfl) h))
 (ss_cons (m1 := ⟨[1], none, none⟩) (s_for pass_ok rfl (i_seq rfl (e_call (ok_L_points T) hr rfl rfl takes_ok (a_cons (e_var (by decide) (pv 0)) (a_cons (e_ix ix_seq (v_ix rfl) (e_var (by decide) (pv 0)) e_int (fun _ _ => rfl)) a_nil)) rfl)) (g_tup rfl rfl (gs_cons (g_name (pg_name (i := 2) sc_L_selves.nd rfl (.inl rfl))) (gs_cons (g_name (pg_name (i := 3) sc_L_selves.nd rfl (.inl rfl))) gs_nil)) (gl_cons (gl_cons gl_nil))) (ss_one (s_for pass_ok rfl (i_seq rfl (e_call (ok_L_points T) hr rfl rfl takes_ok (a_cons (e_var (by decide) (pv 0)) (a_cons (e_ix ix_seq (v_ix rfl) (e_var (by decide) (pv 0)) e_int (fun _ _ => rfl)) a_nil)) rfl)) (g_tup rfl rfl (gs_cons (g_name (pg_name (i := 4) sc_L_selves.nd rfl (.inl rfl))) (gs_cons (g_name (pg_name (i := 5) sc_L_selves.nd rfl (.inl rfl))) gs_nil)) (gl_cons (gl_cons gl_nil))) (ss_one (s_if (b_w (bw_and (b_cmp (op_eqD hr.units) (v_eq rfl) (e_bin op_sub v_sub (e_bin op_mulX v_mul (e_var (by decide) (pv 2)) (e_var (by decide) (pv 5))) (e_bin op_mulX v_mul (e_var (by decide) (pv 4)) (e_var (by decide) (pv 3)))) e_int (nomark _)) (bw_and1 (b_cmp (op_eqD hr.units) (v_eq rfl) (e_call (ok_L_turned T) hr rfl rfl takes_ok (a_cons (e_var (by decide) (pv 0)) (a_cons (e_tup (a_cons (e_var (by decide) (pv 2)) (a_cons (e_var (by decide) (pv 4)) (a_cons (e_var (by decide) (pv 3)) (a_cons (e_var (by decide) (pv 5)) a_nil))))) a_nil)) rfl) (e_var (by decide) (pv 0)) (nomark _))))) (ss_one (s_app (by decide) (e_tup (a_cons (e_var (by decide) (pv 2)) (a_cons (e_var (by decide) (pv 4)) (a_cons (e_var (by decide) (pv 3)) (a_cons (e_var (by decide) (pv 5)) a_nil))))) (fun h => ps_expr (pe_bm PySem.F.plainAttrs_list PySem.F.slot_list_append PySem.F.type_list_append mt_append (pv 1) (pa_cons h pa_nil))))) ss_nil)))))
 (ss_frz 1 (ss_one (s_ret (e_callB (cr_sortDL (units65 hr)) (v_sortD rfl) rfl T.b_sorted (by decide +kernel) (a_cons (e_var (by decide) (pv 1)) a_nil)))))))
/-! ### _law_told -/
abbrev s_L_told : Stmt := topS 64
abbrev N_L_told : List PySem.Str := ["form", "kind"]
theorem sc_L_told : FnScope N_L_told ["form", "kind"] (defScope s_L_told) := ⟨rfl, rfl, rfl, by decide +kernel, rfl, by decide +kernel, by decide +kernel⟩
noncomputable def d_L_told : List D → Res D := runF 2 2
 ((sTry "NotPossible" (sSeq (sIf (bBin vEq (eVar 1) (eC (.int 0))) (sRet (eCall d_selves_of (aCons (eVar 0) aNil))) sNext) (sRet (eCall d_least_self (aCons (eVar 0) aNil)))) (sRet (eC .none))))
theorem ok_L_told (T : Txt K mg) : FnD P w K mg base "_law_told" 6 2 d_L_told :=
 own_P (t := none) (mn := ⟨[], none, none⟩) (mb := ⟨[], none, none⟩) (mc := ⟨[], none, none⟩) T.f_L_told sc_L_told rfl fun f F0 cdv A outer s H E hr =>
 (ss_one (s_try T.x_NotPossible rfl rfl rfl rfl rfl (fun W pn xe tk => (xs_if (b_cmp (op_eqD hr.units) (v_eq rfl) (e_var (by decide) (pv 1)) e_int (nomark _)) (e_call (ok_selves_of T) hr rfl rfl tk (a_cons (e_var (by decide) (pv 0)) a_nil) rfl) (xs_ret (e_call (ok_least_self T) hr rfl rfl tk (a_cons (e_var (by decide) (pv 0)) a_nil) rfl)))) (fun a oe pn => (ss_one (s_ret e_non))) takes0))
/-! ### _law_product -/
abbrev s_L_product : Stmt := topS 65
abbrev N_L_product : List PySem.Str := ["one", "two", "a", "b", "c", "d", "p", "q", "r", "s"]
theorem sc_L_product : FnScope N_L_product ["one", "two"] (defScope s_L_product) := ⟨rfl, rfl, rfl, by decide +kernel, rfl, by decide +kernel, by decide +kernel⟩
noncomputable def d_L_product : List D → Res D := runF 10 2
 ((sSeq (sAsg (eVar 0) (gT (gsCons (gN 2) (gsCons (gN 3) (gsCons (gN 4) (gsCons (gN 5) gsNil))))))
 (sSeq (sAsg (eVar 1) (gT (gsCons (gN 6) (gsCons (gN 7) (gsCons (gN 8) (gsCons (gN 9) gsNil))))))
 (sRet (eTup (aCons (eBin vAdd (eBin vMul (eVar 2) (eVar 6)) (eBin vMul (eVar 3) (eVar 8))) (aCons (eBin vAdd (eBin vMul (eVar 2) (eVar 7)) (eBin vMul (eVar 3) (eVar 9))) (aCons (eBin vAdd (eBin vMul (eVar 4) (eVar 6)) (eBin vMul (eVar 5) (eVar 8))) (aCons (eBin vAdd (eBin vMul (eVar 4) (eVar 7)) (eBin vMul (eVar 5) (eVar 9))) aNil)))))))))
theorem ok_L_product (T : Txt K mg) : FnD P w K mg base "_law_product" 1 2 d_L_product :=
 own_P (t := none) (mn := ⟨[], none, none⟩) (mb := ⟨[], none, none⟩) (mc := ⟨[], none, none⟩) T.f_L_product sc_L_product rfl fun f F0 cdv A outer s H E hr =>
 (ss_cons (m1 := ⟨[], none, none⟩) (s_asg (e_var (by decide) (pv 0)) (g_tup rfl rfl (gs_cons (g_name (pg_name (i := 2) sc_L_product.nd rfl (.inl rfl))) (gs_cons (g_name (pg_name (i := 3) sc_L_product.nd rfl (.inl rfl))) (gs_cons (g_name (pg_name (i := 4) sc_L_product.nd rfl (.inl rfl))) (gs_cons (g_name (pg_name (i := 5) sc_L_product.nd rfl (.inl rfl))) gs_nil)))) (gl_cons (gl_cons (gl_cons (gl_cons gl_nil))))))
 (ss_cons (m1 := ⟨[], none, none⟩) (s_asg (e_var (by decide) (pv 1)) (g_tup rfl rfl (gs_cons (g_name (pg_name (i := 6) sc_L_product.nd rfl (.inl rfl))) (gs_cons (g_name (pg_name (i := 7) sc_L_product.nd rfl (.inl rfl))) (gs_cons (g_name (pg_name (i := 8) sc_L_product.nd rfl (.inl rfl))) (gs_cons (g_name (pg_name (i := 9) sc_L_product.nd rfl (.inl rfl))) gs_nil)))) (gl_cons (gl_cons (gl_cons (gl_cons gl_nil))))))
 (ss_one (s_ret (e_tup (a_cons (e_bin op_addX (v_add rfl) (e_bin op_mulX v_mul (e_var (by decide) (pv 2)) (e_var (by decide) (pv 6))) (e_bin op_mulX v_mul (e_var (by decide) (pv 3)) (e_var (by decide) (pv 8)))) (a_cons (e_bin op_addX (v_add rfl) (e_bin op_mulX v_mul (e_var (by decide) (pv 2)) (e_var (by decide) (pv 7))) (e_bin op_mulX v_mul (e_var (by decide) (pv 3)) (e_var (by decide) (pv 9)))) (a_cons (e_bin op_addX (v_add rfl) (e_bin op_mulX v_mul (e_var (by decide) (pv 4)) (e_var (by decide) (pv 6))) (e_bin op_mulX v_mul (e_var (by decide) (pv 5)) (e_var (by decide) (pv 8)))) (a_cons (e_bin op_addX (v_add rfl) (e_bin op_mulX v_mul (e_var (by decide) (pv 4)) (e_var (by decide) (pv 7))) (e_bin op_mulX v_mul (e_var (by decide) (pv 5)) (e_var (by decide) (pv 9)))) a_nil)))))))))
/-! ### _law_mixed_holds -/
abbrev s_L_mixed_holds : Stmt := topS 66
abbrev N_L_mixed_holds : List PySem.Str := ["state", "form", "least", "divisor", "size", "t", "u", "plain", "count", "sign", "power", "back", "k"]
theorem sc_L_mixed_holds : FnScope N_L_mixed_holds ["state", "form"] (defScope s_L_mixed_holds) := ⟨rfl, rfl, rfl, by decide +kernel, rfl, by decide +kernel, by decide +kernel⟩
noncomputable def d_L_mixed_holds : List D → MM D := runS 13 2
 ((sSeq (sAsg (eCall d_least_self (aCons (eVar 1) aNil)) (gN 2))
 (sSeq (sIf (bOr (bBin vNe (eCall d_L_turned (aCons (eVar 1) (aCons (eVar 2) aNil))) (eVar 1)) (bBin vNe (eBin vSub (eBin vMul (eBin vIx (eVar 2) (eC (.int 0))) (eBin vIx (eVar 2) (eC (.int 3)))) (eBin vMul (eBin vIx (eVar 2) (eC (.int 1))) (eBin vIx (eVar 2) (eC (.int 2))))) (eC (.int 1)))) (sRet (eC (.bool false))) sNext)
 (sSeq (sIf (bOr (bBin cLe (eBin vAdd (eBin vIx (eVar 2) (eC (.int 0))) (eBin vIx (eVar 2) (eC (.int 3)))) (eC (.int 2))) (bBin cLe (eBin vMul (eBin vIx (eVar 2) (eC (.int 2))) (eBin vIx (eVar 1) (eC (.int 0)))) (eC (.int 0)))) (sRet (eC (.bool false))) sNext)
 (sSeq (sAsg (eCall d_L_common (aCons (eCall d_L_common (aCons (eBin vIx (eVar 1) (eC (.int 0))) (aCons (eBin vIx (eVar 1) (eC (.int 1))) aNil))) (aCons (eBin vIx (eVar 1) (eC (.int 2))) aNil))) (gN 3))
 (sSeq (sAsg (eBin vFdiv (eBin vSub (eBin vMul (eBin vIx (eVar 1) (eC (.int 1))) (eBin vIx (eVar 1) (eC (.int 1)))) (eBin vMul (eBin vMul (eC (.int 4)) (eBin vIx (eVar 1) (eC (.int 0)))) (eBin vIx (eVar 1) (eC (.int 2))))) (eBin vMul (eVar 3) (eVar 3))) (gN 4))
 (sSeq (sAsg (eCall d_least_unit (aCons (eVar 4) aNil)) (gT (gsCons (gN 5) (gsCons (gN 6) gsNil))))
 (sSeq (sAsg (eTup (aCons (eBin vFdiv (eBin vIx (eVar 1) (eC (.int 0))) (eVar 3)) (aCons (eBin vFdiv (eBin vIx (eVar 1) (eC (.int 1))) (eVar 3)) (aCons (eBin vFdiv (eBin vIx (eVar 1) (eC (.int 2))) (eVar 3)) aNil)))) (gN 7))
 (sSeq (sIf (bOr (bBin vNe (eCall d_self_of_unit (aCons (eVar 7) (aCons (eVar 5) (aCons (eVar 6) aNil)))) (eVar 2)) (bBin vNe (eCall d_unit_of_self (aCons (eVar 1) (aCons (eVar 2) aNil))) (eTup (aCons (eVar 5) (aCons (eVar 6) aNil))))) (sRet (eC (.bool false))) sNext)
 (sSeq (sAsg (eBin vSub (eCallS d_L_draw (aCons (eC (.int 7)) aNil)) (eC (.int 3))) (gN 8))
 (sSeq (sAsg (eBin vSub (eC (.int 1)) (eBin vMul (eC (.int 2)) (eCallS d_L_draw (aCons (eC (.int 2)) aNil)))) (gN 9))
 (sSeq (sAsg (eTup (aCons (eVar 9) (aCons (eC (.int 0)) (aCons (eC (.int 0)) (aCons (eVar 9) aNil))))) (gN 10))
 (sSeq (sAsg (eTup (aCons (eBin vIx (eVar 2) (eC (.int 3))) (aCons (eBin vSub (eC (.int 0)) (eBin vIx (eVar 2) (eC (.int 1)))) (aCons (eBin vSub (eC (.int 0)) (eBin vIx (eVar 2) (eC (.int 2)))) (aCons (eBin vIx (eVar 2) (eC (.int 0))) aNil))))) (gN 11))
 (sSeq (sFor (iArgs iRange (aCons (eArgs fAbs (aCons (eVar 8) aNil)) aNil)) (gN 12) (sAsg (eCall d_L_product (aCons (eVar 10) (aCons (eBin vIx (eLst (aCons (eVar 2) (aCons (eVar 11) aNil))) (eArgs fInt (aCons (eOfB (bBin cLt (eVar 8) (eC (.int 0)))) aNil))) aNil))) (gN 10)))
 (sRet (eAnd (eOfB (bBin vEq (eCall d_exponent_of_self (aCons (eVar 1) (aCons (eVar 10) aNil))) (eTup (aCons (eVar 9) (aCons (eVar 8) aNil))))) (eOfB (bBin vIsB (eCall d_is_self (aCons (eVar 1) (aCons (eVar 10) aNil))) (eC (.bool true))))))))))))))))))))
theorem ok_L_mixed_holds (T : Txt K mg) : FnS P w K mg base "_law_mixed_holds" 7 2 d_L_mixed_holds :=
 own_S (mn := ⟨[], some 0, none⟩) (mb := ⟨[], none, none⟩) (mc := ⟨[], none, none⟩) T.f_L_mixed_holds sc_L_mixed_holds rfl fun f F0 b cdv A outer s H E hr =>
 (ss_cons (m1 := ⟨[], some 0, none⟩) (s_set (e_call (ok_least_self T) hr rfl rfl takes_ok (a_cons (e_var (by decide) (pv 1)) a_nil) rfl) (fun h => ps_set (i := 2) sc_L_mixed_holds.nd rfl (.inl rfl) h))
 (ss_cons (m1 := ⟨[], some 0, none⟩) (s_if (b_w (bw_or (b_cmp (op_neD hr.units) (v_ne rfl) (e_call (ok_L_turned T) hr rfl rfl takes_ok (a_cons (e_var (by decide) (pv 1)) (a_cons (e_var (by decide) (pv 2)) a_nil)) rfl) (e_var (by decide) (pv 1)) (nomark _)) (bw_or1 (b_cmp (op_neD hr.units) (v_ne rfl) (e_bin op_sub v_sub (e_bin op_mulX v_mul (e_ix ix_seq (v_ix rfl) (e_var (by decide) (pv 2)) e_int (fun _ _ => rfl)) (e_ix ix_seq (v_ix rfl) (e_var (by decide) (pv 2)) e_int (fun _ _ => rfl))) (e_bin op_mulX v_mul (e_ix ix_seq (v_ix rfl) (e_var (by decide) (pv 2)) e_int (fun _ _ => rfl)) (e_ix ix_seq (v_ix rfl) (e_var (by decide) (pv 2)) e_int (fun _ _ => rfl)))) e_int (nomark _))))) (ss_one (s_ret e_bl)) ss_nil)
 (ss_cons (m1 := ⟨[], some 0, none⟩) (s_if (b_w (bw_or (b_cmp op_le v_le (e_bin op_addX (v_add rfl) (e_ix ix_seq (v_ix rfl) (e_var (by decide) (pv 2)) e_int (fun _ _ => rfl)) (e_ix ix_seq (v_ix rfl) (e_var (by decide) (pv 2)) e_int (fun _ _ => rfl))) e_int (nomark _)) (bw_or1 (b_cmp op_le v_le (e_bin op_mulX v_mul (e_ix ix_seq (v_ix rfl) (e_var (by decide) (pv 2)) e_int (fun _ _ => rfl)) (e_ix ix_seq (v_ix rfl) (e_var (by decide) (pv 1)) e_int (fun _ _ => rfl))) e_int (nomark _))))) (ss_one (s_ret e_bl)) ss_nil)
 (ss_cons (m1 := ⟨[], some 0, none⟩) (s_set (e_call (ok_L_common T) hr rfl rfl takes_ok (a_cons (e_call (ok_L_common T) hr rfl rfl takes_ok (a_cons (e_ix ix_seq (v_ix rfl) (e_var (by decide) (pv 1)) e_int (fun _ _ => rfl)) (a_cons (e_ix ix_seq (v_ix rfl) (e_var (by decide) (pv 1)) e_int (fun _ _ => rfl)) a_nil)) rfl) (a_cons (e_ix ix_seq (v_ix rfl) (e_var (by decide) (pv 1)) e_int (fun _ _ => rfl)) a_nil)) rfl) (fun h => ps_set (i := 3) sc_L_mixed_holds.nd rfl (.inl rfl) h))
 (ss_cons (m1 := ⟨[], some 0, none⟩) (s_set (e_bin op_fdivG v_fdiv (e_bin op_sub v_sub (e_bin op_mulX v_mul (e_ix ix_seq (v_ix rfl) (e_var (by decide) (pv 1)) e_int (fun _ _ => rfl)) (e_ix ix_seq (v_ix rfl) (e_var (by decide) (pv 1)) e_int (fun _ _ => rfl))) (e_bin op_mulX v_mul (e_bin op_mulX v_mul e_int (e_ix ix_seq (v_ix rfl) (e_var (by decide) (pv 1)) e_int (fun _ _ => rfl))) (e_ix ix_seq (v_ix rfl) (e_var (by decide) (pv 1)) e_int (fun _ _ => rfl)))) (e_bin op_mulX v_mul (e_var (by decide) (pv 3)) (e_var (by decide) (pv 3)))) (fun h => ps_set (i := 4) sc_L_mixed_holds.nd rfl (.inl rfl) h))
 (ss_cons (m1 := ⟨[], some 0, none⟩) (s_asg (e_call (ok_least_unit T) hr rfl rfl takes_ok (a_cons (e_var (by decide) (pv 4)) a_nil) rfl) (g_tup rfl rfl (gs_cons (g_name (pg_name (i := 5) sc_L_mixed_holds.nd rfl (.inl rfl))) (gs_cons (g_name (pg_name (i := 6) sc_L_mixed_holds.nd rfl (.inl rfl))) gs_nil)) (gl_cons (gl_cons gl_nil))))
 (ss_cons (m1 := ⟨[], some 0, none⟩) (s_set (e_tup (a_cons (e_bin op_fdivG v_fdiv (e_ix ix_seq (v_ix rfl) (e_var (by decide) (pv 1)) e_int (fun _ _ => rfl)) (e_var (by decide) (pv 3))) (a_cons (e_bin op_fdivG v_fdiv (e_ix ix_seq (v_ix rfl) (e_var (by decide) (pv 1)) e_int (fun _ _ => rfl)) (e_var (by decide) (pv 3))) (a_cons (e_bin op_fdivG v_fdiv (e_ix ix_seq (v_ix rfl) (e_var (by decide) (pv 1)) e_int (fun _ _ => rfl)) (e_var (by decide) (pv 3))) a_nil)))) (fun h => ps_set (i := 7) sc_L_mixed_holds.nd rfl (.inl rfl) h))
 (ss_cons (m1 := ⟨[], some 0, none⟩) (s_if (b_w (bw_or (b_cmp (op_neD hr.units) (v_ne rfl) (e_call (ok_self_of_unit T) hr rfl rfl takes_ok (a_cons (e_var (by decide) (pv 7)) (a_cons (e_var (by decide) (pv 5)) (a_cons (e_var (by decide) (pv 6)) a_nil))) rfl) (e_var (by decide) (pv 2)) (nomark _)) (bw_or1 (b_cmp (op_neD hr.units) (v_ne rfl) (e_call (ok_unit_of_self T) hr rfl rfl takes_ok (a_cons (e_var (by decide) (pv 1)) (a_cons (e_var (by decide) (pv 2)) a_nil)) rfl) (e_tup (a_cons (e_var (by decide) (pv 5)) (a_cons (e_var (by decide) (pv 6)) a_nil))) (nomark _))))) (ss_one (s_ret e_bl)) ss_nil)
 (ss_cons (m1 := ⟨[], some 0, none⟩) (s_set (e_bin op_sub v_sub (e_callS (ok_L_draw T) hr rfl rfl takes_ok rfl (pv 0) (a_cons e_int a_nil) rfl) e_int) (fun h => ps_set (i := 8) sc_L_mixed_holds.nd rfl (.inl rfl) h))
 (ss_cons (m1 := ⟨[], some 0, none⟩) (s_set (e_bin op_sub v_sub e_int (e_bin op_mulX v_mul e_int (e_callS (ok_L_draw T) hr rfl rfl takes_ok rfl (pv 0) (a_cons e_int a_nil) rfl))) (fun h => ps_set (i := 9) sc_L_mixed_holds.nd rfl (.inl rfl) h))
 (ss_cons (m1 := ⟨[], some 0, none⟩) (s_set (e_tup (a_cons (e_var (by decide) (pv 9)) (a_cons e_int (a_cons e_int (a_cons (e_var (by decide) (pv 9)) a_nil))))) (fun h => ps_set (i := 10) sc_L_mixed_holds.nd rfl (.inl rfl) h))
 (ss_cons (m1 := ⟨[], some 0, none⟩) (s_set (e_tup (a_cons (e_ix ix_seq (v_ix rfl) (e_var (by decide) (pv 2)) e_int (fun _ _ => rfl)) (a_cons (e_bin op_sub v_sub e_int (e_ix ix_seq (v_ix rfl) (e_var (by decide) (pv 2)) e_int (fun _ _ => rfl))) (a_cons (e_bin op_sub v_sub e_int (e_ix ix_seq (v_ix rfl) (e_var (by decide) (pv 2)) e_int (fun _ _ => rfl))) (a_cons (e_ix ix_seq (v_ix rfl) (e_var (by decide) (pv 2)) e_int (fun _ _ => rfl)) a_nil))))) (fun h => ps_set (i := 11) sc_L_mixed_holds.nd rfl (.inl rfl) h))
 (ss_cons (m1 := ⟨[], some 0, none⟩) (s_for pass_ok rfl (i_range1 rfl T.b_range (a_cons (e_callB call_abs v_abs rfl T.b_abs (by decide +kernel) (a_cons (e_var (by decide) (pv 8)) a_nil)) a_nil)) (g_name (pg_name (i := 12) sc_L_mixed_holds.nd rfl (.inl rfl))) (ss_one (s_set (e_call (ok_L_product T) hr rfl rfl takes_ok (a_cons (e_var (by decide) (pv 10)) (a_cons (e_ix ix_seq (v_ix rfl) (e_lst (a_cons (e_var (by decide) (pv 2)) (a_cons (e_var (by decide) (pv 11)) a_nil))) (e_callTy call_int1 v_int1 rfl T.b_int (by decide +kernel) (a_cons (e_cmp op_lt v_lt (e_var (by decide) (pv 8)) e_int (nomark _)) a_nil)) (fun _ _ => rfl)) a_nil)) rfl) (fun h => ps_set (i := 10) sc_L_mixed_holds.nd rfl (.inl rfl) h))))
 (ss_one (s_ret (e_and (e_cmp (op_eqD hr.units) (v_eq rfl) (e_call (ok_exponent_of_self T) hr rfl rfl takes_ok (a_cons (e_var (by decide) (pv 1)) (a_cons (e_var (by decide) (pv 10)) a_nil)) rfl) (e_tup (a_cons (e_var (by decide) (pv 9)) (a_cons (e_var (by decide) (pv 8)) a_nil))) (nomark _)) (e_one (e_cmp op_isBl v_isB (e_call (ok_is_self T) hr rfl rfl takes_ok (a_cons (e_var (by decide) (pv 1)) (a_cons (e_var (by decide) (pv 10)) a_nil)) rfl) e_bl (nomark _)))))))))))))))))))
/-! ### law -/
abbrev s_law : Stmt := topS 67
abbrev N_law : List PySem.Str := ["script", "state", "form", "due", "divisor", "size", "matrix", "mixed", "split"]
theorem sc_law : FnScope N_law ["script"] (defScope s_law) := ⟨rfl, rfl, rfl, by decide +kernel, rfl, by decide +kernel, by decide +kernel⟩
noncomputable def db_law : Ev → MM Fl := (sSeq (sAsg (eCallS d_L_pos (aCons (eC (.int 20)) aNil)) (gN 2))
 (sSeq (sIf (bBin vEq (eCallS d_L_draw (aCons (eC (.int 2)) aNil)) (eC (.int 0))) (sAsg (eCall d_L_turned (aCons (eBin vIx (eLst (aCons (eTup (aCons (eC (.int 1)) (aCons (eC (.int 0)) (aCons (eC (.int 1)) aNil)))) (aCons (eTup (aCons (eC (.int 1)) (aCons (eC (.int 1)) (aCons (eC (.int 1)) aNil)))) (aCons (eTup (aCons (eC (.int 2)) (aCons (eC (.int 2)) (aCons (eC (.int 2)) aNil)))) (aCons (eTup (aCons (eC (.int 3)) (aCons (eC (.int 0)) (aCons (eC (.int 3)) aNil)))) aNil))))) (eCallS d_L_draw (aCons (eC (.int 4)) aNil))) (aCons (eCallS d_L_twist aNil) aNil))) (gN 2)) sNext)
 (sSeq (sAsg (eCall d_L_selves (aCons (eVar 2) aNil)) (gN 3))
 (sSeq (sIf (bOr (bBin vNe (eCall d_selves_of (aCons (eVar 2) aNil)) (eVar 3)) (bBin vNe (eCall d_selves_of (aCons (eTup (aCons (eBin vSub (eC (.int 0)) (eBin vIx (eVar 2) (eC (.int 0)))) (aCons (eBin vSub (eC (.int 0)) (eBin vIx (eVar 2) (eC (.int 1)))) (aCons (eBin vSub (eC (.int 0)) (eBin vIx (eVar 2) (eC (.int 2)))) aNil)))) aNil)) (eVar 3))) (sRet (eC (.bool false))) sNext)
 (sSeq (sAsg (eCall d_L_common (aCons (eCall d_L_common (aCons (eBin vIx (eVar 2) (eC (.int 0))) (aCons (eBin vIx (eVar 2) (eC (.int 1))) aNil))) (aCons (eBin vIx (eVar 2) (eC (.int 2))) aNil))) (gN 4))
 (sSeq (sAsg (eBin vSub (eBin vMul (eBin vIx (eVar 2) (eC (.int 1))) (eBin vIx (eVar 2) (eC (.int 1)))) (eBin vMul (eBin vMul (eC (.int 4)) (eBin vIx (eVar 2) (eC (.int 0)))) (eBin vIx (eVar 2) (eC (.int 2))))) (gN 5))
 (sSeq (sIf (bAnd (bBin vEq (eVar 4) (eC (.int 1))) (bBin vNe (eCall d_number_of_selves (aCons (eVar 5) aNil)) (eArgs fLen (aCons (eVar 3) aNil)))) (sRet (eC (.bool false))) sNext)
 (sSeq (sAsg (eCallS d_L_twist aNil) (gN 6))
 (sSeq (sIf (bOr (bNot (bTru (eCall d_L_truth (aCons (eCall d_is_self (aCons (eVar 2) (aCons (eVar 6) aNil))) (aCons (eOfB (bBin vIn (eVar 6) (eVar 3))) aNil))))) (bBin vNotB (eCall d_is_self (aCons (eVar 2) (aCons (eC .none) aNil))) (eC (.bool false)))) (sRet (eC (.bool false))) sNext)
 (sSeq (sAsg (eCallS d_L_mix (aCons (eC (.int 20)) aNil)) (gN 7))
 (sSeq (sIf (bNot (bTru (eCallS d_L_mixed_holds (aCons (eVar 7) aNil)))) (sRet (eC (.bool false))) sNext)
 (sSeq (sAsg (eTup (aCons (eCallS d_L_draw (aCons (eC (.int 5)) aNil)) (aCons (eBin vAdd (eC (.int 1)) (eCallS d_L_draw (aCons (eC (.int 6)) aNil))) (aCons (eC (.int 0)) aNil)))) (gN 8))
 (sSeq (sIf (bOr (bBin vNe (eCall d_selves_of (aCons (eVar 8) aNil)) (eLst (aCons (eTup (aCons (eUn vNeg (eC (.int 1))) (aCons (eC (.int 0)) (aCons (eC (.int 0)) (aCons (eUn vNeg (eC (.int 1))) aNil))))) (aCons (eTup (aCons (eC (.int 1)) (aCons (eC (.int 0)) (aCons (eC (.int 0)) (aCons (eC (.int 1)) aNil))))) aNil)))) (bOr (bBin vNotN (eCall d_L_told (aCons (eVar 7) (aCons (eC (.int 0)) aNil))) (eC .none)) (bBin vNotN (eCall d_L_told (aCons (eVar 2) (aCons (eC (.int 1)) aNil))) (eC .none)))) (sRet (eC (.bool false))) sNext)
 (sRet (eOfB (bBin vIsN (eCall d_L_told (aCons (eTup (aCons (eC (.int 1)) (aCons (eC (.int 2)) (aCons (eC (.int 1)) aNil)))) (aCons (eC (.int 0)) aNil))) (eC .none)))))))))))))))))
theorem der_law (T : Txt K mg) (f : Addr) (H0 F0 : Hp) (b : Addr) (cdv : Value) (A : Around) (outer : List Env) (s : Shared) (H : Hp) (E : XK) (hr : Room 7 (A.deeper (envOfC "law" (defScope s_law) s.heap.objs.size f cdv))) :
  PSs (cxOf (L2.CX P w) P w K mg base N_law "law" (defScope s_law) f cdv A outer s H E) (defBody s_law).tail (TSD ⟨K, mg, H0, F0, some b⟩ (fun cls d _ H => E cls d H) ⟨[], some 1, none⟩ ⟨[], some 1, none⟩ ⟨[], none, none⟩ ⟨[], none, none⟩ db_law) :=
 (ss_cons (m1 := ⟨[], some 1, none⟩) (s_set (e_callS (ok_L_pos T) hr rfl rfl takes_ok rfl (pv 1) (a_cons e_int a_nil) rfl) (fun h => ps_set (i := 2) sc_law.nd rfl (.inl rfl) h))
 (ss_cons (m1 := ⟨[], some 1, none⟩) (s_if (b_cmp (op_eqD hr.units) (v_eq rfl) (e_callS (ok_L_draw T) hr rfl rfl takes_ok rfl (pv 1) (a_cons e_int a_nil) rfl) e_int (nomark _)) (ss_one (s_set (e_call (ok_L_turned T) hr rfl rfl takes_ok (a_cons (e_ix ix_seq (v_ix rfl) (e_lst (a_cons (e_tup (a_cons e_int (a_cons e_int (a_cons e_int a_nil)))) (a_cons (e_tup (a_cons e_int (a_cons e_int (a_cons e_int a_nil)))) (a_cons (e_tup (a_cons e_int (a_cons e_int (a_cons e_int a_nil)))) (a_cons (e_tup (a_cons e_int (a_cons e_int (a_cons e_int a_nil)))) a_nil))))) (e_callS (ok_L_draw T) hr rfl rfl takes_ok rfl (pv 1) (a_cons e_int a_nil) rfl) (fun _ _ => rfl)) (a_cons (e_callS (ok_L_twist T) hr rfl rfl takes_ok rfl (pv 1) a_nil rfl) a_nil)) rfl) (fun h => ps_set (i := 2) sc_law.nd rfl (.inl rfl) h))) ss_nil)
 (ss_cons (m1 := ⟨[], some 1, none⟩) (s_set (e_call (ok_L_selves T) hr rfl rfl takes_ok (a_cons (e_var (by decide) (pv 2)) a_nil) rfl) (fun h => ps_set (i := 3) sc_law.nd rfl (.inl rfl) h))
 (ss_cons (m1 := ⟨[], some 1, none⟩) (s_if (b_w (bw_or (b_cmp (op_neD hr.units) (v_ne rfl) (e_call (ok_selves_of T) hr rfl rfl takes_ok (a_cons (e_var (by decide) (pv 2)) a_nil) rfl) (e_var (by decide) (pv 3)) (nomark _)) (bw_or1 (b_cmp (op_neD hr.units) (v_ne rfl) (e_call (ok_selves_of T) hr rfl rfl takes_ok (a_cons (e_tup (a_cons (e_bin op_sub v_sub e_int (e_ix ix_seq (v_ix rfl) (e_var (by decide) (pv 2)) e_int (fun _ _ => rfl))) (a_cons (e_bin op_sub v_sub e_int (e_ix ix_seq (v_ix rfl) (e_var (by decide) (pv 2)) e_int (fun _ _ => rfl))) (a_cons (e_bin op_sub v_sub e_int (e_ix ix_seq (v_ix rfl) (e_var (by decide) (pv 2)) e_int (fun _ _ => rfl))) a_nil)))) a_nil) rfl) (e_var (by decide) (pv 3)) (nomark _))))) (ss_one (s_ret e_bl)) ss_nil)
 (ss_cons (m1 := ⟨[], some 1, none⟩) (s_set (e_call (ok_L_common T) hr rfl rfl takes_ok (a_cons (e_call (ok_L_common T) hr rfl rfl takes_ok (a_cons (e_ix ix_seq (v_ix rfl) (e_var (by decide) (pv 2)) e_int (fun _ _ => rfl)) (a_cons (e_ix ix_seq (v_ix rfl) (e_var (by decide) (pv 2)) e_int (fun _ _ => rfl)) a_nil)) rfl) (a_cons (e_ix ix_seq (v_ix rfl) (e_var (by decide) (pv 2)) e_int (fun _ _ => rfl)) a_nil)) rfl) (fun h => ps_set (i := 4) sc_law.nd rfl (.inl rfl) h))
 (ss_cons (m1 := ⟨[], some 1, none⟩) (s_set (e_bin op_sub v_sub (e_bin op_mulX v_mul (e_ix ix_seq (v_ix rfl) (e_var (by decide) (pv 2)) e_int (fun _ _ => rfl)) (e_ix ix_seq (v_ix rfl) (e_var (by decide) (pv 2)) e_int (fun _ _ => rfl))) (e_bin op_mulX v_mul (e_bin op_mulX v_mul e_int (e_ix ix_seq (v_ix rfl) (e_var (by decide) (pv 2)) e_int (fun _ _ => rfl))) (e_ix ix_seq (v_ix rfl) (e_var (by decide) (pv 2)) e_int (fun _ _ => rfl)))) (fun h => ps_set (i := 5) sc_law.nd rfl (.inl rfl) h))
 (ss_cons (m1 := ⟨[], some 1, none⟩) (s_if (b_w (bw_and (b_cmp (op_eqD hr.units) (v_eq rfl) (e_var (by decide) (pv 4)) e_int (nomark _)) (bw_and1 (b_cmp (op_neD hr.units) (v_ne rfl) (e_call (ok_number_of_selves T) hr rfl rfl takes_ok (a_cons (e_var (by decide) (pv 5)) a_nil) rfl) (e_callB call_len (v_len rfl) rfl T.b_len (by decide +kernel) (a_cons (e_var (by decide) (pv 3)) a_nil)) (nomark _))))) (ss_one (s_ret e_bl)) ss_nil)
 (ss_cons (m1 := ⟨[], some 1, none⟩) (s_set (e_callS (ok_L_twist T) hr rfl rfl takes_ok rfl (pv 1) a_nil rfl) (fun h => ps_set (i := 6) sc_law.nd rfl (.inl rfl) h))
 (ss_cons (m1 := ⟨[], some 1, none⟩) (s_if (b_w (bw_or (b_not (b_tru (e_call (ok_L_truth T) hr rfl rfl takes_ok (a_cons (e_call (ok_is_self T) hr rfl rfl takes_ok (a_cons (e_var (by decide) (pv 2)) (a_cons (e_var (by decide) (pv 6)) a_nil)) rfl) (a_cons (e_cmp (op_in (units65 hr)) (v_in rfl) (e_var (by decide) (pv 6)) (e_var (by decide) (pv 3)) (by rfl)) a_nil)) rfl) rfl)) (bw_or1 (b_cmp op_notBl v_notB (e_call (ok_is_self T) hr rfl rfl takes_ok (a_cons (e_var (by decide) (pv 2)) (a_cons e_non a_nil)) rfl) e_bl (nomark _))))) (ss_one (s_ret e_bl)) ss_nil)
 (ss_cons (m1 := ⟨[], some 1, none⟩) (s_set (e_callS (ok_L_mix T) hr rfl rfl takes_ok rfl (pv 1) (a_cons e_int a_nil) rfl) (fun h => ps_set (i := 7) sc_law.nd rfl (.inl rfl) h))
 (ss_cons (m1 := ⟨[], some 1, none⟩) (s_if (b_not (b_tru (e_callS (ok_L_mixed_holds T) hr rfl rfl takes_ok rfl (pv 1) (a_cons (e_var (by decide) (pv 7)) a_nil) rfl) rfl)) (ss_one (s_ret e_bl)) ss_nil)
 (ss_cons (m1 := ⟨[], some 1, none⟩) (s_set (e_tup (a_cons (e_callS (ok_L_draw T) hr rfl rfl takes_ok rfl (pv 1) (a_cons e_int a_nil) rfl) (a_cons (e_bin op_addX (v_add rfl) e_int (e_callS (ok_L_draw T) hr rfl rfl takes_ok rfl (pv 1) (a_cons e_int a_nil) rfl)) (a_cons e_int a_nil)))) (fun h => ps_set (i := 8) sc_law.nd rfl (.inl rfl) h))
 (ss_cons (m1 := ⟨[], some 1, none⟩) (s_if (b_w (bw_or (b_cmp (op_neD hr.units) (v_ne rfl) (e_call (ok_selves_of T) hr rfl rfl takes_ok (a_cons (e_var (by decide) (pv 8)) a_nil) rfl) (e_lst (a_cons (e_tup (a_cons (e_un un_neg v_neg e_int) (a_cons e_int (a_cons e_int (a_cons (e_un un_neg v_neg e_int) a_nil))))) (a_cons (e_tup (a_cons e_int (a_cons e_int (a_cons e_int (a_cons e_int a_nil))))) a_nil))) (nomark _)) (bw_or (b_cmp op_notN v_notN (e_call (ok_L_told T) hr rfl rfl takes_ok (a_cons (e_var (by decide) (pv 7)) (a_cons e_int a_nil)) rfl) e_non (nomark _)) (bw_or1 (b_cmp op_notN v_notN (e_call (ok_L_told T) hr rfl rfl takes_ok (a_cons (e_var (by decide) (pv 2)) (a_cons e_int a_nil)) rfl) e_non (nomark _)))))) (ss_one (s_ret e_bl)) ss_nil)
 (ss_one (s_ret (e_cmp op_isN v_isN (e_call (ok_L_told T) hr rfl rfl takes_ok (a_cons (e_tup (a_cons e_int (a_cons e_int (a_cons e_int a_nil)))) (a_cons e_int a_nil)) rfl) e_non (nomark _)))))))))))))))))
theorem der_law0 (T : Txt K mg) (f : Addr) (cdv : Value) (A : Around) (outer : List Env) (s : Shared) (H : Hp) (E : XK) (hr : Room 7 (A.deeper (envOfC "law" (defScope s_law) s.heap.objs.size f cdv))) :
  PS (cxOf (L2.CX P w) P w K mg base N_law "law" (defScope s_law) f cdv A outer s H E) ((defBody s_law).headD (.Pass ⟨0, 0, 0, 0⟩)) (tAsg (tCallS (spI K) (fun _ => E0) (tCons (tVar 0) tNil)) (gName 1)) :=
 law_first (ok_L_state T) (hr.mono (by decide)) sc_law.nd rfl (.inl rfl) (pv 0) rfl
end
end M

set_option Elab.async false
set_option linter.all false
set_option maxRecDepth 100000
set_option maxHeartbeats 4000000
namespace M
open PySem PySem.Spec PyProof.Rows L2

/-! ### evaluating denotations: frames without binders -/
@[simp] theorem look_zero (o : Option D) (r : Ev) : look (o :: r) 0 = o := (rfl)
@[simp] theorem look_succ (o : Option D) (r : Ev) (n : Nat) : look (o :: r) (n + 1) = look r n := (rfl)
@[simp] theorem put_zero (o : Option D) (r : Ev) (d : D) : put (o :: r) 0 d = some d :: r := (rfl)
@[simp] theorem put_succ (o : Option D) (r : Ev) (n : Nat) (d : D) : put (o :: r) (n + 1) d = o :: put r n d := (rfl)
@[simp] theorem eVar_ap (i : Nat) (ρ : Ev) (ω : Wd) : eVar i ρ ω = ofO (look ρ i) ω := (rfl)
@[simp] theorem eC_ap (d : D) (ρ : Ev) (ω : Wd) : eC d ρ ω = .ok d ω := (rfl)
def kUn (f : D → Option D) : Res D → Res D
  | .ok a w => ofO (f a) w
  | .exc e w => .exc e w
  | .bad => .bad
@[simp] theorem eUn_ap (f : D → Option D) (d : Ev → MM D) (ρ : Ev) (ω : Wd) : eUn f d ρ ω = kUn f (d ρ ω) := by unfold eUn; cases d ρ ω <;> rfl
@[simp] theorem kUn_ok (f : D → Option D) (a : D) (w : Wd) : kUn f (.ok a w) = ofO (f a) w := (rfl)
@[simp] theorem kUn_exc (f : D → Option D) (e : Ex) (w : Wd) : kUn f (.exc e w) = .exc e w := (rfl)
def kBin2 {α : Type} (f : D → D → Option α) (a : D) : Res D → Res α
  | .ok b w => ofO (f a b) w
  | .exc e w => .exc e w
  | .bad => .bad
def kBin {α : Type} (f : D → D → Option α) (d2 : Ev → MM D) (ρ : Ev) : Res D → Res α
  | .ok a w => kBin2 f a (d2 ρ w)
  | .exc e w => .exc e w
  | .bad => .bad
@[simp] theorem kBin2_ok {α : Type} (f : D → D → Option α) (a b : D) (w : Wd) : kBin2 f a (.ok b w) = ofO (f a b) w := (rfl)
@[simp] theorem kBin2_exc {α : Type} (f : D → D → Option α) (a : D) (e : Ex) (w : Wd) : kBin2 f a (.exc e w) = .exc e w := (rfl)
@[simp] theorem kBin_ok {α : Type} (f : D → D → Option α) (d2 : Ev → MM D) (ρ : Ev) (a : D) (w : Wd) : kBin f d2 ρ (.ok a w) = kBin2 f a (d2 ρ w) := (rfl)
@[simp] theorem kBin_exc {α : Type} (f : D → D → Option α) (d2 : Ev → MM D) (ρ : Ev) (e : Ex) (w : Wd) : kBin f d2 ρ (.exc e w) = .exc e w := (rfl)
@[simp] theorem eBin_ap (f : D → D → Option D) (d1 d2 : Ev → MM D) (ρ : Ev) (ω : Wd) : eBin f d1 d2 ρ ω = kBin f d2 ρ (d1 ρ ω) := by
  unfold eBin
  cases h : d1 ρ ω with
  | ok a w => simp only [bind_ok, kBin_ok]; cases d2 ρ w <;> rfl
  | _ => rfl
@[simp] theorem bBin_ap (f : D → D → Option Bool) (d1 d2 : Ev → MM D) (ρ : Ev) (ω : Wd) : bBin f d1 d2 ρ ω = kBin f d2 ρ (d1 ρ ω) := by
  unfold bBin
  cases h : d1 ρ ω with
  | ok a w => simp only [bind_ok, kBin_ok]; cases d2 ρ w <;> rfl
  | _ => rfl
/-- chains -/
def kCh3 (g : D → D → Option Bool) (d3 : Ev → MM D) (ρ : Ev) (b : D) : Res Bool → Res Bool
  | .ok true w => kBin2 g b (d3 ρ w)
  | r => r
def kCh2 (f g : D → D → Option Bool) (d3 : Ev → MM D) (ρ : Ev) (a : D) : Res D → Res Bool
  | .ok b w => kCh3 g d3 ρ b (ofO (f a b) w)
  | .exc e w => .exc e w
  | .bad => .bad
def kCh (f g : D → D → Option Bool) (d2 d3 : Ev → MM D) (ρ : Ev) : Res D → Res Bool
  | .ok a w => kCh2 f g d3 ρ a (d2 ρ w)
  | .exc e w => .exc e w
  | .bad => .bad
@[simp] theorem kCh3_t (g : D → D → Option Bool) (d3 : Ev → MM D) (ρ : Ev) (b : D) (w : Wd) : kCh3 g d3 ρ b (.ok true w) = kBin2 g b (d3 ρ w) := (rfl)
@[simp] theorem kCh3_f (g : D → D → Option Bool) (d3 : Ev → MM D) (ρ : Ev) (b : D) (w : Wd) : kCh3 g d3 ρ b (.ok false w) = .ok false w := (rfl)
@[simp] theorem kCh2_ok (f g : D → D → Option Bool) (d3 : Ev → MM D) (ρ : Ev) (a b : D) (w : Wd) : kCh2 f g d3 ρ a (.ok b w) = kCh3 g d3 ρ b (ofO (f a b) w) := (rfl)
@[simp] theorem kCh_ok (f g : D → D → Option Bool) (d2 d3 : Ev → MM D) (ρ : Ev) (a : D) (w : Wd) : kCh f g d2 d3 ρ (.ok a w) = kCh2 f g d3 ρ a (d2 ρ w) := (rfl)
@[simp] theorem bChain_ap (f g : D → D → Option Bool) (d1 d2 d3 : Ev → MM D) (ρ : Ev) (ω : Wd) : bChain f g d1 d2 d3 ρ ω = kCh f g d2 d3 ρ (d1 ρ ω) := by
  unfold bChain
  cases h : d1 ρ ω with
  | ok a w =>
    simp only [bind_ok, kCh_ok]
    cases h2 : d2 ρ w with
    | ok b w2 =>
      simp only [bind_ok, kCh2_ok]
      cases h3 : f a b with
      | none => rfl
      | some t => cases t with
        | false => rfl
        | true => simp only [ofO_some, bind_ok, kCh3_t]; cases d3 ρ w2 <;> rfl
    | _ => rfl
  | _ => rfl
def kOfB : Res Bool → Res D
  | .ok b w => .ok (.bool b) w
  | .exc e w => .exc e w
  | .bad => .bad
@[simp] theorem kOfB_ok (b : Bool) (w : Wd) : kOfB (.ok b w) = .ok (.bool b) w := (rfl)
@[simp] theorem eOfB_ap (d : Ev → MM Bool) (ρ : Ev) (ω : Wd) : eOfB d ρ ω = kOfB (d ρ ω) := by unfold eOfB; cases d ρ ω <;> rfl
def kB (f : D → Option Bool) : Res D → Res Bool
  | .ok a w => ofO (f a) w
  | .exc e w => .exc e w
  | .bad => .bad
@[simp] theorem kB_ok (f : D → Option Bool) (a : D) (w : Wd) : kB f (.ok a w) = ofO (f a) w := (rfl)
@[simp] theorem kB_exc (f : D → Option Bool) (e : Ex) (w : Wd) : kB f (.exc e w) = .exc e w := (rfl)
@[simp] theorem bTru_ap (d : Ev → MM D) (ρ : Ev) (ω : Wd) : bTru d ρ ω = kB truth (d ρ ω) := by unfold bTru; cases d ρ ω <;> rfl
@[simp] theorem bOfE_ap (d : Ev → MM D) (ρ : Ev) (ω : Wd) : bOfE d ρ ω = kB asB (d ρ ω) := by unfold bOfE; cases d ρ ω <;> rfl
@[simp] theorem truth_bool (b : Bool) : truth (.bool b) = some b := (rfl)
@[simp] theorem truth_int (b : Int) : truth (.int b) = some (b != 0) := (rfl)
@[simp] theorem truth_none : truth .none = some false := (rfl)
@[simp] theorem truth_list (xs : List D) : truth (.list xs) = some (!xs.isEmpty) := (rfl)
@[simp] theorem truth_tuple (xs : List D) : truth (.tuple xs) = some (!xs.isEmpty) := (rfl)
@[simp] theorem asB_bool (b : Bool) : asB (.bool b) = some b := (rfl)
def kNot : Res Bool → Res Bool
  | .ok b w => .ok (!b) w
  | .exc e w => .exc e w
  | .bad => .bad
@[simp] theorem kNot_ok (b : Bool) (w : Wd) : kNot (.ok b w) = .ok (!b) w := (rfl)
@[simp] theorem bNot_ap (d : Ev → MM Bool) (ρ : Ev) (ω : Wd) : bNot d ρ ω = kNot (d ρ ω) := by unfold bNot; cases d ρ ω <;> rfl
def kAnd (d : Ev → MM Bool) (ρ : Ev) : Res Bool → Res Bool
  | .ok true w => d ρ w
  | r => r
def kOr (d : Ev → MM Bool) (ρ : Ev) : Res Bool → Res Bool
  | .ok false w => d ρ w
  | r => r
@[simp] theorem kAnd_t (d : Ev → MM Bool) (ρ : Ev) (w : Wd) : kAnd d ρ (.ok true w) = d ρ w := (rfl)
@[simp] theorem kAnd_f (d : Ev → MM Bool) (ρ : Ev) (w : Wd) : kAnd d ρ (.ok false w) = .ok false w := (rfl)
@[simp] theorem kOr_t (d : Ev → MM Bool) (ρ : Ev) (w : Wd) : kOr d ρ (.ok true w) = .ok true w := (rfl)
@[simp] theorem kOr_f (d : Ev → MM Bool) (ρ : Ev) (w : Wd) : kOr d ρ (.ok false w) = d ρ w := (rfl)
@[simp] theorem bAnd_ap (d1 d2 : Ev → MM Bool) (ρ : Ev) (ω : Wd) : bAnd d1 d2 ρ ω = kAnd d2 ρ (d1 ρ ω) := by
  unfold bAnd
  cases h : d1 ρ ω with
  | ok b w => cases b <;> rfl
  | _ => rfl
@[simp] theorem bOr_ap (d1 d2 : Ev → MM Bool) (ρ : Ev) (ω : Wd) : bOr d1 d2 ρ ω = kOr d2 ρ (d1 ρ ω) := by
  unfold bOr
  cases h : d1 ρ ω with
  | ok b w => cases b <;> rfl
  | _ => rfl
def kEAnd (d : Ev → MM D) (ρ : Ev) : Res Bool → Res D
  | .ok true w => d ρ w
  | .ok false w => .ok (.bool false) w
  | .exc e w => .exc e w
  | .bad => .bad
def kEOr (d : Ev → MM D) (ρ : Ev) : Res Bool → Res D
  | .ok false w => d ρ w
  | .ok true w => .ok (.bool true) w
  | .exc e w => .exc e w
  | .bad => .bad
@[simp] theorem kEAnd_t (d : Ev → MM D) (ρ : Ev) (w : Wd) : kEAnd d ρ (.ok true w) = d ρ w := (rfl)
@[simp] theorem kEAnd_f (d : Ev → MM D) (ρ : Ev) (w : Wd) : kEAnd d ρ (.ok false w) = .ok (.bool false) w := (rfl)
@[simp] theorem kEOr_f (d : Ev → MM D) (ρ : Ev) (w : Wd) : kEOr d ρ (.ok false w) = d ρ w := (rfl)
@[simp] theorem kEOr_t (d : Ev → MM D) (ρ : Ev) (w : Wd) : kEOr d ρ (.ok true w) = .ok (.bool true) w := (rfl)
@[simp] theorem eAnd_ap (d1 d2 : Ev → MM D) (ρ : Ev) (ω : Wd) : eAnd d1 d2 ρ ω = kEAnd d2 ρ (kB asB (d1 ρ ω)) := by
  unfold eAnd
  cases h : d1 ρ ω with
  | ok a w => simp only [bind_ok, kB_ok]; cases h2 : asB a with
    | none => rfl
    | some b => cases b <;> rfl
  | _ => rfl
@[simp] theorem eOr_ap (d1 d2 : Ev → MM D) (ρ : Ev) (ω : Wd) : eOr d1 d2 ρ ω = kEOr d2 ρ (kB asB (d1 ρ ω)) := by
  unfold eOr
  cases h : d1 ρ ω with
  | ok a w => simp only [bind_ok, kB_ok]; cases h2 : asB a with
    | none => rfl
    | some b => cases b <;> rfl
  | _ => rfl
def kEIf (d1 d2 : Ev → MM D) (ρ : Ev) : Res Bool → Res D
  | .ok true w => d1 ρ w
  | .ok false w => d2 ρ w
  | .exc e w => .exc e w
  | .bad => .bad
@[simp] theorem kEIf_t (d1 d2 : Ev → MM D) (ρ : Ev) (w : Wd) : kEIf d1 d2 ρ (.ok true w) = d1 ρ w := (rfl)
@[simp] theorem kEIf_f (d1 d2 : Ev → MM D) (ρ : Ev) (w : Wd) : kEIf d1 d2 ρ (.ok false w) = d2 ρ w := (rfl)
@[simp] theorem eIf_ap (t : Ev → MM Bool) (d1 d2 : Ev → MM D) (ρ : Ev) (ω : Wd) : eIf t d1 d2 ρ ω = kEIf d1 d2 ρ (t ρ ω) := by
  unfold eIf
  cases h : t ρ ω with
  | ok b w => cases b <;> rfl
  | _ => rfl
@[simp] theorem aNil_ap (ρ : Ev) (ω : Wd) : aNil ρ ω = .ok [] ω := (rfl)
def kCons2 (a : D) : Res (List D) → Res (List D)
  | .ok r w => .ok (a :: r) w
  | .exc e w => .exc e w
  | .bad => .bad
def kCons (ds : Ev → MM (List D)) (ρ : Ev) : Res D → Res (List D)
  | .ok a w => kCons2 a (ds ρ w)
  | .exc e w => .exc e w
  | .bad => .bad
@[simp] theorem kCons2_ok (a : D) (r : List D) (w : Wd) : kCons2 a (.ok r w) = .ok (a :: r) w := (rfl)
@[simp] theorem kCons_ok (ds : Ev → MM (List D)) (ρ : Ev) (a : D) (w : Wd) : kCons ds ρ (.ok a w) = kCons2 a (ds ρ w) := (rfl)
@[simp] theorem kCons2_exc (a : D) (e : Ex) (w : Wd) : kCons2 a (.exc e w) = .exc e w := (rfl)
@[simp] theorem kCons_exc (ds : Ev → MM (List D)) (ρ : Ev) (e : Ex) (w : Wd) : kCons ds ρ (.exc e w) = .exc e w := (rfl)
@[simp] theorem aCons_ap (d : Ev → MM D) (ds : Ev → MM (List D)) (ρ : Ev) (ω : Wd) : aCons d ds ρ ω = kCons ds ρ (d ρ ω) := by
  unfold aCons
  cases h : d ρ ω with
  | ok a w => simp only [bind_ok, kCons_ok]; cases ds ρ w <;> rfl
  | _ => rfl
def kArgs {α β : Type} (f : α → Option β) : Res α → Res β
  | .ok r w => ofO (f r) w
  | .exc e w => .exc e w
  | .bad => .bad
@[simp] theorem kArgs_ok {α β : Type} (f : α → Option β) (r : α) (w : Wd) : kArgs f (.ok r w) = ofO (f r) w := (rfl)
@[simp] theorem eArgs_ap (f : List D → Option D) (ds : Ev → MM (List D)) (ρ : Ev) (ω : Wd) : eArgs f ds ρ ω = kArgs f (ds ρ ω) := by unfold eArgs; cases ds ρ ω <;> rfl
@[simp] theorem iArgs_ap (f : List D → Option (List D)) (ds : Ev → MM (List D)) (ρ : Ev) (ω : Wd) : iArgs f ds ρ ω = kArgs f (ds ρ ω) := by unfold iArgs; cases ds ρ ω <;> rfl
@[simp] theorem eTup_ap (ds : Ev → MM (List D)) (ρ : Ev) (ω : Wd) : eTup ds ρ ω = kArgs (fun r => some (.tuple r)) (ds ρ ω) := by unfold eTup; cases ds ρ ω <;> rfl
@[simp] theorem eLst_ap (ds : Ev → MM (List D)) (ρ : Ev) (ω : Wd) : eLst ds ρ ω = kArgs (fun r => some (.list r)) (ds ρ ω) := by unfold eLst; cases ds ρ ω <;> rfl
@[simp] theorem eOfF_ap (ds : Ev → MM (List D)) (ρ : Ev) (ω : Wd) : eOfF ds ρ ω = kArgs (fun r => some (.list r)) (ds ρ ω) := by unfold eOfF; cases ds ρ ω <;> rfl
def kCall (f : List D → Res D) : Res (List D) → Res D
  | .ok r w => (f r).at w
  | .exc e w => .exc e w
  | .bad => .bad
@[simp] theorem kCall_ok (f : List D → Res D) (r : List D) (w : Wd) : kCall f (.ok r w) = (f r).at w := (rfl)
@[simp] theorem eCall_ap (f : List D → Res D) (ds : Ev → MM (List D)) (ρ : Ev) (ω : Wd) : eCall f ds ρ ω = kCall f (ds ρ ω) := by unfold eCall; cases ds ρ ω <;> rfl
def kCallS (f : List D → MM D) : Res (List D) → Res D
  | .ok r w => f r w
  | .exc e w => .exc e w
  | .bad => .bad
@[simp] theorem kCallS_ok (f : List D → MM D) (r : List D) (w : Wd) : kCallS f (.ok r w) = f r w := (rfl)
@[simp] theorem eCallS_ap (f : List D → MM D) (ds : Ev → MM (List D)) (ρ : Ev) (ω : Wd) : eCallS f ds ρ ω = kCallS f (ds ρ ω) := by unfold eCallS; cases ds ρ ω <;> rfl
def seqOf : D → Option (List D)
  | .list ds => some ds
  | .tuple ds => some ds
  | _ => none
@[simp] theorem seqOf_list (ds : List D) : seqOf (.list ds) = some ds := (rfl)
@[simp] theorem seqOf_tuple (ds : List D) : seqOf (.tuple ds) = some ds := (rfl)
@[simp] theorem iSeq_ap (d : Ev → MM D) (ρ : Ev) (ω : Wd) : iSeq d ρ ω = kArgs seqOf (d ρ ω) := by
  unfold iSeq
  cases d ρ ω with
  | ok v w => cases v <;> rfl
  | _ => rfl

/-! statements -/
@[simp] theorem sNext_ap (ρ : Ev) (ω : Wd) : sNext ρ ω = .ok (.next ρ) ω := (rfl)
@[simp] theorem sBrk_ap (ρ : Ev) (ω : Wd) : sBrk ρ ω = .ok (.brk ρ) ω := (rfl)
@[simp] theorem sCont_ap (ρ : Ev) (ω : Wd) : sCont ρ ω = .ok (.cont ρ) ω := (rfl)
@[simp] theorem sRaise_ap (e : Ex) (ρ : Ev) (ω : Wd) : sRaise e ρ ω = .exc e ω := (rfl)
def kAsg (g : D → Ev → Option Ev) (ρ : Ev) : Res D → Res Fl
  | .ok v w => (ofO (g v ρ) w).bind fun ρ' w => .ok (.next ρ') w
  | .exc e w => .exc e w
  | .bad => .bad
def kNext : Res Ev → Res Fl
  | .ok ρ w => .ok (.next ρ) w
  | .exc e w => .exc e w
  | .bad => .bad
@[simp] theorem kNext_ok (ρ : Ev) (w : Wd) : kNext (.ok ρ w) = .ok (.next ρ) w := (rfl)
@[simp] theorem kAsg_ok (g : D → Ev → Option Ev) (ρ : Ev) (v : D) (w : Wd) : kAsg g ρ (.ok v w) = kNext (ofO (g v ρ) w) := by
  show (ofO (g v ρ) w).bind _ = _
  cases g v ρ <;> rfl
@[simp] theorem kAsg_exc (g : D → Ev → Option Ev) (ρ : Ev) (e : Ex) (w : Wd) : kAsg g ρ (.exc e w) = .exc e w := (rfl)
@[simp] theorem sAsg_ap (d : Ev → MM D) (g : D → Ev → Option Ev) (ρ : Ev) (ω : Wd) : sAsg d g ρ ω = kAsg g ρ (d ρ ω) := by unfold sAsg; cases d ρ ω <;> rfl
@[simp] theorem gN_ap (i : Nat) (d : D) (ρ : Ev) : gN i d ρ = some (put ρ i d) := (rfl)
@[simp] theorem gT_ap (gs : List D → Ev → Option Ev) (ds : List D) (ρ : Ev) : gT gs (.tuple ds) ρ = gs ds ρ := (rfl)
@[simp] theorem gsNil_ap (ρ : Ev) : gsNil [] ρ = some ρ := (rfl)
def kGs (gs : List D → Ev → Option Ev) (ds : List D) : Option Ev → Option Ev
  | some ρ => gs ds ρ
  | none => none
@[simp] theorem kGs_some (gs : List D → Ev → Option Ev) (ds : List D) (ρ : Ev) : kGs gs ds (some ρ) = gs ds ρ := (rfl)
@[simp] theorem gsCons_ap (g : D → Ev → Option Ev) (gs : List D → Ev → Option Ev) (d : D) (ds : List D) (ρ : Ev) : gsCons g gs (d :: ds) ρ = kGs gs ds (g d ρ) := by
  show (g d ρ).bind (gs ds) = _
  cases g d ρ <;> rfl
def kSeq (d2 : Ev → MM Fl) : Res Fl → Res Fl
  | .ok (.next ρ) w => d2 ρ w
  | r => r
@[simp] theorem kSeq_next (d2 : Ev → MM Fl) (ρ : Ev) (w : Wd) : kSeq d2 (.ok (.next ρ) w) = d2 ρ w := (rfl)
@[simp] theorem kSeq_ret (d2 : Ev → MM Fl) (v : D) (w : Wd) : kSeq d2 (.ok (.ret v) w) = .ok (.ret v) w := (rfl)
@[simp] theorem kSeq_brk (d2 : Ev → MM Fl) (ρ : Ev) (w : Wd) : kSeq d2 (.ok (.brk ρ) w) = .ok (.brk ρ) w := (rfl)
@[simp] theorem kSeq_cont (d2 : Ev → MM Fl) (ρ : Ev) (w : Wd) : kSeq d2 (.ok (.cont ρ) w) = .ok (.cont ρ) w := (rfl)
@[simp] theorem kSeq_exc (d2 : Ev → MM Fl) (e : Ex) (w : Wd) : kSeq d2 (.exc e w) = .exc e w := (rfl)
@[simp] theorem sSeq_ap (d1 d2 : Ev → MM Fl) (ρ : Ev) (ω : Wd) : sSeq d1 d2 ρ ω = kSeq d2 (d1 ρ ω) := by
  unfold sSeq
  cases h : d1 ρ ω with
  | ok f w => cases f <;> rfl
  | _ => rfl
def kRet : Res D → Res Fl
  | .ok v w => .ok (.ret v) w
  | .exc e w => .exc e w
  | .bad => .bad
@[simp] theorem kRet_ok (v : D) (w : Wd) : kRet (.ok v w) = .ok (.ret v) w := (rfl)
@[simp] theorem kRet_exc (e : Ex) (w : Wd) : kRet (.exc e w) = .exc e w := (rfl)
@[simp] theorem sRet_ap (d : Ev → MM D) (ρ : Ev) (ω : Wd) : sRet d ρ ω = kRet (d ρ ω) := by unfold sRet; cases d ρ ω <;> rfl
def kExpr (ρ : Ev) : Res D → Res Fl
  | .ok _ w => .ok (.next ρ) w
  | .exc e w => .exc e w
  | .bad => .bad
@[simp] theorem kExpr_ok (ρ : Ev) (v : D) (w : Wd) : kExpr ρ (.ok v w) = .ok (.next ρ) w := (rfl)
@[simp] theorem kExpr_exc (ρ : Ev) (e : Ex) (w : Wd) : kExpr ρ (.exc e w) = .exc e w := (rfl)
@[simp] theorem sExpr_ap (d : Ev → MM D) (ρ : Ev) (ω : Wd) : sExpr d ρ ω = kExpr ρ (d ρ ω) := by unfold sExpr; cases d ρ ω <;> rfl
def kIf (d1 d2 : Ev → MM Fl) (ρ : Ev) : Res Bool → Res Fl
  | .ok true w => d1 ρ w
  | .ok false w => d2 ρ w
  | .exc e w => .exc e w
  | .bad => .bad
@[simp] theorem kIf_t (d1 d2 : Ev → MM Fl) (ρ : Ev) (w : Wd) : kIf d1 d2 ρ (.ok true w) = d1 ρ w := (rfl)
@[simp] theorem kIf_f (d1 d2 : Ev → MM Fl) (ρ : Ev) (w : Wd) : kIf d1 d2 ρ (.ok false w) = d2 ρ w := (rfl)
@[simp] theorem sIf_ap (t : Ev → MM Bool) (d1 d2 : Ev → MM Fl) (ρ : Ev) (ω : Wd) : sIf t d1 d2 ρ ω = kIf d1 d2 ρ (t ρ ω) := by
  unfold sIf
  cases h : t ρ ω with
  | ok b w => cases b <;> rfl
  | _ => rfl
def kPar2 (i j : Nat) (ρ : Ev) (a : D) : Res D → Res Fl
  | .ok b w => .ok (.next (put (put ρ i a) j b)) w
  | .exc e w => .exc e w
  | .bad => .bad
def kPar (i j : Nat) (d2 : Ev → MM D) (ρ : Ev) : Res D → Res Fl
  | .ok a w => kPar2 i j ρ a (d2 ρ w)
  | .exc e w => .exc e w
  | .bad => .bad
@[simp] theorem kPar2_ok (i j : Nat) (ρ : Ev) (a b : D) (w : Wd) : kPar2 i j ρ a (.ok b w) = .ok (.next (put (put ρ i a) j b)) w := (rfl)
@[simp] theorem kPar_ok (i j : Nat) (d2 : Ev → MM D) (ρ : Ev) (a : D) (w : Wd) : kPar i j d2 ρ (.ok a w) = kPar2 i j ρ a (d2 ρ w) := (rfl)
@[simp] theorem sPar_ap (i j : Nat) (d1 d2 : Ev → MM D) (ρ : Ev) (ω : Wd) : sPar i j d1 d2 ρ ω = kPar i j d2 ρ (d1 ρ ω) := by
  unfold sPar
  cases h : d1 ρ ω with
  | ok a w => simp only [bind_ok, kPar_ok]; cases d2 ρ w <;> rfl
  | _ => rfl
def kPar3c (i j k : Nat) (ρ : Ev) (a b : D) : Res D → Res Fl
  | .ok e w => .ok (.next (put (put (put ρ i a) j b) k e)) w
  | .exc e w => .exc e w
  | .bad => .bad
def kPar3b (i j k : Nat) (d3 : Ev → MM D) (ρ : Ev) (a : D) : Res D → Res Fl
  | .ok b w => kPar3c i j k ρ a b (d3 ρ w)
  | .exc e w => .exc e w
  | .bad => .bad
def kPar3 (i j k : Nat) (d2 d3 : Ev → MM D) (ρ : Ev) : Res D → Res Fl
  | .ok a w => kPar3b i j k d3 ρ a (d2 ρ w)
  | .exc e w => .exc e w
  | .bad => .bad
@[simp] theorem kPar3c_ok (i j k : Nat) (ρ : Ev) (a b e : D) (w : Wd) : kPar3c i j k ρ a b (.ok e w) = .ok (.next (put (put (put ρ i a) j b) k e)) w := (rfl)
@[simp] theorem kPar3b_ok (i j k : Nat) (d3 : Ev → MM D) (ρ : Ev) (a b : D) (w : Wd) : kPar3b i j k d3 ρ a (.ok b w) = kPar3c i j k ρ a b (d3 ρ w) := (rfl)
@[simp] theorem kPar3_ok (i j k : Nat) (d2 d3 : Ev → MM D) (ρ : Ev) (a : D) (w : Wd) : kPar3 i j k d2 d3 ρ (.ok a w) = kPar3b i j k d3 ρ a (d2 ρ w) := (rfl)
@[simp] theorem sPar3_ap (i j k : Nat) (d1 d2 d3 : Ev → MM D) (ρ : Ev) (ω : Wd) : sPar3 i j k d1 d2 d3 ρ ω = kPar3 i j k d2 d3 ρ (d1 ρ ω) := by
  unfold sPar3
  cases h : d1 ρ ω with
  | ok a w =>
    simp only [bind_ok, kPar3_ok]
    cases h2 : d2 ρ w with
    | ok b w2 => simp only [bind_ok, kPar3b_ok]; cases d3 ρ w2 <;> rfl
    | _ => rfl
  | _ => rfl
def kAug2 (i : Nat) (ρ : Ev) : Res D → Res Fl
  | .ok v w => .ok (.next (put ρ i v)) w
  | .exc e w => .exc e w
  | .bad => .bad
def kAug (i : Nat) (f : D → D → Option D) (d : Ev → MM D) (ρ : Ev) (ω : Wd) : Option D → Res Fl
  | some a => kAug2 i ρ (kBin2 f a (d ρ ω))
  | none => .bad
@[simp] theorem kAug2_ok (i : Nat) (ρ : Ev) (v : D) (w : Wd) : kAug2 i ρ (.ok v w) = .ok (.next (put ρ i v)) w := (rfl)
@[simp] theorem kAug_some (i : Nat) (f : D → D → Option D) (d : Ev → MM D) (ρ : Ev) (ω : Wd) (a : D) : kAug i f d ρ ω (some a) = kAug2 i ρ (kBin2 f a (d ρ ω)) := (rfl)
@[simp] theorem sAug_ap (i : Nat) (f : D → D → Option D) (d : Ev → MM D) (ρ : Ev) (ω : Wd) : sAug i f d ρ ω = kAug i f d ρ ω (look ρ i) := by
  unfold sAug
  cases h : look ρ i with
  | none => rfl
  | some a =>
    simp only [kAug_some]
    cases h2 : d ρ ω with
    | ok b w => simp only [bind_ok, kBin2_ok]; cases f a b <;> rfl
    | _ => rfl
def kOwn (i : Nat) (ρ : Ev) : Res (List D) → Res Fl
  | .ok ds w => .ok (.next (put ρ i (.list ds))) w
  | .exc e w => .exc e w
  | .bad => .bad
@[simp] theorem kOwn_ok (i : Nat) (ρ : Ev) (ds : List D) (w : Wd) : kOwn i ρ (.ok ds w) = .ok (.next (put ρ i (.list ds))) w := (rfl)
@[simp] theorem sOwn_ap (i : Nat) (d : Ev → MM (List D)) (ρ : Ev) (ω : Wd) : sOwn i d ρ ω = kOwn i ρ (d ρ ω) := by unfold sOwn; cases d ρ ω <;> rfl
/-- for -/
def kForB (g : D → Ev → Option Ev) (db : Ev → MM Fl) (ds : List D) : Res Fl → Res Fl
  | .ok (.next ρ) w => sFor.go g db ds ρ w
  | .ok (.cont ρ) w => sFor.go g db ds ρ w
  | .ok (.brk ρ) w => .ok (.next ρ) w
  | .ok (.ret v) w => .ok (.ret v) w
  | .exc e w => .exc e w
  | .bad => .bad
def kForG (g : D → Ev → Option Ev) (db : Ev → MM Fl) (ds : List D) : Res Ev → Res Fl
  | .ok ρ w => kForB g db ds (db ρ w)
  | .exc e w => .exc e w
  | .bad => .bad
def kFor (g : D → Ev → Option Ev) (db : Ev → MM Fl) (ρ : Ev) : Res (List D) → Res Fl
  | .ok ds w => sFor.go g db ds ρ w
  | .exc e w => .exc e w
  | .bad => .bad
@[simp] theorem kForB_next (g : D → Ev → Option Ev) (db : Ev → MM Fl) (ds : List D) (ρ : Ev) (w : Wd) : kForB g db ds (.ok (.next ρ) w) = sFor.go g db ds ρ w := (rfl)
@[simp] theorem kForB_cont (g : D → Ev → Option Ev) (db : Ev → MM Fl) (ds : List D) (ρ : Ev) (w : Wd) : kForB g db ds (.ok (.cont ρ) w) = sFor.go g db ds ρ w := (rfl)
@[simp] theorem kForB_brk (g : D → Ev → Option Ev) (db : Ev → MM Fl) (ds : List D) (ρ : Ev) (w : Wd) : kForB g db ds (.ok (.brk ρ) w) = .ok (.next ρ) w := (rfl)
@[simp] theorem kForB_ret (g : D → Ev → Option Ev) (db : Ev → MM Fl) (ds : List D) (v : D) (w : Wd) : kForB g db ds (.ok (.ret v) w) = .ok (.ret v) w := (rfl)
@[simp] theorem kForB_exc (g : D → Ev → Option Ev) (db : Ev → MM Fl) (ds : List D) (e : Ex) (w : Wd) : kForB g db ds (.exc e w) = .exc e w := (rfl)
@[simp] theorem kForG_ok (g : D → Ev → Option Ev) (db : Ev → MM Fl) (ds : List D) (ρ : Ev) (w : Wd) : kForG g db ds (.ok ρ w) = kForB g db ds (db ρ w) := (rfl)
@[simp] theorem kFor_ok (g : D → Ev → Option Ev) (db : Ev → MM Fl) (ρ : Ev) (ds : List D) (w : Wd) : kFor g db ρ (.ok ds w) = sFor.go g db ds ρ w := (rfl)
@[simp] theorem sFor_ap (di : Ev → MM (List D)) (g : D → Ev → Option Ev) (db : Ev → MM Fl) (ρ : Ev) (ω : Wd) : sFor di g db ρ ω = kFor g db ρ (di ρ ω) := by unfold sFor; cases di ρ ω <;> rfl
@[simp] theorem go_nil (g : D → Ev → Option Ev) (db : Ev → MM Fl) (ρ : Ev) (w : Wd) : sFor.go g db [] ρ w = .ok (.next ρ) w := (rfl)
theorem go_cons (g : D → Ev → Option Ev) (db : Ev → MM Fl) (d : D) (ds : List D) (ρ : Ev) (w : Wd) : sFor.go g db (d :: ds) ρ w = kForG g db ds (ofO (g d ρ) w) := by
  rw [sFor.go]
  cases h : g d ρ with
  | none => rfl
  | some ρ1 =>
    simp only [ofO_some, bind_ok, kForG_ok]
    cases h2 : db ρ1 w with
    | ok f w2 => cases f <;> rfl
    | _ => rfl
/-- while -/
noncomputable def kWhB (t : Ev → MM Bool) (db : Ev → MM Fl) : Res Fl → Res Fl
  | .ok (.next ρ) w => sWhile t db ρ w
  | .ok (.cont ρ) w => sWhile t db ρ w
  | .ok (.brk ρ) w => .ok (.next ρ) w
  | .ok (.ret v) w => .ok (.ret v) w
  | .exc e w => .exc e w
  | .bad => .bad
noncomputable def kWh (t : Ev → MM Bool) (db : Ev → MM Fl) (ρ : Ev) : Res Bool → Res Fl
  | .ok true w => kWhB t db (db ρ w)
  | .ok false w => .ok (.next ρ) w
  | .exc e w => .exc e w
  | .bad => .bad
@[simp] theorem kWhB_next (t : Ev → MM Bool) (db : Ev → MM Fl) (ρ : Ev) (w : Wd) : kWhB t db (.ok (.next ρ) w) = sWhile t db ρ w := (rfl)
@[simp] theorem kWhB_cont (t : Ev → MM Bool) (db : Ev → MM Fl) (ρ : Ev) (w : Wd) : kWhB t db (.ok (.cont ρ) w) = sWhile t db ρ w := (rfl)
@[simp] theorem kWhB_brk (t : Ev → MM Bool) (db : Ev → MM Fl) (ρ : Ev) (w : Wd) : kWhB t db (.ok (.brk ρ) w) = .ok (.next ρ) w := (rfl)
@[simp] theorem kWhB_ret (t : Ev → MM Bool) (db : Ev → MM Fl) (v : D) (w : Wd) : kWhB t db (.ok (.ret v) w) = .ok (.ret v) w := (rfl)
@[simp] theorem kWhB_exc (t : Ev → MM Bool) (db : Ev → MM Fl) (e : Ex) (w : Wd) : kWhB t db (.exc e w) = .exc e w := (rfl)
@[simp] theorem kWh_t (t : Ev → MM Bool) (db : Ev → MM Fl) (ρ : Ev) (w : Wd) : kWh t db ρ (.ok true w) = kWhB t db (db ρ w) := (rfl)
@[simp] theorem kWh_f (t : Ev → MM Bool) (db : Ev → MM Fl) (ρ : Ev) (w : Wd) : kWh t db ρ (.ok false w) = .ok (.next ρ) w := (rfl)
theorem sWhile_ap (t : Ev → MM Bool) (db : Ev → MM Fl) (ρ : Ev) (ω : Wd) : sWhile t db ρ ω = kWh t db ρ (t ρ ω) := by
  rw [sWhile_unfold]
  cases h : t ρ ω with
  | ok b w => cases b with
    | false => rfl
    | true =>
      simp only [bind_ok, kWh_t]
      cases h2 : db ρ w with
      | ok f w2 => cases f <;> rfl
      | _ => rfl
  | _ => rfl
/-- a while by an invariant over states of one's own -/
theorem while_by {α : Type} {t : Ev → MM Bool} {db : Ev → MM Fl} {w : Wd} (emb : α → Ev) (P : α → Prop) (c : α → Bool) (f : α → α) (μ : α → Nat)
    (ht : ∀ a, P a → t (emb a) w = .ok (c a) w) (hb : ∀ a, P a → c a = true → db (emb a) w = .ok (.next (emb (f a))) w ∧ P (f a) ∧ μ (f a) < μ a) :
    ∀ a, P a → ∃ b, P b ∧ c b = false ∧ sWhile t db (emb a) w = .ok (.next (emb b)) w := by
  have key : ∀ n a, μ a < n → P a → ∃ b, P b ∧ c b = false ∧ sWhile t db (emb a) w = .ok (.next (emb b)) w := by
    intro n
    induction n with
    | zero => intro a h; omega
    | succ n ih =>
      intro a h p
      rw [sWhile_ap, ht a p]
      cases hc : c a with
      | false => exact ⟨a, p, hc, rfl⟩
      | true =>
        obtain ⟨h1, h2, h3⟩ := hb a p hc
        rw [kWh_t, h1, kWhB_next]
        exact ih (f a) (by omega) h2
  exact fun a p => key (μ a + 1) a (by omega) p
/-- a for by an invariant: P of the items still to come -/
theorem for_by {α : Type} {g : D → Ev → Option Ev} {db : Ev → MM Fl} {w : Wd} (emb : α → Ev) (P : List D → α → Prop)
    (hb : ∀ d ds a, P (d :: ds) a → ∃ a' ρ1, g d (emb a) = some ρ1 ∧ (db ρ1 w = .ok (.next (emb a')) w ∨ db ρ1 w = .ok (.cont (emb a')) w) ∧ P ds a') :
    ∀ ds a, P ds a → ∃ b, P [] b ∧ sFor.go g db ds (emb a) w = .ok (.next (emb b)) w := by
  intro ds
  induction ds with
  | nil => intro a p; exact ⟨a, p, rfl⟩
  | cons d ds ih =>
    intro a p
    obtain ⟨a', ρ1, h1, h2, h3⟩ := hb d ds a p
    obtain ⟨b, h4, h5⟩ := ih a' h3
    refine ⟨b, h4, ?_⟩
    rw [go_cons, h1]
    rcases h2 with h2 | h2 <;> simp [h2, h5]
/-! lists of one's own, the borrowed list -/
def kApp (i : Nat) (ρ : Ev) (ds : List D) : Res D → Res Fl
  | .ok v w => if ds.length < sizeLine then .ok (.next (put ρ i (.list (ds ++ [v])))) w else .bad
  | .exc e w => .exc e w
  | .bad => .bad
@[simp] theorem kApp_ok (i : Nat) (ρ : Ev) (ds : List D) (v : D) (w : Wd) : kApp i ρ ds (.ok v w) = if ds.length < sizeLine then .ok (.next (put ρ i (.list (ds ++ [v])))) w else .bad := (rfl)
theorem sApp_ap (i : Nat) (d : Ev → MM D) (ρ : Ev) (ω : Wd) (ds : List D) (h : look ρ i = some (.list ds)) : sApp i d ρ ω = kApp i ρ ds (d ρ ω) := by
  unfold sApp
  rw [h]
  cases d ρ ω <;> rfl
def kExt (i : Nat) (ρ : Ev) (ds : List D) : Res D → Res Fl
  | .ok (.list es) w => if ds.length + es.length ≤ sizeLine then .ok (.next (put ρ i (.list (ds ++ es)))) w else .bad
  | .ok _ _ => .bad
  | .exc e w => .exc e w
  | .bad => .bad
@[simp] theorem kExt_ok (i : Nat) (ρ : Ev) (ds es : List D) (w : Wd) : kExt i ρ ds (.ok (.list es) w) = if ds.length + es.length ≤ sizeLine then .ok (.next (put ρ i (.list (ds ++ es)))) w else .bad := (rfl)
theorem sExt_ap (i : Nat) (d : Ev → MM D) (ρ : Ev) (ω : Wd) (ds : List D) (h : look ρ i = some (.list ds)) : sExt i d ρ ω = kExt i ρ ds (d ρ ω) := by
  unfold sExt
  rw [h]
  cases d ρ ω with
  | ok v w => cases v <;> rfl
  | _ => rfl
def ixB (w : Wd) : D → Res D
  | .int k => ofO (atI w k) w
  | _ => .bad
def kIxB : Res D → Res D
  | .ok k w => ixB w k
  | .exc e w => .exc e w
  | .bad => .bad
@[simp] theorem ixB_int (w : Wd) (k : Int) : ixB w (.int k) = ofO (atI w k) w := (rfl)
@[simp] theorem kIxB_ok (k : D) (w : Wd) : kIxB (.ok k w) = ixB w k := (rfl)
@[simp] theorem eIxB_ap (d : Ev → MM D) (ρ : Ev) (ω : Wd) : eIxB d ρ ω = kIxB (d ρ ω) := by
  unfold eIxB
  cases d ρ ω with
  | ok v w => cases v <;> rfl
  | _ => rfl
def kSetB3 (ρ : Ev) (v : D) (w : Wd) : Option Nat → Res Fl
  | some j => .ok (.next ρ) (w.set j v)
  | none => .bad
def kSetB2 (ρ : Ev) (v : D) : Res D → Res Fl
  | .ok (.int k) w => kSetB3 ρ v w (ixN w.length k)
  | .ok _ _ => .bad
  | .exc e w => .exc e w
  | .bad => .bad
def kSetB (dk : Ev → MM D) (ρ : Ev) : Res D → Res Fl
  | .ok v w => kSetB2 ρ v (dk ρ w)
  | .exc e w => .exc e w
  | .bad => .bad
@[simp] theorem kSetB3_some (ρ : Ev) (v : D) (w : Wd) (j : Nat) : kSetB3 ρ v w (some j) = .ok (.next ρ) (w.set j v) := (rfl)
@[simp] theorem kSetB2_ok (ρ : Ev) (v : D) (k : Int) (w : Wd) : kSetB2 ρ v (.ok (.int k) w) = kSetB3 ρ v w (ixN w.length k) := (rfl)
@[simp] theorem kSetB_ok (dk : Ev → MM D) (ρ : Ev) (v : D) (w : Wd) : kSetB dk ρ (.ok v w) = kSetB2 ρ v (dk ρ w) := (rfl)
@[simp] theorem sSetB_ap (dv dk : Ev → MM D) (ρ : Ev) (ω : Wd) : sSetB dv dk ρ ω = kSetB dk ρ (dv ρ ω) := by
  unfold sSetB
  cases dv ρ ω with
  | ok v w =>
    simp only [bind_ok, kSetB_ok]
    cases dk ρ w with
    | ok k w2 => cases k with
      | int k => simp only [bind_ok, kSetB2_ok]; cases ixN w2.length k <;> rfl
      | _ => rfl
    | _ => rfl
  | _ => rfl
/-! defs -/
@[simp] theorem endF_ret (d : D) (w : Wd) : endF (.ok (.ret d) w) = .ok d w := (rfl)
@[simp] theorem endF_next (ρ : Ev) (w : Wd) : endF (.ok (.next ρ) w) = .ok .none w := (rfl)
@[simp] theorem endF_exc (e : Ex) (w : Wd) : endF (.exc e w) = .exc e w := (rfl)
theorem runF_ap (nl n : Nat) (db : Ev → MM Fl) (ds : List D) (h : ds.length = n) : runF nl n db ds = endF (db (ds.map some ++ List.replicate (nl - n) none) []) := by unfold runF; rw [if_pos h]
theorem runS_ap (nl n : Nat) (db : Ev → MM Fl) (ds : List D) (ω : Wd) (h : ds.length + 1 = n) : runS nl n db ds ω = endF (db (none :: (ds.map some ++ List.replicate (nl - n) none)) ω) := by unfold runS; rw [if_pos h]
@[simp] theorem run0 (nl : Nat) (db : Ev → MM Fl) : runF nl 0 db [] = endF (db (List.replicate (nl - 0) none) []) := (rfl)
@[simp] theorem runS0 (nl : Nat) (db : Ev → MM Fl) (ω : Wd) : runS nl 1 db [] ω = endF (db (none :: List.replicate (nl - 1) none) ω) := (rfl)
@[simp] theorem run1 (nl : Nat) (db : Ev → MM Fl) (a0 : D) : runF nl 1 db [a0] = endF (db (some a0 :: List.replicate (nl - 1) none) []) := (rfl)
@[simp] theorem runS1 (nl : Nat) (db : Ev → MM Fl) (a0 : D) (ω : Wd) : runS nl 2 db [a0] ω = endF (db (none :: some a0 :: List.replicate (nl - 2) none) ω) := (rfl)
@[simp] theorem run2 (nl : Nat) (db : Ev → MM Fl) (a0 a1 : D) : runF nl 2 db [a0, a1] = endF (db (some a0 :: some a1 :: List.replicate (nl - 2) none) []) := (rfl)
@[simp] theorem runS2 (nl : Nat) (db : Ev → MM Fl) (a0 a1 : D) (ω : Wd) : runS nl 3 db [a0, a1] ω = endF (db (none :: some a0 :: some a1 :: List.replicate (nl - 3) none) ω) := (rfl)
@[simp] theorem run3 (nl : Nat) (db : Ev → MM Fl) (a0 a1 a2 : D) : runF nl 3 db [a0, a1, a2] = endF (db (some a0 :: some a1 :: some a2 :: List.replicate (nl - 3) none) []) := (rfl)
@[simp] theorem runS3 (nl : Nat) (db : Ev → MM Fl) (a0 a1 a2 : D) (ω : Wd) : runS nl 4 db [a0, a1, a2] ω = endF (db (none :: some a0 :: some a1 :: some a2 :: List.replicate (nl - 4) none) ω) := (rfl)
@[simp] theorem run4 (nl : Nat) (db : Ev → MM Fl) (a0 a1 a2 a3 : D) : runF nl 4 db [a0, a1, a2, a3] = endF (db (some a0 :: some a1 :: some a2 :: some a3 :: List.replicate (nl - 4) none) []) := (rfl)
@[simp] theorem runS4 (nl : Nat) (db : Ev → MM Fl) (a0 a1 a2 a3 : D) (ω : Wd) : runS nl 5 db [a0, a1, a2, a3] ω = endF (db (none :: some a0 :: some a1 :: some a2 :: some a3 :: List.replicate (nl - 5) none) ω) := (rfl)
@[simp] theorem run5 (nl : Nat) (db : Ev → MM Fl) (a0 a1 a2 a3 a4 : D) : runF nl 5 db [a0, a1, a2, a3, a4] = endF (db (some a0 :: some a1 :: some a2 :: some a3 :: some a4 :: List.replicate (nl - 5) none) []) := (rfl)
@[simp] theorem runS5 (nl : Nat) (db : Ev → MM Fl) (a0 a1 a2 a3 a4 : D) (ω : Wd) : runS nl 6 db [a0, a1, a2, a3, a4] ω = endF (db (none :: some a0 :: some a1 :: some a2 :: some a3 :: some a4 :: List.replicate (nl - 6) none) ω) := (rfl)
@[simp] theorem run6 (nl : Nat) (db : Ev → MM Fl) (a0 a1 a2 a3 a4 a5 : D) : runF nl 6 db [a0, a1, a2, a3, a4, a5] = endF (db (some a0 :: some a1 :: some a2 :: some a3 :: some a4 :: some a5 :: List.replicate (nl - 6) none) []) := (rfl)
@[simp] theorem runS6 (nl : Nat) (db : Ev → MM Fl) (a0 a1 a2 a3 a4 a5 : D) (ω : Wd) : runS nl 7 db [a0, a1, a2, a3, a4, a5] ω = endF (db (none :: some a0 :: some a1 :: some a2 :: some a3 :: some a4 :: some a5 :: List.replicate (nl - 7) none) ω) := (rfl)
/-! values -/
@[simp] theorem vAdd_int (a b : Int) : vAdd (.int a) (.int b) = some (.int (a + b)) := (rfl)
@[simp] theorem vAddI_int (a b : Int) : vAddI (.int a) (.int b) = some (.int (a + b)) := (rfl)
@[simp] theorem vSub_int (a b : Int) : vSub (.int a) (.int b) = some (.int (a - b)) := (rfl)
@[simp] theorem vNeg_int (a : Int) : vNeg (.int a) = some (.int (-a)) := (rfl)
theorem vMul_int {a b : Int} (h : mulOk a b) : vMul (.int a) (.int b) = some (.int (a * b)) := if_pos h
theorem vMulI_int {a b : Int} (h : mulOk a b) : vMulI (.int a) (.int b) = some (.int (a * b)) := if_pos h
theorem vFdiv_int {a b : Int} (h : divOk b) : vFdiv (.int a) (.int b) = some (.int (a.fdiv b)) := if_pos h
theorem vMod_int {a b : Int} (h : b ≠ 0) : vMod (.int a) (.int b) = some (.int (a.fmod b)) := if_neg h
theorem vPow_int {a b : Int} (h : powOk a b) : vPow (.int a) (.int b) = some (.int (a ^ b.toNat)) := if_pos h
@[simp] theorem cLt_int (a b : Int) : cLt (.int a) (.int b) = some (decide (a < b)) := (rfl)
@[simp] theorem cLe_int (a b : Int) : cLe (.int a) (.int b) = some (decide (a ≤ b)) := (rfl)
@[simp] theorem cGt_int (a b : Int) : cGt (.int a) (.int b) = some (decide (b < a)) := (rfl)
@[simp] theorem cGe_int (a b : Int) : cGe (.int a) (.int b) = some (decide (b ≤ a)) := (rfl)
@[simp] theorem shaped_int (a : Int) : SeqAt.shaped (.int a) = true := by simp [SeqAt.shaped, PyData.canLay0, PyData.depth]
@[simp] theorem shaped_bool (a : Bool) : SeqAt.shaped (.bool a) = true := by simp [SeqAt.shaped, PyData.canLay0, PyData.depth]
@[simp] theorem shaped_none : SeqAt.shaped .none = true := by simp [SeqAt.shaped, PyData.canLay0, PyData.depth]
@[simp] theorem vEq_int (a b : Int) : vEq (.int a) (.int b) = some (decide (a = b)) := by
  simp only [vEq, shaped_int, and_self, if_true, PyData.eqv]
  congr 1
@[simp] theorem vNe_int (a b : Int) : vNe (.int a) (.int b) = some (!decide (a = b)) := by
  simp only [vNe, shaped_int, and_self, if_true, PyData.eqv]
  congr 1
@[simp] theorem vIsN_int (a : Int) : vIsN (.int a) .none = some false := (rfl)
@[simp] theorem vIsN_none : vIsN .none .none = some true := (rfl)
@[simp] theorem vIsN_bool (a : Bool) : vIsN (.bool a) .none = some false := (rfl)
@[simp] theorem vIsN_list (a : List D) : vIsN (.list a) .none = some false := (rfl)
@[simp] theorem vIsN_tuple (a : List D) : vIsN (.tuple a) .none = some false := (rfl)
@[simp] theorem vNotN_int (a : Int) : vNotN (.int a) .none = some true := (rfl)
@[simp] theorem vNotN_none : vNotN .none .none = some false := (rfl)
@[simp] theorem vNotN_tuple (a : List D) : vNotN (.tuple a) .none = some true := (rfl)
@[simp] theorem vIsB_bool (a b : Bool) : vIsB (.bool a) (.bool b) = some (a == b) := (rfl)
@[simp] theorem vNotB_bool (a b : Bool) : vNotB (.bool a) (.bool b) = some (!(a == b)) := (rfl)
@[simp] theorem fAbs_int (i : Int) : fAbs [.int i] = some (.int (if i < 0 then -i else i)) := (rfl)
@[simp] theorem fInt_int (i : Int) : fInt [.int i] = some (.int i) := (rfl)
@[simp] theorem fInt_bool (b : Bool) : fInt [.bool b] = some (.int (if b then 1 else 0)) := (rfl)
@[simp] theorem fLen_list (xs : List D) : fLen [.list xs] = some (.int xs.length) := (rfl)
@[simp] theorem fLen_tuple (xs : List D) : fLen [.tuple xs] = some (.int xs.length) := (rfl)
@[simp] theorem fTuple_list (xs : List D) : fTuple [.list xs] = some (.tuple xs) := (rfl)
@[simp] theorem fTuple_tuple (xs : List D) : fTuple [.tuple xs] = some (.tuple xs) := (rfl)
@[simp] theorem fList_list (xs : List D) : fList [.list xs] = some (.list xs) := (rfl)
@[simp] theorem fList_tuple (xs : List D) : fList [.tuple xs] = some (.list xs) := (rfl)
@[simp] theorem fSum_ints (ns : List Int) : fSum [.list (ns.map .int)] = some (.int ns.sum) := by simp [fSum]
@[simp] theorem fSorted_ints (ns : List Int) : fSorted [.list (ns.map .int)] = some (.list ((sortI ns).map .int)) := by simp [fSorted]
theorem vIx_list {xs : List D} {j : Nat} {v : D} (h : xs[j]? = some v) : vIx (.list xs) (.int j) = some v := atI_nat h
theorem vIx_tuple {xs : List D} {j : Nat} {v : D} (h : xs[j]? = some v) : vIx (.tuple xs) (.int j) = some v := atI_nat h
end M

set_option Elab.async false
set_option linter.all false
set_option maxRecDepth 100000
set_option maxHeartbeats 4000000
namespace M
open PySem PySem.Spec PyProof.Rows L2
/-! ### loops, sizes -/
def loop {α : Type} (c : α → Bool) (f : α → α) (n : Nat) : α → α := Nat.rec (motive := fun _ => α → α) (fun a => a) (fun _ ih a => bif c a then ih (f a) else a) n
theorem loop_zero {α : Type} (c : α → Bool) (f : α → α) (a : α) : loop c f 0 a = a := rfl
theorem loop_succ {α : Type} (c : α → Bool) (f : α → α) (n : Nat) (a : α) : loop c f (n + 1) a = bif c a then loop c f n (f a) else a := rfl
/-- a while that is the loop of one's own -/
theorem while_loop {α : Type} {t : Ev → MM Bool} {db : Ev → MM Fl} {w : Wd} (emb : α → Ev) (P : α → Prop) (c : α → Bool) (f : α → α) (μ : α → Nat)
    (ht : ∀ a, P a → t (emb a) w = .ok (c a) w) (hb : ∀ a, P a → c a = true → db (emb a) w = .ok (.next (emb (f a))) w ∧ P (f a) ∧ μ (f a) < μ a) :
    ∀ n a, P a → μ a ≤ n → P (loop c f n a) ∧ c (loop c f n a) = false ∧ sWhile t db (emb a) w = .ok (.next (emb (loop c f n a))) w := by
  intro n
  induction n with
  | zero =>
    intro a p h
    have hc : c a = false := by
      cases hc : c a with
      | false => rfl
      | true => have := (hb a p hc).2.2; omega
    refine ⟨p, hc, ?_⟩
    rw [sWhile_ap, ht a p, hc, loop_zero]; rfl
  | succ n ih =>
    intro a p h
    rw [loop_succ]
    cases hc : c a with
    | false => refine ⟨p, hc, ?_⟩; rw [sWhile_ap, ht a p, hc]; rfl
    | true =>
      obtain ⟨h1, h2, h3⟩ := hb a p hc
      obtain ⟨i1, i2, i3⟩ := ih (f a) h2 (by omega)
      refine ⟨i1, i2, ?_⟩
      rw [sWhile_ap, ht a p, hc, kWh_t, h1, kWhB_next]
      exact i3
def Sm (a : Int) : Prop := a.natAbs < 2 ^ 250
theorem Sm.of {a : Int} (h : -(2 ^ 250) < a) (h2 : a < 2 ^ 250) : Sm a := by unfold Sm; omega
theorem log2_sm {n : Nat} (h : n < 2 ^ 250) : n.log2 < 250 := by
  by_cases z : n = 0
  · subst z; decide
  · exact (Nat.log2_lt z).2 h
theorem mulOk_sm {a b : Int} (ha : Sm a) (hb : Sm b) : mulOk a b := by
  have h1 := log2_sm ha
  have h2 := log2_sm hb
  unfold mulOk
  omega
theorem divOk_sm {a : Int} (h : a ≠ 0) (ha : Sm a) : divOk a := ⟨h, by have := log2_sm ha; omega⟩
theorem mulSm {a b : Int} (ha : -(2 ^ 250) < a ∧ a < 2 ^ 250) (hb : -(2 ^ 250) < b ∧ b < 2 ^ 250) : vMul (.int a) (.int b) = some (.int (a * b)) := vMul_int (mulOk_sm (Sm.of ha.1 ha.2) (Sm.of hb.1 hb.2))
theorem mulISm {a b : Int} (ha : -(2 ^ 250) < a ∧ a < 2 ^ 250) (hb : -(2 ^ 250) < b ∧ b < 2 ^ 250) : vMulI (.int a) (.int b) = some (.int (a * b)) := vMulI_int (mulOk_sm (Sm.of ha.1 ha.2) (Sm.of hb.1 hb.2))
theorem divSm {a b : Int} (hb : 0 < b) (h2 : b < 2 ^ 250) : vFdiv (.int a) (.int b) = some (.int (a / b)) := by
  rw [vFdiv_int (divOk_sm (by omega) (Sm.of (by omega) h2)), Int.fdiv_eq_ediv_of_nonneg _ (by omega)]
theorem modP {a b : Int} (hb : 0 < b) : vMod (.int a) (.int b) = some (.int (a % b)) := by
  rw [vMod_int (by omega), Int.fmod_eq_emod_of_nonneg _ (by omega)]
/-- a for that draws -/
theorem for_st {α : Type} {g : D → Ev → Option Ev} {db : Ev → MM Fl} (emb : α → Ev) (P : List D → α → Wd → Prop)
    (hb : ∀ d ds a w, P (d :: ds) a w → ∃ a' w' ρ1, g d (emb a) = some ρ1 ∧ db ρ1 w = .ok (.next (emb a')) w' ∧ P ds a' w') :
    ∀ ds a w, P ds a w → ∃ b w', P [] b w' ∧ sFor.go g db ds (emb a) w = .ok (.next (emb b)) w' := by
  intro ds
  induction ds with
  | nil => intro a w p; exact ⟨a, w, p, rfl⟩
  | cons d ds ih =>
    intro a w p
    obtain ⟨a', w', ρ1, h1, h2, h3⟩ := hb d ds a w p
    obtain ⟨b, w2, h4, h5⟩ := ih a' w' h3
    refine ⟨b, w2, h4, ?_⟩
    rw [go_cons, h1, ofO_some, kForG_ok, h2, kForB_next, h5]
theorem range1 {j : Int} (h : -(2 ^ 62) ≤ j ∧ j < 2 ^ 62) : iRange [.int j] = some (rangeL 0 1 j.toNat) := if_pos h
theorem range1N {k : Nat} (h : k < 2 ^ 60) : iRange [.int (k : Int)] = some (rangeL 0 1 k) := by rw [range1 (by omega)]; rfl
theorem range2 {i j : Int} (h : -(2 ^ 62) ≤ i ∧ i < 2 ^ 62) (h2 : -(2 ^ 62) ≤ j ∧ j < 2 ^ 62) : iRange [.int i, .int j] = some (rangeL i 1 (j - i).toNat) := if_pos ⟨h, h2⟩
/-! comprehensions -/
@[simp] theorem noX_ok2 {α : Type} (a : α) (w : Wd) : noX (Res.ok a w) = .ok a w := (rfl)
@[simp] theorem bYes_ap (ρ : Ev) (ω : Wd) : bYes ρ ω = .ok true ω := (rfl)
def kLc (g : D → Ev → Option Ev) (t : Ev → MM Bool) (d : Ev → MM D) (ρ0 : Ev) : Res (List D) → Res (List D)
  | .ok xs w => if xs.length ≤ sizeLine then lcGo g t d ρ0 xs w else .bad
  | .exc e w => .exc e w
  | .bad => .bad
@[simp] theorem lcD_ap (di : Ev → MM (List D)) (g : D → Ev → Option Ev) (t : Ev → MM Bool) (d : Ev → MM D) (vs : List Nat) (ρ : Ev) (ω : Wd) : lcD di g t d vs ρ ω = kLc g t d (wipeD ρ vs) (di ρ ω) := by unfold lcD; cases di ρ ω <;> rfl
theorem kLc_ok {g : D → Ev → Option Ev} {t : Ev → MM Bool} {d : Ev → MM D} {ρ0 : Ev} {xs : List D} {w : Wd} (h : xs.length ≤ sizeLine) : kLc g t d ρ0 (.ok xs w) = lcGo g t d ρ0 xs w := if_pos h
@[simp] theorem wipe_nil (ρ : Ev) : wipeD ρ [] = ρ := (rfl)
@[simp] theorem wipe_cons (ρ : Ev) (v : Nat) (vs : List Nat) : wipeD ρ (v :: vs) = (wipeD ρ vs).set v none := (rfl)
theorem lc_eval {α : Type} {g : D → Ev → Option Ev} {t : Ev → MM Bool} {d : Ev → MM D} {ρ0 : Ev} {w : Wd} (enc : α → D) (c : α → Bool) (f : α → D) :
    ∀ xs : List α, (∀ x ∈ xs, ∃ ρ1, g (enc x) ρ0 = some ρ1 ∧ t ρ1 w = .ok (c x) w ∧ (c x = true → d ρ1 w = .ok (f x) w)) → lcGo g t d ρ0 (xs.map enc) w = .ok ((xs.filter c).map f) w := by
  intro xs
  induction xs with
  | nil => intro _; rfl
  | cons x xs ih =>
    intro h
    obtain ⟨ρ1, h1, h2, h3⟩ := h x (by simp)
    have ih := ih fun y hy => h y (by simp [hy])
    rw [List.map_cons, lcGo, h1, ofO_some, bind_ok, h2, noX_ok, bind_ok]
    cases hc : c x with
    | true => simp [h3 hc, ih, hc]
    | false => simp [ih, hc]
theorem lc_map {α : Type} {g : D → Ev → Option Ev} {d : Ev → MM D} {ρ0 : Ev} {w : Wd} (enc : α → D) (f : α → D) (xs : List α) (h : ∀ x ∈ xs, ∃ ρ1, g (enc x) ρ0 = some ρ1 ∧ d ρ1 w = .ok (f x) w) : lcGo g bYes d ρ0 (xs.map enc) w = .ok (xs.map f) w := by
  have := lc_eval (w := w) (g := g) (t := bYes) (d := d) (ρ0 := ρ0) enc (fun _ => true) f xs fun x hx => by
    obtain ⟨ρ1, h1, h2⟩ := h x hx
    exact ⟨ρ1, h1, rfl, fun _ => h2⟩
  rwa [List.filter_eq_self.2 (by simp)] at this
def rngI (lo : Int) : Nat → List Int
  | 0 => []
  | n + 1 => lo :: rngI (lo + 1) n
theorem rangeL_eq : ∀ (n : Nat) (lo : Int), rangeL lo 1 n = (rngI lo n).map .int
  | 0, _ => rfl
  | n + 1, lo => by simp [rangeL, rngI, rangeL_eq n]
theorem rngI_len : ∀ (n : Nat) (lo : Int), (rngI lo n).length = n
  | 0, _ => rfl
  | n + 1, lo => by simp [rngI, rngI_len n]
theorem mem_rngI : ∀ (n : Nat) (lo x : Int), x ∈ rngI lo n ↔ lo ≤ x ∧ x < lo + n
  | 0, lo, x => by simp only [rngI, List.not_mem_nil, false_iff]; omega
  | n + 1, lo, x => by simp only [rngI, List.mem_cons, mem_rngI n]; omega
/-! equality of data -/
def Fl2 (n : Nat) (d : D) : Prop := PyData.canLay0 d = true ∧ PyData.depth d ≤ n
theorem fl_int (n : Nat) (i : Int) : Fl2 n (.int i) := by simp [Fl2, PyData.canLay0, PyData.depth]
theorem fl_bool (n : Nat) (i : Bool) : Fl2 n (.bool i) := by simp [Fl2, PyData.canLay0, PyData.depth]
theorem fl_none (n : Nat) : Fl2 n .none := by simp [Fl2, PyData.canLay0, PyData.depth]
theorem fl_all {n : Nat} : ∀ {xs : List D}, (∀ x ∈ xs, Fl2 n x) → PyData.canLayAll0 xs = true ∧ PyData.depthAll xs ≤ n
  | [], _ => by simp [PyData.canLayAll0, PyData.depthAll]
  | x :: xs, h => by
    have h1 := h x (by simp)
    have h2 := fl_all (xs := xs) fun y hy => h y (by simp [hy])
    simp only [PyData.canLayAll0, PyData.depthAll, Bool.and_eq_true]
    exact ⟨⟨h1.1, h2.1⟩, Nat.max_le.2 ⟨h1.2, h2.2⟩⟩
theorem fl_list {n : Nat} {xs : List D} (h : ∀ x ∈ xs, Fl2 n x) : Fl2 (n + 1) (.list xs) := by
  have := fl_all h
  simp only [Fl2, PyData.canLay0, PyData.depth]
  exact ⟨this.1, by omega⟩
theorem fl_tuple {n : Nat} {xs : List D} (h : ∀ x ∈ xs, Fl2 n x) : Fl2 (n + 1) (.tuple xs) := by
  have := fl_all h
  simp only [Fl2, PyData.canLay0, PyData.depth]
  exact ⟨this.1, by omega⟩
theorem fl_nil {n : Nat} : ∀ x ∈ ([] : List D), Fl2 n x := fun _ h => nomatch h
theorem fl_cons {n : Nat} {d : D} {ds : List D} (h : Fl2 n d) (h2 : ∀ x ∈ ds, Fl2 n x) : ∀ x ∈ d :: ds, Fl2 n x := fun x hx => by
  rcases List.mem_cons.1 hx with rfl | hx
  · exact h
  · exact h2 x hx
theorem fl_map {α : Type} {n : Nat} {f : α → D} {xs : List α} (h : ∀ x, Fl2 n (f x)) : ∀ x ∈ xs.map f, Fl2 n x := fun x hx => by
  obtain ⟨a, _, rfl⟩ := List.mem_map.1 hx
  exact h a
theorem shaped_of {n : Nat} {d : D} (h : Fl2 n d) (hn : n ≤ 64) : SeqAt.shaped d = true := by
  simp [SeqAt.shaped, h.1]; exact Nat.le_trans h.2 hn
theorem eqvAll_map {α : Type} [DecidableEq α] {f : α → D} (h : ∀ a b, PyData.eqv (f a) (f b) = decide (a = b)) : ∀ xs ys : List α, PyData.eqvAll (xs.map f) (ys.map f) = decide (xs = ys)
  | [], [] => by simp [PyData.eqvAll]
  | x :: xs, [] => by simp [PyData.eqvAll]
  | [], y :: ys => by simp [PyData.eqvAll]
  | x :: xs, y :: ys => by simp [PyData.eqvAll, h, eqvAll_map h xs ys]
theorem vEq_of {a b : D} {n : Nat} (ha : Fl2 n a) (hb : Fl2 n b) (hn : n ≤ 64) : vEq a b = some (PyData.eqv a b) := by simp [vEq, shaped_of ha hn, shaped_of hb hn]
theorem vNe_of {a b : D} {n : Nat} (ha : Fl2 n a) (hb : Fl2 n b) (hn : n ≤ 64) : vNe a b = some (!PyData.eqv a b) := by simp [vNe, shaped_of ha hn, shaped_of hb hn]
theorem eqv_int (a b : Int) : PyData.eqv (.int a) (.int b) = decide (a = b) := by simp only [PyData.eqv]; congr 1
theorem eqv_bool (a b : Bool) : PyData.eqv (.bool a) (.bool b) = decide (a = b) := by cases a <;> cases b <;> rfl
theorem fl_ints (xs : List Int) : Fl2 1 (.list (xs.map .int)) := fl_list (fl_map fun i => fl_int 0 i)
theorem eqv_ints (xs ys : List Int) : PyData.eqv (.list (xs.map .int)) (.list (ys.map .int)) = decide (xs = ys) := by
  simp only [PyData.eqv]; exact eqvAll_map eqv_int xs ys
@[simp] theorem vEq_ints (xs ys : List Int) : vEq (.list (xs.map .int)) (.list (ys.map .int)) = some (decide (xs = ys)) := by rw [vEq_of (fl_ints xs) (fl_ints ys) (by omega), eqv_ints]
@[simp] theorem vNe_ints (xs ys : List Int) : vNe (.list (xs.map .int)) (.list (ys.map .int)) = some (!decide (xs = ys)) := by rw [vNe_of (fl_ints xs) (fl_ints ys) (by omega), eqv_ints]
/-- pairs of numbers -/
def encQ (q : Nat × Nat) : D := .tuple [.int (q.1 : Int), .int (q.2 : Int)]
theorem fl_encQ (q : Nat × Nat) : Fl2 1 (encQ q) := fl_tuple (fl_cons (fl_int 0 _) (fl_cons (fl_int 0 _) fl_nil))
theorem eqv_encQ (a b : Nat × Nat) : PyData.eqv (encQ a) (encQ b) = decide (a = b) := by
  obtain ⟨a1, a2⟩ := a
  obtain ⟨b1, b2⟩ := b
  simp [encQ, PyData.eqv, PyData.eqvAll]
  by_cases h1 : a1 = b1 <;> by_cases h2 : a2 = b2 <;> simp [h1, h2] <;> omega
theorem vEq_encQ (xs ys : List (Nat × Nat)) : vEq (.tuple (xs.map encQ)) (.tuple (ys.map encQ)) = some (decide (xs = ys)) := by
  rw [vEq_of (fl_tuple (fl_map fl_encQ)) (fl_tuple (fl_map fl_encQ)) (by omega)]
  simp only [PyData.eqv]
  rw [eqvAll_map eqv_encQ]
theorem fRep_eq {d1 d2 : Ev → MM D} {ρ : Ev} {ω : Wd} {xs : List D} {k : Int} (h1 : d1 ρ ω = .ok (.list xs) ω) (h2 : d2 ρ ω = .ok (.int k) ω) (h0 : 0 ≤ k) (hk : k < 2 ^ 62) (h : xs.length * k.toNat ≤ sizeLine) : fRep d1 d2 ρ ω = .ok (List.replicate k.toNat xs).flatten ω := by
  unfold fRep
  rw [h1, bind_ok, h2, bind_ok]
  exact if_pos ⟨by omega, by omega, h⟩
/-! places -/
@[simp] theorem vIx_t0 (a0 : D) (r : List D) : vIx (.tuple (a0 :: r)) (.int 0) = some a0 := vIx_tuple (j := 0) rfl
@[simp] theorem vIx_l0 (a0 : D) (r : List D) : vIx (.list (a0 :: r)) (.int 0) = some a0 := vIx_list (j := 0) rfl
@[simp] theorem vIx_t1 (a0 a1 : D) (r : List D) : vIx (.tuple (a0 :: a1 :: r)) (.int 1) = some a1 := vIx_tuple (j := 1) rfl
@[simp] theorem vIx_l1 (a0 a1 : D) (r : List D) : vIx (.list (a0 :: a1 :: r)) (.int 1) = some a1 := vIx_list (j := 1) rfl
@[simp] theorem vIx_t2 (a0 a1 a2 : D) (r : List D) : vIx (.tuple (a0 :: a1 :: a2 :: r)) (.int 2) = some a2 := vIx_tuple (j := 2) rfl
@[simp] theorem vIx_l2 (a0 a1 a2 : D) (r : List D) : vIx (.list (a0 :: a1 :: a2 :: r)) (.int 2) = some a2 := vIx_list (j := 2) rfl
@[simp] theorem vIx_t3 (a0 a1 a2 a3 : D) (r : List D) : vIx (.tuple (a0 :: a1 :: a2 :: a3 :: r)) (.int 3) = some a3 := vIx_tuple (j := 3) rfl
@[simp] theorem vIx_l3 (a0 a1 a2 a3 : D) (r : List D) : vIx (.list (a0 :: a1 :: a2 :: a3 :: r)) (.int 3) = some a3 := vIx_list (j := 3) rfl
@[simp] theorem vIx_t4 (a0 a1 a2 a3 a4 : D) (r : List D) : vIx (.tuple (a0 :: a1 :: a2 :: a3 :: a4 :: r)) (.int 4) = some a4 := vIx_tuple (j := 4) rfl
@[simp] theorem vIx_l4 (a0 a1 a2 a3 a4 : D) (r : List D) : vIx (.list (a0 :: a1 :: a2 :: a3 :: a4 :: r)) (.int 4) = some a4 := vIx_list (j := 4) rfl
@[simp] theorem vIx_t5 (a0 a1 a2 a3 a4 a5 : D) (r : List D) : vIx (.tuple (a0 :: a1 :: a2 :: a3 :: a4 :: a5 :: r)) (.int 5) = some a5 := vIx_tuple (j := 5) rfl
@[simp] theorem vIx_l5 (a0 a1 a2 a3 a4 a5 : D) (r : List D) : vIx (.list (a0 :: a1 :: a2 :: a3 :: a4 :: a5 :: r)) (.int 5) = some a5 := vIx_list (j := 5) rfl
/-! ### what a law draws -/
noncomputable def dDraw : List D → MM D := runS 5 2
 ((sSeq (sIf (bBin vEq (eIxB (eC (.int 3))) (eC (.int 0))) (sSeq (sIf (bBin cGe (eIxB (eC (.int 1))) (eArgs fLen (aCons (eIxB (eC (.int 0))) aNil))) (sRet (eC (.int 0))) sNext)
 (sSeq (sAsg (eBin vIx (eIxB (eC (.int 0))) (eIxB (eC (.int 1)))) (gN 2))
 (sSeq (sIf (bBin cLt (eVar 2) (eC (.int 0))) (sAsg (eBin vSub (eUn vNeg (eC (.int 1))) (eVar 2)) (gN 2)) sNext)
 (sSeq (sSetB (eBin vAdd (eIxB (eC (.int 1))) (eC (.int 1))) (eC (.int 1)))
 (sSeq (sSetB (eVar 2) (eC (.int 2)))
 (sSeq (sSetB (eOfB (bBin cGe (eVar 2) (eBin vPow (eC (.int 10)) (eC (.int 18))))) (eC (.int 4)))
 (sSeq (sSetB (eC (.int 6)) (eC (.int 3)))
 (sIf (bTru (eIxB (eC (.int 4)))) (sSetB (eC (.int 60)) (eC (.int 3))) sNext)))))))) sNext)
 (sSeq (sSetB (eBin vSub (eIxB (eC (.int 3))) (eC (.int 1))) (eC (.int 3)))
 (sSeq (sIf (bTru (eIxB (eC (.int 4)))) (sSeq (sAsg (eBin vMod (eArgs fInt (aCons (eIxB (eC (.int 2))) aNil)) (eVar 1)) (gN 3))
 (sSeq (sSetB (eBin vFdiv (eIxB (eC (.int 2))) (eVar 1)) (eC (.int 2)))
 (sSeq (sIf (bBin vEq (eIxB (eC (.int 2))) (eC (.int 0))) (sSetB (eC (.int 0)) (eC (.int 3))) sNext)
 (sRet (eVar 3))))) sNext)
 (sSeq (sAsg (eBin vMod (eArgs fInt (aCons (eBin vAdd (eBin vAdd (eBin vMul (eIxB (eC (.int 2))) (eC (.int 48271))) (eBin vMul (eIxB (eC (.int 3))) (eC (.int 69621)))) (eC (.int 7))) aNil)) (eC (.int 2147483647))) (gN 4))
 (sSeq (sAsg (eBin vMod (eArgs fInt (aCons (eBin vAdd (eBin vAdd (eBin vMul (eVar 4) (eVar 4)) (eBin vMul (eIxB (eC (.int 2))) (eC (.int 31)))) (eIxB (eC (.int 3)))) aNil)) (eC (.int 1000003))) (gN 4))
 (sRet (eBin vMod (eArgs fInt (aCons (eVar 4) aNil)) (eVar 1)))))))))
def stO (ns : List Int) (i c k : Int) (b : Bool) : Wd := [.list (ns.map .int), .int i, .int c, .int k, .bool b, .int 500]
def StOk (ω : Wd) : Prop := ∃ ns i c k b, ω = stO ns i c k b ∧ 0 ≤ i ∧ 0 ≤ c ∧ 0 ≤ k ∧ k ≤ 60 ∧ (b = false → c < 10 ^ 18)
theorem stOk0 (ns : List Int) : StOk (ω0 ns) := ⟨ns, 0, 0, 0, false, rfl, by omega, by omega, by omega, by omega, by omega⟩
@[simp] theorem st0 (ns i c k b) : atI (stO ns i c k b) 0 = some (.list (ns.map .int)) := (rfl)
@[simp] theorem st1 (ns i c k b) : atI (stO ns i c k b) 1 = some (.int i) := (rfl)
@[simp] theorem st2 (ns i c k b) : atI (stO ns i c k b) 2 = some (.int c) := (rfl)
@[simp] theorem st3 (ns i c k b) : atI (stO ns i c k b) 3 = some (.int k) := (rfl)
@[simp] theorem st4 (ns i c k b) : atI (stO ns i c k b) 4 = some (.bool b) := (rfl)
@[simp] theorem stx1 (ns i c k b) : ixN (stO ns i c k b).length 1 = some 1 := (rfl)
@[simp] theorem stx2 (ns i c k b) : ixN (stO ns i c k b).length 2 = some 2 := (rfl)
@[simp] theorem stx3 (ns i c k b) : ixN (stO ns i c k b).length 3 = some 3 := (rfl)
@[simp] theorem stx4 (ns i c k b) : ixN (stO ns i c k b).length 4 = some 4 := (rfl)
@[simp] theorem sts1 (ns i c k b v) : (stO ns i c k b).set 1 (.int v) = stO ns v c k b := (rfl)
@[simp] theorem sts2 (ns i c k b v) : (stO ns i c k b).set 2 (.int v) = stO ns i v k b := (rfl)
@[simp] theorem sts3 (ns i c k b v) : (stO ns i c k b).set 3 (.int v) = stO ns i c v b := (rfl)
@[simp] theorem sts4 (ns i c k b v) : (stO ns i c k b).set 4 (.bool v) = stO ns i c k v := (rfl)
theorem pow18 : vPow (.int 10) (.int 18) = some (.int 1000000000000000000) := by rw [vPow_int (by decide)]; rfl
/-- the second half of it -/
theorem draw2 {ns : List Int} {i c k : Int} {b : Bool} {m : Int} (o : Option D) (hi : 0 ≤ i) (hc : 0 ≤ c) (hk : 1 ≤ k) (hk2 : k ≤ 60) (hb : b = false → c < 10 ^ 18) (hm : 0 < m) (hm2 : m < 2 ^ 250) :
    ∃ r ω', endF ((sSeq (sSetB (eBin vSub (eIxB (eC (.int 3))) (eC (.int 1))) (eC (.int 3)))
 (sSeq (sIf (bTru (eIxB (eC (.int 4)))) (sSeq (sAsg (eBin vMod (eArgs fInt (aCons (eIxB (eC (.int 2))) aNil)) (eVar 1)) (gN 3))
 (sSeq (sSetB (eBin vFdiv (eIxB (eC (.int 2))) (eVar 1)) (eC (.int 2)))
 (sSeq (sIf (bBin vEq (eIxB (eC (.int 2))) (eC (.int 0))) (sSetB (eC (.int 0)) (eC (.int 3))) sNext)
 (sRet (eVar 3))))) sNext)
 (sSeq (sAsg (eBin vMod (eArgs fInt (aCons (eBin vAdd (eBin vAdd (eBin vMul (eIxB (eC (.int 2))) (eC (.int 48271))) (eBin vMul (eIxB (eC (.int 3))) (eC (.int 69621)))) (eC (.int 7))) aNil)) (eC (.int 2147483647))) (gN 4))
 (sSeq (sAsg (eBin vMod (eArgs fInt (aCons (eBin vAdd (eBin vAdd (eBin vMul (eVar 4) (eVar 4)) (eBin vMul (eIxB (eC (.int 2))) (eC (.int 31)))) (eIxB (eC (.int 3)))) aNil)) (eC (.int 1000003))) (gN 4))
 (sRet (eBin vMod (eArgs fInt (aCons (eVar 4) aNil)) (eVar 1))))))) [none, some (.int m), o, none, none] (stO ns i c k b)) = .ok (.int r) ω' ∧ 0 ≤ r ∧ r < m ∧ StOk ω' := by
  cases b with
  | true =>
    refine ⟨c % m, ?_⟩
    have q : 0 ≤ c / m := Int.ediv_nonneg hc (by omega)
    by_cases z : c / m = 0
    · refine ⟨stO ns i 0 0 true, ?_, Int.emod_nonneg _ (by omega), Int.emod_lt_of_pos _ hm, ⟨ns, i, 0, 0, true, rfl, hi, by omega, by omega, by omega, by simp⟩⟩
      simp [modP hm, divSm hm hm2, z]
    · refine ⟨stO ns i (c / m) (k - 1) true, ?_, Int.emod_nonneg _ (by omega), Int.emod_lt_of_pos _ hm, ⟨ns, i, c / m, k - 1, true, rfl, hi, q, by omega, by omega, by simp⟩⟩
      simp [modP hm, divSm hm hm2, z]
  | false =>
    have hc2 := hb rfl
    have m1 : 0 ≤ (c * 48271 + (k - 1) * 69621 + 7) % 2147483647 := Int.emod_nonneg _ (by omega)
    have m2 : (c * 48271 + (k - 1) * 69621 + 7) % 2147483647 < 2147483647 := Int.emod_lt_of_pos _ (by omega)
    generalize hx : (c * 48271 + (k - 1) * 69621 + 7) % 2147483647 = x at m1 m2
    refine ⟨(x * x + c * 31 + (k - 1)) % 1000003 % m, stO ns i c (k - 1) false, ?_, Int.emod_nonneg _ (by omega), Int.emod_lt_of_pos _ hm, ⟨ns, i, c, k - 1, false, rfl, hi, hc, by omega, by omega, hb⟩⟩
    simp [modP hm, modP (b := 2147483647) (by omega), modP (b := 1000003) (by omega), mulSm (a := c) (b := 48271) (by omega) (by omega), mulSm (a := k - 1) (b := 69621) (by omega) (by omega), mulSm (a := c) (b := 31) (by omega) (by omega), hx, mulSm (a := x) (b := x) (by omega) (by omega)]
theorem draw_ok {ω : Wd} (h : StOk ω) {m : Int} (hm : 0 < m) (hm2 : m < 2 ^ 250) : ∃ r ω', dDraw [.int m] ω = .ok (.int r) ω' ∧ 0 ≤ r ∧ r < m ∧ StOk ω' := by
  obtain ⟨ns, i, c, k, b, rfl, hi, hc, hk, hk2, hb⟩ := h
  unfold dDraw
  rw [runS1]
  rw [sSeq_ap, sIf_ap]
  simp only [bBin_ap, eIxB_ap, eC_ap, kIxB_ok, ixB_int, st3, ofO_some, kBin_ok, kBin2_ok, vEq_int]
  by_cases z : k = 0
  · subst z
    simp only [decide_true, kIf_t]
    by_cases hl : (ns.length : Int) ≤ i
    · exact ⟨0, stO ns i c 0 b, by simp [hl], by omega, hm, ⟨ns, i, c, 0, b, rfl, hi, hc, by omega, by omega, hb⟩⟩
    · have hi2 : i.toNat < ns.length := by omega
      have hcell : vIx (.list (ns.map .int)) (.int i) = some (.int (ns[i.toNat])) := by
        have := vIx_list (xs := ns.map PyData.int) (j := i.toNat) (v := .int (ns[i.toNat])) (by simp [hi2])
        rwa [Int.toNat_of_nonneg hi] at this
      generalize hx : ns[i.toNat] = x at hcell
      by_cases hneg : x < 0
      · by_cases hbig : (1000000000000000000 : Int) ≤ -1 - x
        · obtain ⟨r, ω', h1, h2⟩ := draw2 (ns := ns) (i := i + 1) (c := -1 - x) (k := 60) (b := true) (some (.int (-1 - x))) (by omega) (by omega) (by omega) (by omega) (by simp) hm hm2
          refine ⟨r, ω', ?_, h2⟩
          rw [← h1]
          simp [hl, hcell, hneg, pow18, hbig]
        · obtain ⟨r, ω', h1, h2⟩ := draw2 (ns := ns) (i := i + 1) (c := -1 - x) (k := 6) (b := false) (some (.int (-1 - x))) (by omega) (by omega) (by omega) (by omega) (by omega) hm hm2
          refine ⟨r, ω', ?_, h2⟩
          rw [← h1]
          simp [hl, hcell, hneg, pow18, hbig]
      · by_cases hbig : (1000000000000000000 : Int) ≤ x
        · obtain ⟨r, ω', h1, h2⟩ := draw2 (ns := ns) (i := i + 1) (c := x) (k := 60) (b := true) (some (.int x)) (by omega) (by omega) (by omega) (by omega) (by simp) hm hm2
          refine ⟨r, ω', ?_, h2⟩
          rw [← h1]
          simp [hl, hcell, hneg, pow18, hbig]
        · obtain ⟨r, ω', h1, h2⟩ := draw2 (ns := ns) (i := i + 1) (c := x) (k := 6) (b := false) (some (.int x)) (by omega) (by omega) (by omega) (by omega) (by omega) hm hm2
          refine ⟨r, ω', ?_, h2⟩
          rw [← h1]
          simp [hl, hcell, hneg, pow18, hbig]
  · simp only [z, decide_false, kIf_f, sNext_ap, kSeq_next]
    exact draw2 none hi hc (by omega) hk2 hb hm hm2
end M

set_option Elab.async false
set_option linter.all false
set_option maxRecDepth 100000
set_option maxHeartbeats 4000000
namespace M
open PySem PySem.Spec PyProof.Rows L2
/-! ### sizes by themselves -/
class Szc (x : Int) (n : outParam Nat) : Prop where
  h : x.natAbs < 2 ^ n
theorem two_pow_le {m n : Nat} (h : m ≤ n) : 2 ^ m ≤ 2 ^ n := Nat.pow_le_pow_right (by omega) h
instance sz_mul {a b : Int} {m n : Nat} [ha : Szc a m] [hb : Szc b n] : Szc (a * b) (m + n) := ⟨by
  rw [Int.natAbs_mul, Nat.pow_add]
  have h1 := ha.h
  have h2 := hb.h
  exact Nat.mul_lt_mul'' h1 h2⟩
theorem two_pow_add {m n : Nat} : 2 ^ m + 2 ^ n ≤ 2 ^ (max m n + 1) := by
  have h1 := two_pow_le (Nat.le_max_left m n)
  have h2 := two_pow_le (Nat.le_max_right m n)
  rw [Nat.pow_succ]; omega
instance sz_add {a b : Int} {m n : Nat} [ha : Szc a m] [hb : Szc b n] : Szc (a + b) (max m n + 1) := ⟨by
  have h1 := ha.h
  have h2 := hb.h
  have := Int.natAbs_add_le a b
  have := @two_pow_add m n
  omega⟩
instance sz_neg {a : Int} {m : Nat} [ha : Szc a m] : Szc (-a) m := ⟨by rw [Int.natAbs_neg]; exact ha.h⟩
instance sz_sub {a b : Int} {m n : Nat} [ha : Szc a m] [hb : Szc b n] : Szc (a - b) (max m n + 1) := ⟨by
  have h1 := ha.h
  have h2 := hb.h
  have := Int.natAbs_sub_le a b
  have := @two_pow_add m n
  omega⟩
instance : Szc 0 0 := ⟨by decide⟩
instance : Szc 1 1 := ⟨by decide⟩
instance : Szc 2 2 := ⟨by decide⟩
instance : Szc 3 2 := ⟨by decide⟩
instance : Szc 4 3 := ⟨by decide⟩
instance : Szc 5 3 := ⟨by decide⟩
instance : Szc 6 3 := ⟨by decide⟩
instance : Szc 7 3 := ⟨by decide⟩
instance : Szc 8 4 := ⟨by decide⟩
instance : Szc 9 4 := ⟨by decide⟩
instance : Szc 10 4 := ⟨by decide⟩
instance : Szc 11 4 := ⟨by decide⟩
instance : Szc 12 4 := ⟨by decide⟩
instance : Szc 13 4 := ⟨by decide⟩
instance : Szc 14 4 := ⟨by decide⟩
instance : Szc 15 4 := ⟨by decide⟩
instance : Szc 16 5 := ⟨by decide⟩
instance : Szc 17 5 := ⟨by decide⟩
instance : Szc 18 5 := ⟨by decide⟩
instance : Szc 19 5 := ⟨by decide⟩
instance : Szc 20 5 := ⟨by decide⟩
instance : Szc 21 5 := ⟨by decide⟩
instance : Szc 22 5 := ⟨by decide⟩
instance : Szc 23 5 := ⟨by decide⟩
instance : Szc 24 5 := ⟨by decide⟩
instance : Szc 25 5 := ⟨by decide⟩
instance : Szc 26 5 := ⟨by decide⟩
instance : Szc 27 5 := ⟨by decide⟩
instance : Szc 28 5 := ⟨by decide⟩
instance : Szc 29 5 := ⟨by decide⟩
instance : Szc 30 5 := ⟨by decide⟩
instance : Szc 31 5 := ⟨by decide⟩
instance : Szc 32 6 := ⟨by decide⟩
instance : Szc 33 6 := ⟨by decide⟩
instance : Szc 34 6 := ⟨by decide⟩
instance : Szc 35 6 := ⟨by decide⟩
instance : Szc 36 6 := ⟨by decide⟩
instance : Szc 37 6 := ⟨by decide⟩
instance : Szc 38 6 := ⟨by decide⟩
instance : Szc 39 6 := ⟨by decide⟩
instance : Szc 40 6 := ⟨by decide⟩
instance : Szc 41 6 := ⟨by decide⟩
instance : Szc 42 6 := ⟨by decide⟩
instance : Szc 43 6 := ⟨by decide⟩
instance : Szc 44 6 := ⟨by decide⟩
instance : Szc 45 6 := ⟨by decide⟩
instance : Szc 46 6 := ⟨by decide⟩
instance : Szc 47 6 := ⟨by decide⟩
instance : Szc 48 6 := ⟨by decide⟩
instance : Szc 49 6 := ⟨by decide⟩
instance : Szc 50 6 := ⟨by decide⟩
instance : Szc 51 6 := ⟨by decide⟩
instance : Szc 52 6 := ⟨by decide⟩
instance : Szc 53 6 := ⟨by decide⟩
instance : Szc 54 6 := ⟨by decide⟩
instance : Szc 55 6 := ⟨by decide⟩
instance : Szc 56 6 := ⟨by decide⟩
instance : Szc 57 6 := ⟨by decide⟩
instance : Szc 58 6 := ⟨by decide⟩
instance : Szc 59 6 := ⟨by decide⟩
instance : Szc 60 6 := ⟨by decide⟩
instance : Szc 61 6 := ⟨by decide⟩
instance : Szc 62 6 := ⟨by decide⟩
instance : Szc 63 6 := ⟨by decide⟩
instance : Szc 64 7 := ⟨by decide⟩
instance : Szc 99 7 := ⟨by decide⟩
instance : Szc 100 7 := ⟨by decide⟩
instance : Szc 120 7 := ⟨by decide⟩
instance : Szc 121 7 := ⟨by decide⟩
instance : Szc 128 8 := ⟨by decide⟩
instance : Szc 200 8 := ⟨by decide⟩
instance : Szc 256 9 := ⟨by decide⟩
instance : Szc 400 9 := ⟨by decide⟩
instance : Szc 500 9 := ⟨by decide⟩
instance : Szc 512 10 := ⟨by decide⟩
instance : Szc 700 10 := ⟨by decide⟩
instance : Szc 1000 10 := ⟨by decide⟩
instance : Szc 1024 11 := ⟨by decide⟩
instance : Szc 10000 14 := ⟨by decide⟩
instance : Szc 100000 17 := ⟨by decide⟩
instance : Szc 1000000 20 := ⟨by decide⟩
instance : Szc 1000000000000 40 := ⟨by decide⟩
instance sz_div {a b : Int} {m : Nat} [ha : Szc a m] : Szc (a / b) m := ⟨Nat.lt_of_le_of_lt (Int.natAbs_ediv_le_natAbs a b) ha.h⟩
instance sz_mod {a b : Int} {m n : Nat} [ha : Szc a m] [hb : Szc b n] : Szc (a % b) (max m n) := ⟨by
  have h1 := ha.h
  have h2 := hb.h
  by_cases z : b = 0
  · subst z
    rw [Int.emod_zero]
    exact Nat.lt_of_lt_of_le h1 (two_pow_le (Nat.le_max_left m n))
  · have e1 := Int.emod_nonneg a z
    have e2 := Int.emod_lt a z
    have e3 := two_pow_le (Nat.le_max_right m n)
    omega⟩
theorem log2_lt_of {x n : Nat} (h : x < 2 ^ n) : x.log2 ≤ n := by
  by_cases z : x = 0
  · subst z; simp
  · exact Nat.le_of_lt ((Nat.log2_lt z).2 h)
theorem mulOk_c {a b : Int} {m n : Nat} [ha : Szc a m] [hb : Szc b n] (h : m + n < 1000000) : mulOk a b := by
  have h1 := log2_lt_of ha.h
  have h2 := log2_lt_of hb.h
  unfold mulOk
  omega
@[simp] theorem vMul_c {a b : Int} {m n : Nat} [ha : Szc a m] [hb : Szc b n] (h : m + n < 1000000) : vMul (.int a) (.int b) = some (.int (a * b)) := vMul_int (mulOk_c h)
@[simp] theorem vMulI_c {a b : Int} {m n : Nat} [ha : Szc a m] [hb : Szc b n] (h : m + n < 1000000) : vMulI (.int a) (.int b) = some (.int (a * b)) := vMulI_int (mulOk_c h)
theorem vFdiv_c {a b : Int} {n : Nat} [hb : Szc b n] (h : n < 9000) (h0 : b ≠ 0) : vFdiv (.int a) (.int b) = some (.int (a.fdiv b)) := vFdiv_int ⟨h0, by have := log2_lt_of hb.h; omega⟩
theorem sz_of {x : Int} {n : Nat} (h : -(2 ^ n : Nat) < x) (h2 : x < (2 ^ n : Nat)) : Szc x n := ⟨by omega⟩
theorem tst (a b c : Int) (ha : 0 ≤ a ∧ a < 121) (hb : 0 ≤ b ∧ b < 121) : vMul (.int (a * a - 4 * b)) (.int (a * 20 - 7 * b * b)) = some (.int ((a * a - 4 * b) * (a * 20 - 7 * b * b))) := by
  haveI : Szc a 7 := sz_of (by omega) (by omega)
  haveI : Szc b 7 := sz_of (by omega) (by omega)
  simp
end M

set_option Elab.async false
set_option linter.all false
set_option maxRecDepth 100000
set_option maxHeartbeats 4000000
namespace M
open PySem PySem.Spec PyProof.Rows L2
/-! ### more equalities -/
theorem vEq_ti (xs ys : List Int) : vEq (.tuple (xs.map .int)) (.tuple (ys.map .int)) = some (decide (xs = ys)) := by
  rw [vEq_of (fl_tuple (fl_map fun i => fl_int 0 i)) (fl_tuple (fl_map fun i => fl_int 0 i)) (by omega)]
  exact congrArg some (eqvAll_map eqv_int xs ys)
theorem vNe_ti (xs ys : List Int) : vNe (.tuple (xs.map .int)) (.tuple (ys.map .int)) = some (!decide (xs = ys)) := by
  rw [vNe_of (fl_tuple (fl_map fun i => fl_int 0 i)) (fl_tuple (fl_map fun i => fl_int 0 i)) (by omega)]
  exact congrArg (fun z => some (!z)) (eqvAll_map eqv_int xs ys)
@[simp] theorem vEq_t1 (a0 b0 : Int) : vEq (.tuple [.int a0]) (.tuple [.int b0]) = some (decide ([a0] = [b0])) := vEq_ti [a0] [b0]
@[simp] theorem vNe_t1 (a0 b0 : Int) : vNe (.tuple [.int a0]) (.tuple [.int b0]) = some (!decide ([a0] = [b0])) := vNe_ti [a0] [b0]
@[simp] theorem vEq_l1 (a0 b0 : Int) : vEq (.list [.int a0]) (.list [.int b0]) = some (decide ([a0] = [b0])) := vEq_ints [a0] [b0]
@[simp] theorem vNe_l1 (a0 b0 : Int) : vNe (.list [.int a0]) (.list [.int b0]) = some (!decide ([a0] = [b0])) := vNe_ints [a0] [b0]
@[simp] theorem vEq_t2 (a0 a1 b0 b1 : Int) : vEq (.tuple [.int a0, .int a1]) (.tuple [.int b0, .int b1]) = some (decide ([a0, a1] = [b0, b1])) := vEq_ti [a0, a1] [b0, b1]
@[simp] theorem vNe_t2 (a0 a1 b0 b1 : Int) : vNe (.tuple [.int a0, .int a1]) (.tuple [.int b0, .int b1]) = some (!decide ([a0, a1] = [b0, b1])) := vNe_ti [a0, a1] [b0, b1]
@[simp] theorem vEq_l2 (a0 a1 b0 b1 : Int) : vEq (.list [.int a0, .int a1]) (.list [.int b0, .int b1]) = some (decide ([a0, a1] = [b0, b1])) := vEq_ints [a0, a1] [b0, b1]
@[simp] theorem vNe_l2 (a0 a1 b0 b1 : Int) : vNe (.list [.int a0, .int a1]) (.list [.int b0, .int b1]) = some (!decide ([a0, a1] = [b0, b1])) := vNe_ints [a0, a1] [b0, b1]
@[simp] theorem vEq_t3 (a0 a1 a2 b0 b1 b2 : Int) : vEq (.tuple [.int a0, .int a1, .int a2]) (.tuple [.int b0, .int b1, .int b2]) = some (decide ([a0, a1, a2] = [b0, b1, b2])) := vEq_ti [a0, a1, a2] [b0, b1, b2]
@[simp] theorem vNe_t3 (a0 a1 a2 b0 b1 b2 : Int) : vNe (.tuple [.int a0, .int a1, .int a2]) (.tuple [.int b0, .int b1, .int b2]) = some (!decide ([a0, a1, a2] = [b0, b1, b2])) := vNe_ti [a0, a1, a2] [b0, b1, b2]
@[simp] theorem vEq_l3 (a0 a1 a2 b0 b1 b2 : Int) : vEq (.list [.int a0, .int a1, .int a2]) (.list [.int b0, .int b1, .int b2]) = some (decide ([a0, a1, a2] = [b0, b1, b2])) := vEq_ints [a0, a1, a2] [b0, b1, b2]
@[simp] theorem vNe_l3 (a0 a1 a2 b0 b1 b2 : Int) : vNe (.list [.int a0, .int a1, .int a2]) (.list [.int b0, .int b1, .int b2]) = some (!decide ([a0, a1, a2] = [b0, b1, b2])) := vNe_ints [a0, a1, a2] [b0, b1, b2]
@[simp] theorem vEq_t4 (a0 a1 a2 a3 b0 b1 b2 b3 : Int) : vEq (.tuple [.int a0, .int a1, .int a2, .int a3]) (.tuple [.int b0, .int b1, .int b2, .int b3]) = some (decide ([a0, a1, a2, a3] = [b0, b1, b2, b3])) := vEq_ti [a0, a1, a2, a3] [b0, b1, b2, b3]
@[simp] theorem vNe_t4 (a0 a1 a2 a3 b0 b1 b2 b3 : Int) : vNe (.tuple [.int a0, .int a1, .int a2, .int a3]) (.tuple [.int b0, .int b1, .int b2, .int b3]) = some (!decide ([a0, a1, a2, a3] = [b0, b1, b2, b3])) := vNe_ti [a0, a1, a2, a3] [b0, b1, b2, b3]
@[simp] theorem vEq_l4 (a0 a1 a2 a3 b0 b1 b2 b3 : Int) : vEq (.list [.int a0, .int a1, .int a2, .int a3]) (.list [.int b0, .int b1, .int b2, .int b3]) = some (decide ([a0, a1, a2, a3] = [b0, b1, b2, b3])) := vEq_ints [a0, a1, a2, a3] [b0, b1, b2, b3]
@[simp] theorem vNe_l4 (a0 a1 a2 a3 b0 b1 b2 b3 : Int) : vNe (.list [.int a0, .int a1, .int a2, .int a3]) (.list [.int b0, .int b1, .int b2, .int b3]) = some (!decide ([a0, a1, a2, a3] = [b0, b1, b2, b3])) := vNe_ints [a0, a1, a2, a3] [b0, b1, b2, b3]
@[simp] theorem vEq_t5 (a0 a1 a2 a3 a4 b0 b1 b2 b3 b4 : Int) : vEq (.tuple [.int a0, .int a1, .int a2, .int a3, .int a4]) (.tuple [.int b0, .int b1, .int b2, .int b3, .int b4]) = some (decide ([a0, a1, a2, a3, a4] = [b0, b1, b2, b3, b4])) := vEq_ti [a0, a1, a2, a3, a4] [b0, b1, b2, b3, b4]
@[simp] theorem vNe_t5 (a0 a1 a2 a3 a4 b0 b1 b2 b3 b4 : Int) : vNe (.tuple [.int a0, .int a1, .int a2, .int a3, .int a4]) (.tuple [.int b0, .int b1, .int b2, .int b3, .int b4]) = some (!decide ([a0, a1, a2, a3, a4] = [b0, b1, b2, b3, b4])) := vNe_ti [a0, a1, a2, a3, a4] [b0, b1, b2, b3, b4]
@[simp] theorem vEq_l5 (a0 a1 a2 a3 a4 b0 b1 b2 b3 b4 : Int) : vEq (.list [.int a0, .int a1, .int a2, .int a3, .int a4]) (.list [.int b0, .int b1, .int b2, .int b3, .int b4]) = some (decide ([a0, a1, a2, a3, a4] = [b0, b1, b2, b3, b4])) := vEq_ints [a0, a1, a2, a3, a4] [b0, b1, b2, b3, b4]
@[simp] theorem vNe_l5 (a0 a1 a2 a3 a4 b0 b1 b2 b3 b4 : Int) : vNe (.list [.int a0, .int a1, .int a2, .int a3, .int a4]) (.list [.int b0, .int b1, .int b2, .int b3, .int b4]) = some (!decide ([a0, a1, a2, a3, a4] = [b0, b1, b2, b3, b4])) := vNe_ints [a0, a1, a2, a3, a4] [b0, b1, b2, b3, b4]
@[simp] theorem vNe_nn : vNe .none .none = some false := (rfl)
@[simp] theorem vEq_nn : vEq .none .none = some true := (rfl)
@[simp] theorem vEq_ni (i : Int) : vEq .none (.int i) = some false := by simp [vEq, PyData.eqv]
@[simp] theorem vEq_in (i : Int) : vEq (.int i) .none = some false := by simp [vEq, PyData.eqv]
@[simp] theorem vNe_ni (i : Int) : vNe .none (.int i) = some true := by simp [vNe, PyData.eqv]
@[simp] theorem vNe_in (i : Int) : vNe (.int i) .none = some true := by simp [vNe, PyData.eqv]
@[simp] theorem vEq_b (a b : Bool) : vEq (.bool a) (.bool b) = some (decide (a = b)) := by simp [vEq, eqv_bool]
@[simp] theorem vNe_b (a b : Bool) : vNe (.bool a) (.bool b) = some (!decide (a = b)) := by simp [vNe, eqv_bool]
theorem fAll_bools0 (bs : List Bool) : fAll [.list (bs.map .bool)] = some (.bool (bs.all id)) := by simp [fAll]
theorem fAll_cons1 (b : Bool) (bs : List Bool) : fAll [.list ((b :: bs).map .bool)] = some (.bool ((b :: bs).all id)) := fAll_bools0 (b :: bs)
theorem lcGo_nil (g : D → Ev → Option Ev) (t : Ev → MM Bool) (d : Ev → MM D) (ρ0 : Ev) (w : Wd) : lcGo g t d ρ0 [] w = .ok [] w := (rfl)
def kLg3 (v : D) : Res (List D) → Res (List D)
  | .ok ys w => .ok (v :: ys) w
  | .exc e w => .exc e w
  | .bad => .bad
def kLg2 (g : D → Ev → Option Ev) (t : Ev → MM Bool) (d : Ev → MM D) (ρ0 : Ev) (xs : List D) : Res D → Res (List D)
  | .ok v w => kLg3 v (lcGo g t d ρ0 xs w)
  | _ => .bad
def kLg1 (g : D → Ev → Option Ev) (t : Ev → MM Bool) (d : Ev → MM D) (ρ0 ρ1 : Ev) (xs : List D) : Res Bool → Res (List D)
  | .ok true w => kLg2 g t d ρ0 xs (d ρ1 w)
  | .ok false w => lcGo g t d ρ0 xs w
  | _ => .bad
def kLg (g : D → Ev → Option Ev) (t : Ev → MM Bool) (d : Ev → MM D) (ρ0 : Ev) (xs : List D) (w : Wd) : Option Ev → Res (List D)
  | some ρ1 => kLg1 g t d ρ0 ρ1 xs (t ρ1 w)
  | none => .bad
theorem lcGo_cons (g : D → Ev → Option Ev) (t : Ev → MM Bool) (d : Ev → MM D) (ρ0 : Ev) (x : D) (xs : List D) (w : Wd) : lcGo g t d ρ0 (x :: xs) w = kLg g t d ρ0 xs w (g x ρ0) := by
  rw [lcGo]
  cases g x ρ0 with
  | none => rfl
  | some ρ1 =>
    simp only [ofO_some, bind_ok, kLg]
    cases t ρ1 w with
    | ok b w2 =>
      cases b with
      | false => rfl
      | true =>
        simp only [noX_ok, bind_ok, kLg1]
        cases d ρ1 w2 with
        | ok v w3 =>
          simp only [noX_ok, bind_ok, kLg2]
          cases lcGo g t d ρ0 xs w3 <;> rfl
        | _ => rfl
    | _ => rfl
@[simp] theorem kLg_some (g : D → Ev → Option Ev) (t : Ev → MM Bool) (d : Ev → MM D) (ρ0 ρ1 : Ev) (xs : List D) (w : Wd) : kLg g t d ρ0 xs w (some ρ1) = kLg1 g t d ρ0 ρ1 xs (t ρ1 w) := (rfl)
@[simp] theorem kLg1_t (g : D → Ev → Option Ev) (t : Ev → MM Bool) (d : Ev → MM D) (ρ0 ρ1 : Ev) (xs : List D) (w : Wd) : kLg1 g t d ρ0 ρ1 xs (.ok true w) = kLg2 g t d ρ0 xs (d ρ1 w) := (rfl)
@[simp] theorem kLg1_f (g : D → Ev → Option Ev) (t : Ev → MM Bool) (d : Ev → MM D) (ρ0 ρ1 : Ev) (xs : List D) (w : Wd) : kLg1 g t d ρ0 ρ1 xs (.ok false w) = lcGo g t d ρ0 xs w := (rfl)
@[simp] theorem kLg2_ok (g : D → Ev → Option Ev) (t : Ev → MM Bool) (d : Ev → MM D) (ρ0 : Ev) (xs : List D) (v : D) (w : Wd) : kLg2 g t d ρ0 xs (.ok v w) = kLg3 v (lcGo g t d ρ0 xs w) := (rfl)
@[simp] theorem kLg3_ok (v : D) (ys : List D) (w : Wd) : kLg3 v (.ok ys w) = .ok (v :: ys) w := (rfl)
/-! slices -/
def kOp : Res D → Res (Option Int)
  | .ok (.int i) w => .ok (some i) w
  | .ok _ _ => .bad
  | .exc e w => .exc e w
  | .bad => .bad
@[simp] theorem kOp_int (i : Int) (w : Wd) : kOp (.ok (.int i) w) = .ok (some i) w := (rfl)
@[simp] theorem oPart_ap (d : Ev → MM D) (ρ : Ev) (ω : Wd) : oPart d ρ ω = kOp (d ρ ω) := by
  unfold oPart
  cases d ρ ω with
  | ok a w => cases a <;> rfl
  | _ => rfl
@[simp] theorem oNone_ap (ρ : Ev) (ω : Wd) : oNone ρ ω = .ok none ω := (rfl)
def kSl3 (a : D) (l : Option Int) : Res (Option Int) → Res D
  | .ok h w => ofO (vSl a l h) w
  | .exc e w => .exc e w
  | .bad => .bad
def kSl2 (dh : Ev → MM (Option Int)) (ρ : Ev) (a : D) : Res (Option Int) → Res D
  | .ok l w => kSl3 a l (dh ρ w)
  | .exc e w => .exc e w
  | .bad => .bad
def kSl (dl dh : Ev → MM (Option Int)) (ρ : Ev) : Res D → Res D
  | .ok a w => kSl2 dh ρ a (dl ρ w)
  | .exc e w => .exc e w
  | .bad => .bad
@[simp] theorem kSl3_ok (a : D) (l h : Option Int) (w : Wd) : kSl3 a l (.ok h w) = ofO (vSl a l h) w := (rfl)
@[simp] theorem kSl2_ok (dh : Ev → MM (Option Int)) (ρ : Ev) (a : D) (l : Option Int) (w : Wd) : kSl2 dh ρ a (.ok l w) = kSl3 a l (dh ρ w) := (rfl)
@[simp] theorem kSl_ok (dl dh : Ev → MM (Option Int)) (ρ : Ev) (a : D) (w : Wd) : kSl dl dh ρ (.ok a w) = kSl2 dh ρ a (dl ρ w) := (rfl)
@[simp] theorem eSl_ap (d : Ev → MM D) (dl dh : Ev → MM (Option Int)) (ρ : Ev) (ω : Wd) : eSl d dl dh ρ ω = kSl dl dh ρ (d ρ ω) := by
  unfold eSl
  cases d ρ ω with
  | ok a w =>
    simp only [bind_ok, kSl_ok]
    cases dl ρ w with
    | ok l w =>
      simp only [bind_ok, kSl2_ok]
      cases dh ρ w <;> rfl
    | _ => rfl
  | _ => rfl
@[simp] theorem vSl_tuple (xs : List D) (lo hi : Option Int) : vSl (.tuple xs) lo hi = some (.tuple (cutD xs lo hi)) := (rfl)
@[simp] theorem vSl_list (xs : List D) (lo hi : Option Int) : vSl (.list xs) lo hi = some (.list (cutD xs lo hi)) := (rfl)
@[simp] theorem cut_h2 (x y : D) : cutD [x, y] none (some 2) = [x, y] := (rfl)
@[simp] theorem cut_h23 (x y z : D) : cutD [x, y, z] none (some 2) = [x, y] := (rfl)
@[simp] theorem cut_h24 (x y z u : D) : cutD [x, y, z, u] none (some 2) = [x, y] := (rfl)
@[simp] theorem cut_h34 (x y z u : D) : cutD [x, y, z, u] none (some 3) = [x, y, z] := (rfl)
theorem shaped_str {x : PySem.Str} : SeqAt.shaped (.str x) = PyData.canLay0 (.str x) := by simp [SeqAt.shaped, PyData.depth]
@[simp] theorem kLc_l0 (g : D → Ev → Option Ev) (t : Ev → MM Bool) (d : Ev → MM D) (ρ0 : Ev) (w : Wd) : kLc g t d ρ0 (.ok [] w) = lcGo g t d ρ0 [] w := kLc_ok (by show 0 ≤ 16777216; omega)
@[simp] theorem kLc_l1 (g : D → Ev → Option Ev) (t : Ev → MM Bool) (d : Ev → MM D) (ρ0 : Ev) (a0 : D) (w : Wd) : kLc g t d ρ0 (.ok [a0] w) = lcGo g t d ρ0 [a0] w := kLc_ok (by show 1 ≤ 16777216; omega)
@[simp] theorem kLc_l2 (g : D → Ev → Option Ev) (t : Ev → MM Bool) (d : Ev → MM D) (ρ0 : Ev) (a0 a1 : D) (w : Wd) : kLc g t d ρ0 (.ok [a0, a1] w) = lcGo g t d ρ0 [a0, a1] w := kLc_ok (by show 2 ≤ 16777216; omega)
@[simp] theorem kLc_l3 (g : D → Ev → Option Ev) (t : Ev → MM Bool) (d : Ev → MM D) (ρ0 : Ev) (a0 a1 a2 : D) (w : Wd) : kLc g t d ρ0 (.ok [a0, a1, a2] w) = lcGo g t d ρ0 [a0, a1, a2] w := kLc_ok (by show 3 ≤ 16777216; omega)
@[simp] theorem kLc_l4 (g : D → Ev → Option Ev) (t : Ev → MM Bool) (d : Ev → MM D) (ρ0 : Ev) (a0 a1 a2 a3 : D) (w : Wd) : kLc g t d ρ0 (.ok [a0, a1, a2, a3] w) = lcGo g t d ρ0 [a0, a1, a2, a3] w := kLc_ok (by show 4 ≤ 16777216; omega)
@[simp] theorem kLc_l5 (g : D → Ev → Option Ev) (t : Ev → MM Bool) (d : Ev → MM D) (ρ0 : Ev) (a0 a1 a2 a3 a4 : D) (w : Wd) : kLc g t d ρ0 (.ok [a0, a1, a2, a3, a4] w) = lcGo g t d ρ0 [a0, a1, a2, a3, a4] w := kLc_ok (by show 5 ≤ 16777216; omega)
@[simp] theorem kLc_l6 (g : D → Ev → Option Ev) (t : Ev → MM Bool) (d : Ev → MM D) (ρ0 : Ev) (a0 a1 a2 a3 a4 a5 : D) (w : Wd) : kLc g t d ρ0 (.ok [a0, a1, a2, a3, a4, a5] w) = lcGo g t d ρ0 [a0, a1, a2, a3, a4, a5] w := kLc_ok (by show 6 ≤ 16777216; omega)
@[simp] theorem kLc_l7 (g : D → Ev → Option Ev) (t : Ev → MM Bool) (d : Ev → MM D) (ρ0 : Ev) (a0 a1 a2 a3 a4 a5 a6 : D) (w : Wd) : kLc g t d ρ0 (.ok [a0, a1, a2, a3, a4, a5, a6] w) = lcGo g t d ρ0 [a0, a1, a2, a3, a4, a5, a6] w := kLc_ok (by show 7 ≤ 16777216; omega)
@[simp] theorem kLc_l8 (g : D → Ev → Option Ev) (t : Ev → MM Bool) (d : Ev → MM D) (ρ0 : Ev) (a0 a1 a2 a3 a4 a5 a6 a7 : D) (w : Wd) : kLc g t d ρ0 (.ok [a0, a1, a2, a3, a4, a5, a6, a7] w) = lcGo g t d ρ0 [a0, a1, a2, a3, a4, a5, a6, a7] w := kLc_ok (by show 8 ≤ 16777216; omega)
@[simp] theorem kLc_l9 (g : D → Ev → Option Ev) (t : Ev → MM Bool) (d : Ev → MM D) (ρ0 : Ev) (a0 a1 a2 a3 a4 a5 a6 a7 a8 : D) (w : Wd) : kLc g t d ρ0 (.ok [a0, a1, a2, a3, a4, a5, a6, a7, a8] w) = lcGo g t d ρ0 [a0, a1, a2, a3, a4, a5, a6, a7, a8] w := kLc_ok (by show 9 ≤ 16777216; omega)
@[simp] theorem kLc_l10 (g : D → Ev → Option Ev) (t : Ev → MM Bool) (d : Ev → MM D) (ρ0 : Ev) (a0 a1 a2 a3 a4 a5 a6 a7 a8 a9 : D) (w : Wd) : kLc g t d ρ0 (.ok [a0, a1, a2, a3, a4, a5, a6, a7, a8, a9] w) = lcGo g t d ρ0 [a0, a1, a2, a3, a4, a5, a6, a7, a8, a9] w := kLc_ok (by show 10 ≤ 16777216; omega)
/-! chains of three -/
def kC3 (k : Bool → Wd → Res D) : Res Bool → Res D
  | .ok t w => k t w
  | .exc e w => .exc e w
  | .bad => .bad
@[simp] theorem kC3_ok (k : Bool → Wd → Res D) (t : Bool) (w : Wd) : kC3 k (.ok t w) = k t w := (rfl)
def kCc (h : D → D → Option Bool) (z : D) : Res D → Res D
  | .ok u w => kOfB (ofO (h z u) w)
  | .exc e w => .exc e w
  | .bad => .bad
@[simp] theorem kCc_ok (h : D → D → Option Bool) (z u : D) (w : Wd) : kCc h z (.ok u w) = kOfB (ofO (h z u) w) := (rfl)
@[simp] theorem ch3c_f (h : D → D → Option Bool) (d4 : Ev → MM D) (ρ : Ev) (z : D) (w : Wd) : ch3c h d4 ρ z false w = .ok (.bool false) w := (rfl)
@[simp] theorem ch3c_t (h : D → D → Option Bool) (d4 : Ev → MM D) (ρ : Ev) (z : D) (w : Wd) : ch3c h d4 ρ z true w = kCc h z (d4 ρ w) := by
  show (d4 ρ w).bind _ = _
  cases d4 ρ w with
  | ok u w2 => simp only [bind_ok, kCc_ok]; cases h z u <;> rfl
  | _ => rfl
def kCb (g h : D → D → Option Bool) (d4 : Ev → MM D) (ρ : Ev) (b : D) : Res D → Res D
  | .ok z w => kC3 (ch3c h d4 ρ z) (ofO (g b z) w)
  | .exc e w => .exc e w
  | .bad => .bad
@[simp] theorem kCb_ok (g h : D → D → Option Bool) (d4 : Ev → MM D) (ρ : Ev) (b z : D) (w : Wd) : kCb g h d4 ρ b (.ok z w) = kC3 (ch3c h d4 ρ z) (ofO (g b z) w) := (rfl)
@[simp] theorem ch3b_f (g h : D → D → Option Bool) (d3 d4 : Ev → MM D) (ρ : Ev) (b : D) (w : Wd) : ch3b g h d3 d4 ρ b false w = .ok (.bool false) w := (rfl)
@[simp] theorem ch3b_t (g h : D → D → Option Bool) (d3 d4 : Ev → MM D) (ρ : Ev) (b : D) (w : Wd) : ch3b g h d3 d4 ρ b true w = kCb g h d4 ρ b (d3 ρ w) := by
  show (d3 ρ w).bind _ = _
  cases d3 ρ w with
  | ok z w2 => simp only [bind_ok, kCb_ok]; cases g b z <;> rfl
  | _ => rfl
def kCa2 (f g h : D → D → Option Bool) (d3 d4 : Ev → MM D) (ρ : Ev) (a : D) : Res D → Res D
  | .ok b w => kC3 (ch3b g h d3 d4 ρ b) (ofO (f a b) w)
  | .exc e w => .exc e w
  | .bad => .bad
def kCa (f g h : D → D → Option Bool) (d2 d3 d4 : Ev → MM D) (ρ : Ev) : Res D → Res D
  | .ok a w => kCa2 f g h d3 d4 ρ a (d2 ρ w)
  | .exc e w => .exc e w
  | .bad => .bad
@[simp] theorem kCa2_ok (f g h : D → D → Option Bool) (d3 d4 : Ev → MM D) (ρ : Ev) (a b : D) (w : Wd) : kCa2 f g h d3 d4 ρ a (.ok b w) = kC3 (ch3b g h d3 d4 ρ b) (ofO (f a b) w) := (rfl)
@[simp] theorem kCa_ok (f g h : D → D → Option Bool) (d2 d3 d4 : Ev → MM D) (ρ : Ev) (a : D) (w : Wd) : kCa f g h d2 d3 d4 ρ (.ok a w) = kCa2 f g h d3 d4 ρ a (d2 ρ w) := (rfl)
@[simp] theorem eChain3_ap (f g h : D → D → Option Bool) (d1 d2 d3 d4 : Ev → MM D) (ρ : Ev) (ω : Wd) : eChain3 f g h d1 d2 d3 d4 ρ ω = kCa f g h d2 d3 d4 ρ (d1 ρ ω) := by
  unfold eChain3
  cases d1 ρ ω with
  | ok a w =>
    simp only [bind_ok, kCa_ok]
    cases d2 ρ w with
    | ok b w => simp only [bind_ok, kCa2_ok]; cases f a b <;> rfl
    | _ => rfl
  | _ => rfl
end M

set_option Elab.async false
set_option linter.all false
set_option maxRecDepth 100000
set_option maxHeartbeats 4000000
namespace M
/-! ### forms -/
@[ext] structure Fm where
  a : Int
  b : Int
  c : Int
deriving DecidableEq
@[ext] structure Mt where
  p : Int
  q : Int
  r : Int
  s : Int
deriving DecidableEq
def Fm.at (f : Fm) (x y : Int) : Int := f.a * x * x + f.b * x * y + f.c * y * y
def Fm.turn (f : Fm) (m : Mt) : Fm := ⟨f.at m.p m.r, 2 * f.a * m.p * m.q + f.b * (m.p * m.s + m.q * m.r) + 2 * f.c * m.r * m.s, f.at m.q m.s⟩
def Fm.disc (f : Fm) : Int := f.b * f.b - 4 * f.a * f.c
def Mt.mul (x y : Mt) : Mt := ⟨x.p * y.p + x.q * y.r, x.p * y.q + x.q * y.s, x.r * y.p + x.s * y.r, x.r * y.q + x.s * y.s⟩
def Mt.det (x : Mt) : Int := x.p * x.s - x.q * x.r
def Mt.inv (x : Mt) : Mt := ⟨x.s, -x.q, -x.r, x.p⟩
def Mt.one : Mt := ⟨1, 0, 0, 1⟩
theorem Fm.turn_mul (f : Fm) (x y : Mt) : (f.turn x).turn y = f.turn (x.mul y) := by
  ext <;> simp only [Fm.turn, Fm.at, Mt.mul] <;> grind
theorem Fm.turn_one (f : Fm) : f.turn Mt.one = f := by
  ext <;> simp only [Fm.turn, Fm.at, Mt.one] <;> grind
theorem Mt.det_mul (x y : Mt) : (x.mul y).det = x.det * y.det := by simp only [Mt.mul, Mt.det]; grind
theorem Mt.mul_inv {x : Mt} (h : x.det = 1) : x.mul x.inv = Mt.one := by
  unfold Mt.det at h
  ext <;> simp only [Mt.mul, Mt.inv, Mt.one] <;> grind
theorem Mt.det_inv (x : Mt) : x.inv.det = x.det := by simp only [Mt.inv, Mt.det]; grind
theorem Fm.turn_back (f : Fm) {x : Mt} (h : x.det = 1) : (f.turn x).turn x.inv = f := by rw [Fm.turn_mul, Mt.mul_inv h, Fm.turn_one]
theorem Fm.disc_turn (f : Fm) (x : Mt) : (f.turn x).disc = f.disc * x.det * x.det := by
  simp only [Fm.disc, Fm.turn, Fm.at, Mt.det]; grind
theorem Fm.turn_at (f : Fm) (m : Mt) (x y : Int) : (f.turn m).at x y = f.at (m.p * x + m.q * y) (m.r * x + m.s * y) := by
  simp only [Fm.turn, Fm.at]; grind
/-- reduced -/
structure Fm.Red (f : Fm) : Prop where
  b1 : -f.a < f.b
  b2 : f.b ≤ f.a
  ac : f.a ≤ f.c
  eq : f.a = f.c → 0 ≤ f.b
theorem Fm.Red.pos {f : Fm} (h : f.Red) : 0 < f.a := by have := h.b1; have := h.b2; omega
theorem prod_abs (x y : Int) : x * y ≤ x.natAbs * y.natAbs ∧ -(x.natAbs * y.natAbs : Int) ≤ x * y := by
  have : ((x * y).natAbs : Int) = x.natAbs * y.natAbs := by rw [Int.natAbs_mul]; simp
  omega
theorem Fm.Red.value {f : Fm} (h : f.Red) {x y : Int} (hy : y ≠ 0) : f.c ≤ f.at x y := by
  obtain ⟨b1, b2, ac, _⟩ := h
  have ha : 0 < f.a := by omega
  have hu : (0 : Int) ≤ x.natAbs := by omega
  have hv : (1 : Int) ≤ y.natAbs := by omega
  have hbv : -(f.a * (x.natAbs * y.natAbs)) ≤ f.b * (x * y) := by
    have e := prod_abs f.b (x * y)
    have e2 : ((x * y).natAbs : Int) = x.natAbs * y.natAbs := by rw [Int.natAbs_mul]; simp
    rw [e2] at e
    have hb : (f.b.natAbs : Int) ≤ f.a := by omega
    have := Int.mul_le_mul_of_nonneg_right hb (Int.mul_nonneg hu (by omega : (0 : Int) ≤ y.natAbs))
    omega
  have xx : x * x = (x.natAbs : Int) * x.natAbs := by rw [← Int.natCast_mul, Int.natAbs_mul_self]
  have yy : y * y = (y.natAbs : Int) * y.natAbs := by rw [← Int.natCast_mul, Int.natAbs_mul_self]
  have e : f.at x y = f.a * (x * x) + f.b * (x * y) + f.c * (y * y) := by simp only [Fm.at]; grind
  rw [e, xx, yy]
  generalize (x.natAbs : Int) = u at *
  generalize (y.natAbs : Int) = v at *
  have vv : 1 ≤ v * v := by have := Int.mul_le_mul hv hv (by omega) (by omega); omega
  rcases Int.le_total v u with z | z
  · have h1 := Int.mul_nonneg (Int.le_of_lt ha) (Int.mul_nonneg hu (show 0 ≤ u - v by omega))
    have h2 := Int.mul_le_mul_of_nonneg_left vv (show 0 ≤ f.c by omega)
    have e3 : f.a * (u * u) = f.a * (u * (u - v)) + f.a * (u * v) := by grind
    omega
  · have h1 := Int.mul_le_mul_of_nonneg_right ac (Int.mul_nonneg hu (show 0 ≤ v - u by omega))
    have e3 : f.a * (u * v) = f.a * (u * u) + f.a * (u * (v - u)) := by grind
    have e4 : f.c * (v * v) = f.c * (u * (v - u)) + f.c * (v * (v - u) + u * u) := by grind
    have h3 : 1 ≤ v * (v - u) + u * u := by
      rcases (show u < v ∨ v ≤ u by omega) with w | w
      · have := Int.mul_le_mul hv (show 1 ≤ v - u by omega) (by omega) (by omega)
        have := Int.mul_nonneg hu hu
        omega
      · have e5 : u = v := by omega
        subst e5
        have : u - u = 0 := by omega
        rw [this]; omega
    have h2 := Int.mul_le_mul_of_nonneg_left h3 (show 0 ≤ f.c by omega)
    omega
theorem unit_or {p s : Int} (h : p * s = 1) : (p = 1 ∧ s = 1) ∨ (p = -1 ∧ s = -1) := by
  have e2 : p.natAbs * s.natAbs = 1 := by rw [← Int.natAbs_mul, h]; rfl
  have e3 := Nat.dvd_one.1 ⟨_, e2.symm⟩
  have e4 : p = 1 ∨ p = -1 := by omega
  rcases e4 with rfl | rfl <;> omega
theorem sq_inj {x y : Int} (hx : 0 ≤ x) (hy : 0 ≤ y) (h : x * x = y * y) : x = y := by
  rcases (show x < y ∨ y < x ∨ x = y by omega) with z | z | z
  · have h1 := Int.mul_le_mul_of_nonneg_left (show x + 1 ≤ y by omega) hx
    have h2 := Int.mul_le_mul_of_nonneg_right (show x + 1 ≤ y by omega) hy
    have e1 : x * (x + 1) = x * x + x := by grind
    have e2 : (x + 1) * y = x * y + y := by grind
    omega
  · have h1 := Int.mul_le_mul_of_nonneg_left (show y + 1 ≤ x by omega) hy
    have h2 := Int.mul_le_mul_of_nonneg_right (show y + 1 ≤ x by omega) hx
    have e1 : y * (y + 1) = y * y + y := by grind
    have e2 : (y + 1) * x = x * y + x := by grind
    have e3 : y * x = x * y := Int.mul_comm _ _
    omega
  · exact z
theorem Fm.Red.uniq {f : Fm} {m : Mt} (hf : f.Red) (hg : (f.turn m).Red) (hd : m.det = 1) : f.turn m = f := by
  by_cases hr : m.r = 0
  · have ps : m.p * m.s = 1 := by unfold Mt.det at hd; rw [hr] at hd; omega
    have ha := hf.pos
    have bb : (f.turn m).b = f.b + 2 * (f.a * (m.p * m.q)) := by
      have : (f.turn m).b = f.b * (m.p * m.s) + 2 * (f.a * (m.p * m.q)) := by simp only [Fm.turn, hr]; grind
      rw [this, ps]; omega
    have aa : (f.turn m).a = f.a := by
      have : (f.turn m).a = f.a * (m.p * m.p) := by simp only [Fm.turn, Fm.at, hr]; grind
      rw [this]
      rcases unit_or ps with ⟨h, _⟩ | ⟨h, _⟩ <;> rw [h] <;> omega
    have g1 := hg.b1
    have g2 := hg.b2
    have f1 := hf.b1
    have f2 := hf.b2
    have q0 : m.p * m.q = 0 := by
      rcases (show m.p * m.q = 0 ∨ 1 ≤ m.p * m.q ∨ m.p * m.q ≤ -1 by omega) with z | z | z
      · exact z
      · have := Int.mul_le_mul_of_nonneg_left z (Int.le_of_lt ha); omega
      · have := Int.mul_le_mul_of_nonneg_left z (Int.le_of_lt ha); omega
    have mq : m.q = 0 := by rcases unit_or ps with ⟨h, _⟩ | ⟨h, _⟩ <;> rw [h] at q0 <;> omega
    have cc : (f.turn m).c = f.c := by
      have : (f.turn m).c = f.c * (m.s * m.s) := by simp only [Fm.turn, Fm.at, mq]; grind
      rw [this]
      rcases unit_or ps with ⟨_, h⟩ | ⟨_, h⟩ <;> rw [h] <;> omega
    rw [q0] at bb
    exact Fm.ext aa (by omega) cc
  · have v1 : f.c ≤ (f.turn m).a := hf.value hr
    have v2 : (f.turn m).c ≤ f.a := by
      have := hg.value (x := m.inv.p) (y := m.inv.r) (by simp only [Mt.inv]; omega)
      have e : (f.turn m).at m.inv.p m.inv.r = ((f.turn m).turn m.inv).a := rfl
      rw [e, Fm.turn_back f hd] at this
      exact this
    have ac := hf.ac
    have gac := hg.ac
    have hb := hf.eq (by omega)
    have gb := hg.eq (by omega)
    have dd := Fm.disc_turn f m
    rw [hd] at dd
    simp only [Fm.disc] at dd
    have e1 : (f.turn m).a = f.a := by omega
    have e2 : (f.turn m).c = f.c := by omega
    rw [e1, e2] at dd
    exact Fm.ext e1 (sq_inj gb hb (by omega)) e2
end M

set_option Elab.async false
set_option linter.all false
set_option maxRecDepth 100000
set_option maxHeartbeats 4000000
namespace M
/-! ### how a form is reduced -/
def Fm.sh (f : Fm) : Int := -((f.b + f.a - 1) / (2 * f.a))
def Fm.n1 (f : Fm) : Fm := f.turn ⟨1, f.sh, 0, 1⟩
def Fm.sw (f : Fm) : Bool := decide (f.c < f.a) || (decide (f.a = f.c) && decide (f.b < 0))
def Fm.isRed (f : Fm) : Bool := decide (-f.a < f.b) && (decide (f.b ≤ f.a) && (decide (f.a ≤ f.c) && (!decide (f.a = f.c) || decide (0 ≤ f.b))))
theorem Fm.isRed_iff (f : Fm) : f.isRed = true ↔ f.Red := by
  unfold Fm.isRed
  simp only [Bool.and_eq_true, decide_eq_true_eq, Bool.or_eq_true, Bool.not_eq_true', decide_eq_false_iff_not]
  constructor
  · intro ⟨h1, h2, h3, h4⟩
    exact ⟨h1, h2, h3, fun e => h4.elim (fun n => absurd e n) id⟩
  · intro ⟨h1, h2, h3, h4⟩
    refine ⟨h1, h2, h3, ?_⟩
    by_cases e : f.a = f.c
    · exact .inr (h4 e)
    · exact .inl e
theorem Fm.n1_spec {f : Fm} (h : 0 < f.a) : f.n1.a = f.a ∧ -f.a < f.n1.b ∧ f.n1.b ≤ f.a ∧ f.n1.disc = f.disc := by
  have e := Int.mul_ediv_add_emod (f.b + f.a - 1) (2 * f.a)
  have m1 := Int.emod_nonneg (f.b + f.a - 1) (show 2 * f.a ≠ 0 by omega)
  have m2 := Int.emod_lt_of_pos (f.b + f.a - 1) (show 0 < 2 * f.a by omega)
  have eb : f.n1.b = f.b - 2 * f.a * ((f.b + f.a - 1) / (2 * f.a)) := by simp only [Fm.n1, Fm.turn, Fm.sh]; grind
  refine ⟨by simp only [Fm.n1, Fm.turn, Fm.at]; grind, by omega, by omega, ?_⟩
  rw [Fm.n1, Fm.disc_turn]
  simp only [Mt.det]
  grind
def Mt.tn : Mt := ⟨0, -1, 1, 0⟩
theorem Fm.tn_spec (f : Fm) : f.turn Mt.tn = ⟨f.c, -f.b, f.a⟩ := by ext <;> simp only [Fm.turn, Fm.at, Mt.tn] <;> grind
/-- one turn of the loop: the form and the matrix -/
def stepF (x : Fm × Mt) : Fm × Mt := if x.1.n1.sw then (x.1.n1.turn Mt.tn, (x.2.mul ⟨1, x.1.sh, 0, 1⟩).mul Mt.tn) else (x.1.n1, x.2.mul ⟨1, x.1.sh, 0, 1⟩)
theorem stepF_turn {f : Fm} {x : Fm × Mt} (h : f.turn x.2 = x.1) (hd : x.2.det = 1) : f.turn (stepF x).2 = (stepF x).1 ∧ (stepF x).2.det = 1 := by
  unfold stepF
  split
  · refine ⟨by rw [← Fm.turn_mul, ← Fm.turn_mul, h]; rfl, ?_⟩
    rw [Mt.det_mul, Mt.det_mul, hd]; simp [Mt.det, Mt.tn]
  · refine ⟨by rw [← Fm.turn_mul, h]; rfl, ?_⟩
    rw [Mt.det_mul, hd]; simp [Mt.det]
theorem neg_disc_pos {f : Fm} (h : f.disc < 0) (ha : 0 < f.a) : 0 < f.c := by
  unfold Fm.disc at h
  have e : f.b * f.b = (f.b.natAbs : Int) * f.b.natAbs := by rw [← Int.natCast_mul, Int.natAbs_mul_self]
  have : 0 ≤ f.b * f.b := by rw [e]; exact Int.mul_nonneg (by omega) (by omega)
  rcases (show 0 < f.c ∨ f.c ≤ 0 by omega) with z | z
  · exact z
  · have := Int.mul_nonneg (show 0 ≤ f.a by omega) (show 0 ≤ -f.c by omega)
    have e2 : f.a * -f.c = -(f.a * f.c) := by grind
    have e3 : 4 * f.a * f.c = 4 * (f.a * f.c) := by grind
    omega
def muF (x : Fm) : Nat := if x.isRed then 0 else x.a.toNat + 1
theorem stepF_mu {x : Fm × Mt} (ha : 0 < x.1.a) (hd : x.1.disc < 0) (hr : x.1.isRed = false) : 0 < (stepF x).1.a ∧ (stepF x).1.disc = x.1.disc ∧ muF (stepF x).1 < muF x.1 := by
  obtain ⟨f, m⟩ := x
  simp only at *
  obtain ⟨n1, n2, n3, n4⟩ := Fm.n1_spec ha
  have hc := neg_disc_pos (f := f.n1) (by rw [n4]; exact hd) (by rw [n1]; exact ha)
  have mf : muF f = f.a.toNat + 1 := by unfold muF; rw [hr]; rfl
  unfold stepF
  simp only
  split
  · rename_i sw
    rw [Fm.tn_spec]
    refine ⟨hc, by rw [← n4]; simp only [Fm.disc]; grind, ?_⟩
    rw [mf]
    unfold muF
    split
    · omega
    · rename_i nr
      simp only
      have lt : f.n1.c < f.a := by
        unfold Fm.sw at sw
        simp only [Bool.or_eq_true, Bool.and_eq_true, decide_eq_true_eq] at sw
        rcases sw with z | ⟨z1, z2⟩
        · omega
        · exfalso
          apply nr
          rw [Fm.isRed_iff]
          exact ⟨by simp only; omega, by simp only; omega, by simp only; omega, fun _ => by simp only; omega⟩
      omega
  · rename_i sw
    refine ⟨by rw [n1]; exact ha, n4, ?_⟩
    have : f.n1.isRed = true := by
      rw [Fm.isRed_iff]
      unfold Fm.sw at sw
      simp only [Bool.or_eq_true, Bool.and_eq_true, decide_eq_true_eq, not_or, not_and] at sw
      exact ⟨by omega, by omega, by omega, fun e => by have := sw.2 e; omega⟩
    rw [mf]
    unfold muF
    rw [this]
    simp
end M

set_option Elab.async false
set_option linter.all false
set_option maxRecDepth 100000
set_option maxHeartbeats 4000000
namespace M
/-! ### sizes in the reduction -/
theorem sq_nonneg' (x : Int) : 0 ≤ x * x := by
  rw [show x * x = (x.natAbs : Int) * x.natAbs by rw [← Int.natCast_mul, Int.natAbs_mul_self]]
  exact Int.mul_nonneg (by omega) (by omega)
theorem natAbs_le_of_sq {x : Int} {n : Nat} (h : x * x ≤ n) : x.natAbs ≤ n := by
  have e : x * x = (x.natAbs : Int) * x.natAbs := by rw [← Int.natCast_mul, Int.natAbs_mul_self]
  rcases (show x.natAbs = 0 ∨ 1 ≤ x.natAbs by omega) with z | z
  · omega
  · have := Nat.mul_le_mul_left x.natAbs z
    have e2 : (x.natAbs : Int) * x.natAbs = ((x.natAbs * x.natAbs : Nat) : Int) := by rw [Int.natCast_mul]
    omega
/-- the entries of a matrix by the values that it makes -/
theorem entry_bound {f : Fm} (ha : 0 < f.a) (hd : f.disc < 0) {x y : Int} : y * y ≤ 4 * f.a * f.at x y ∧ x * x ≤ 4 * f.c * f.at x y := by
  have hc := neg_disc_pos hd ha
  have e1 : 4 * f.a * f.at x y = (2 * f.a * x + f.b * y) * (2 * f.a * x + f.b * y) - f.disc * (y * y) := by simp only [Fm.at, Fm.disc]; grind
  have e2 : 4 * f.c * f.at x y = (2 * f.c * y + f.b * x) * (2 * f.c * y + f.b * x) - f.disc * (x * x) := by simp only [Fm.at, Fm.disc]; grind
  have s1 := sq_nonneg' (2 * f.a * x + f.b * y)
  have s2 := sq_nonneg' (2 * f.c * y + f.b * x)
  have h1 := Int.mul_le_mul_of_nonneg_right (show 1 ≤ -f.disc by omega) (sq_nonneg' y)
  have h2 := Int.mul_le_mul_of_nonneg_right (show 1 ≤ -f.disc by omega) (sq_nonneg' x)
  have m1 : -f.disc * (y * y) = -(f.disc * (y * y)) := Int.neg_mul _ _
  have m2 : -f.disc * (x * x) = -(f.disc * (x * x)) := Int.neg_mul _ _
  omega
end M

set_option Elab.async false
set_option linter.all false
set_option maxRecDepth 100000
set_option maxHeartbeats 4000000
namespace M
/-! ### the shift is one; how many turns -/
theorem Fm.shift_uniq {f : Fm} (ha : 0 < f.a) {t : Int} (h1 : -f.a < (f.turn ⟨1, t, 0, 1⟩).b) (h2 : (f.turn ⟨1, t, 0, 1⟩).b ≤ f.a) : t = f.sh := by
  have e : (f.turn ⟨1, t, 0, 1⟩).b = f.b + 2 * f.a * t := by simp only [Fm.turn]; grind
  rw [e] at h1 h2
  obtain ⟨n1, n2, n3, n4⟩ := Fm.n1_spec ha
  have e2 : f.n1.b = f.b + 2 * f.a * f.sh := by simp only [Fm.n1, Fm.turn]; grind
  rw [e2] at n2 n3
  have e3 : 2 * f.a * (t - f.sh) = 2 * f.a * t - 2 * f.a * f.sh := by grind
  rcases (show t = f.sh ∨ 1 ≤ t - f.sh ∨ t - f.sh ≤ -1 by omega) with z | z | z
  · exact z
  · have := Int.mul_le_mul_of_nonneg_left z (show 0 ≤ 2 * f.a by omega); omega
  · have := Int.mul_le_mul_of_nonneg_left z (show 0 ≤ 2 * f.a by omega); omega
theorem Fm.shift_n1 {f : Fm} (ha : 0 < f.a) {t : Int} (h1 : -f.a < (f.turn ⟨1, t, 0, 1⟩).b) (h2 : (f.turn ⟨1, t, 0, 1⟩).b ≤ f.a) : f.turn ⟨1, t, 0, 1⟩ = f.n1 := by
  rw [Fm.shift_uniq ha h1 h2]; rfl
theorem Fm.n1_self {f : Fm} (ha : 0 < f.a) (h1 : -f.a < f.b) (h2 : f.b ≤ f.a) : f.n1 = f := by
  have := Fm.shift_n1 (f := f) (t := 0) ha (by rw [show (⟨1, 0, 0, 1⟩ : Mt) = Mt.one from rfl, Fm.turn_one]; exact h1) (by rw [show (⟨1, 0, 0, 1⟩ : Mt) = Mt.one from rfl, Fm.turn_one]; exact h2)
  rw [← this]; exact Fm.turn_one f
def Fm.next (f : Fm) : Fm := f.n1.turn Mt.tn
theorem Fm.next_eq (f : Fm) : f.next = ⟨f.n1.c, -f.n1.b, f.n1.a⟩ := Fm.tn_spec _
theorem Fm.n1_red {f : Fm} (ha : 0 < f.a) (h : f.n1.sw = false) : f.n1.Red := by
  obtain ⟨n1, n2, n3, n4⟩ := Fm.n1_spec ha
  unfold Fm.sw at h
  simp only [Bool.or_eq_false_iff, decide_eq_false_iff_not, Bool.and_eq_false_iff] at h
  exact ⟨by omega, by omega, by omega, fun e => by rcases h.2 with z | z <;> omega⟩
theorem Fm.red_sw {f : Fm} (h : f.Red) : f.n1 = f ∧ f.n1.sw = false := by
  have e := Fm.n1_self h.pos h.b1 h.b2
  refine ⟨e, ?_⟩
  rw [e]
  unfold Fm.sw
  have := h.ac
  have := h.eq
  simp only [Bool.or_eq_false_iff, decide_eq_false_iff_not, Bool.and_eq_false_iff]
  refine ⟨by omega, ?_⟩
  by_cases z : f.a = f.c
  · right; have := this z; omega
  · left; exact z
/-- the form has its end within k turns -/
def Tn : Nat → Fm → Prop
  | 0, f => f.n1.sw = false
  | k + 1, f => f.n1.sw = false ∨ Tn k f.next
theorem Tn.succ : ∀ {k : Nat} {f : Fm}, Tn k f → Tn (k + 1) f
  | 0, _, h => .inl h
  | k + 1, _, h => h.elim .inl fun h => .inr h.succ
theorem Tn.le {k m : Nat} {f : Fm} (h : Tn k f) (hm : k ≤ m) : Tn m f := by
  induction m with
  | zero => have : k = 0 := by omega
            subst this; exact h
  | succ m ih =>
    by_cases e : k = m + 1
    · subst e; exact h
    · exact (ih (by omega)).succ
theorem Tn.of_red {f : Fm} (h : f.Red) : Tn 0 f := (Fm.red_sw h).2
theorem next_pos {f : Fm} (ha : 0 < f.a) (hd : f.disc < 0) : 0 < f.next.a ∧ f.next.disc = f.disc := by
  obtain ⟨n1, n2, n3, n4⟩ := Fm.n1_spec ha
  have hc := neg_disc_pos (f := f.n1) (by rw [n4]; exact hd) (by rw [n1]; exact ha)
  rw [Fm.next_eq]
  exact ⟨hc, by rw [← n4]; simp only [Fm.disc]; grind⟩
theorem sw_lt {f : Fm} (h : f.sw = true) : f.c ≤ f.a := by
  unfold Fm.sw at h
  simp only [Bool.or_eq_true, Bool.and_eq_true, decide_eq_true_eq] at h
  omega
/-- if the next first number is more than half, one more turn at most -/
theorem turn_last {f : Fm} (ha : 0 < f.a) (hd : f.disc < 0) (hs : f.n1.sw = true) (h2 : f.n1.a < 2 * f.n1.c) : Tn 1 f.next := by
  obtain ⟨n1, n2, n3, n4⟩ := Fm.n1_spec ha
  obtain ⟨g1, g2⟩ := next_pos ha hd
  have hc := sw_lt hs
  have ge := Fm.next_eq f
  generalize f.next = g at *
  have ga : g.a = f.n1.c := by rw [ge]
  have gb : g.b = -f.n1.b := by rw [ge]
  have gc : g.c = f.n1.a := by rw [ge]
  obtain ⟨m1, m2, m3, m4⟩ := Fm.n1_spec g1
  -- the shift is 0, 1 or -1
  have eb : g.n1.b = g.b + 2 * g.a * g.sh := by simp only [Fm.n1, Fm.turn]; grind
  have ec : g.n1.c = g.a * g.sh * g.sh + g.b * g.sh + g.c := by simp only [Fm.n1, Fm.turn, Fm.at]; grind
  have hsh : g.sh = 0 ∨ g.sh = 1 ∨ g.sh = -1 := by
    rcases (show g.sh = 0 ∨ g.sh = 1 ∨ g.sh = -1 ∨ 2 ≤ g.sh ∨ g.sh ≤ -2 by omega) with z | z | z | z | z
    · exact .inl z
    · exact .inr (.inl z)
    · exact .inr (.inr z)
    · have := Int.mul_le_mul_of_nonneg_left z (show 0 ≤ 2 * g.a by omega); omega
    · have := Int.mul_le_mul_of_nonneg_left z (show 0 ≤ 2 * g.a by omega); omega
  have hge : g.a ≤ g.n1.c := by
    rcases hsh with z | z | z
    · rw [ec, z]; omega
    · rw [ec, z]; rw [z] at eb; omega
    · rw [ec, z]; rw [z] at eb; omega
  by_cases hs2 : g.n1.sw = true
  · right
    have hle := sw_lt hs2
    show g.next.n1.sw = false
    have hb : g.n1.b < 0 := by
      unfold Fm.sw at hs2
      simp only [Bool.or_eq_true, Bool.and_eq_true, decide_eq_true_eq] at hs2
      omega
    have : g.next.Red := by rw [Fm.next_eq]; exact ⟨by simp only; omega, by simp only; omega, by simp only; omega, fun _ => by simp only; omega⟩
    exact (Fm.red_sw this).2
  · left; simpa using hs2
theorem Tn.log : ∀ (m : Nat) (f : Fm), 0 < f.a → f.disc < 0 → f.a < 2 ^ m → Tn (m + 2) f := by
  intro m
  induction m with
  | zero => intro f h _ h2; simp at h2; omega
  | succ m ih =>
    intro f ha hd h2
    by_cases hs : f.n1.sw = true
    · right
      obtain ⟨g1, g2⟩ := next_pos ha hd
      obtain ⟨n1, _⟩ := Fm.n1_spec ha
      by_cases hh : f.n1.a < 2 * f.n1.c
      · exact (turn_last ha hd hs hh).le (by omega)
      · refine ih f.next g1 (by omega) ?_
        rw [Fm.next_eq]
        simp only
        rw [Int.pow_succ] at h2
        omega
    · left; simpa using hs
/-- the numbers that come first on the way -/
def stp : Nat → Fm → List Int
  | 0, _ => []
  | k + 1, f => if f.n1.sw then f.n1.c :: stp k f.next else []
theorem stp_stable : ∀ {k m : Nat} {f : Fm}, Tn k f → k ≤ m → stp m f = stp k f
  | 0, 0, _, _, _ => rfl
  | 0, m + 1, f, h, _ => by
    have h : f.n1.sw = false := h
    simp [stp, h]
  | k + 1, 0, _, _, hm => by omega
  | k + 1, m + 1, f, h, hm => by
    simp only [stp]
    by_cases hs : f.n1.sw = true
    · simp only [hs, if_true]
      rcases h with h | h
      · rw [h] at hs; cases hs
      · rw [stp_stable h (by omega)]
    · simp only [hs]; rfl
theorem stp_len : ∀ (k : Nat) (f : Fm), (stp k f).length ≤ k
  | 0, _ => Nat.le_refl _
  | k + 1, f => by
    simp only [stp]
    split
    · have := stp_len k f.next; simp; omega
    · simp
/-- the form at the end -/
def fin : Nat → Fm → Fm
  | 0, f => f.n1
  | k + 1, f => if f.n1.sw then fin k f.next else f.n1
theorem fin_spec : ∀ {k : Nat} {f : Fm}, Tn k f → 0 < f.a → f.disc < 0 → (fin k f).Red ∧ ∃ m : Mt, m.det = 1 ∧ f.turn m = fin k f
  | 0, f, h, ha, _ => ⟨Fm.n1_red ha h, ⟨1, f.sh, 0, 1⟩, by simp [Mt.det], rfl⟩
  | k + 1, f, h, ha, hd => by
    simp only [fin]
    by_cases hs : f.n1.sw = true
    · simp only [hs, if_true]
      rcases h with h | h
      · rw [h] at hs; cases hs
      · obtain ⟨g1, g2⟩ := next_pos ha hd
        obtain ⟨r, m, d, e⟩ := fin_spec h g1 (by omega)
        refine ⟨r, (Mt.mul ⟨1, f.sh, 0, 1⟩ Mt.tn).mul m, ?_, ?_⟩
        · rw [Mt.det_mul, Mt.det_mul, d]; simp [Mt.det, Mt.tn]
        · rw [← Fm.turn_mul, ← Fm.turn_mul]; exact e
    · have hs : f.n1.sw = false := by simpa using hs
      simp only [hs]
      exact ⟨Fm.n1_red ha hs, ⟨1, f.sh, 0, 1⟩, by simp [Mt.det], rfl⟩
end M

set_option Elab.async false
set_option linter.all false
set_option maxRecDepth 100000
set_option maxHeartbeats 4000000
namespace M
open PySem PySem.Spec PyProof.Rows L2
/-! ### loops by what holds of the names -/
def WStep (P : Nat → Ev → Prop) (w : Wd) (n : Nat) (E : Res Fl) : Prop := ∃ ρ' m, (E = .ok (.next ρ') w ∨ E = .ok (.cont ρ') w) ∧ m < n ∧ P m ρ'
theorem WStep.next {P : Nat → Ev → Prop} {w : Wd} {n m : Nat} {ρ : Ev} (h : m < n) (p : P m ρ) : WStep P w n (.ok (.next ρ) w) := ⟨ρ, m, .inl rfl, h, p⟩
def WEnd (Q : Ev → Prop) (w : Wd) (E : Res Fl) : Prop := ∃ ρ', E = .ok (.next ρ') w ∧ Q ρ'
theorem while_P {t : Ev → MM Bool} {db : Ev → MM Fl} {w : Wd} (P : Nat → Ev → Prop) (Q : Ev → Prop)
    (hb : ∀ n ρ, P n ρ → (t ρ w = .ok false w ∧ Q ρ) ∨ (t ρ w = .ok true w ∧ WStep P w n (db ρ w))) :
    ∀ n ρ, P n ρ → WEnd Q w (sWhile t db ρ w) := by
  intro n
  induction n using Nat.strongRecOn with
  | ind n ih =>
    intro ρ p
    rw [sWhile_ap]
    rcases hb n ρ p with ⟨h1, h2⟩ | ⟨h1, ρ', m, h2, h3, h4⟩
    · exact ⟨ρ, by rw [h1]; rfl, h2⟩
    · rw [h1, kWh_t]
      rcases h2 with h2 | h2
      · rw [h2, kWhB_next]
        exact ih m h3 ρ' h4
      · rw [h2, kWhB_cont]
        exact ih m h3 ρ' h4
/-- a for that may return -/
def FStep (P : Ev → Prop) (Q : D → Prop) (w : Wd) (E : Res Fl) : Prop := (∃ ρ', (E = .ok (.next ρ') w ∨ E = .ok (.cont ρ') w) ∧ P ρ') ∨ (∃ v, E = .ok (.ret v) w ∧ Q v)
def FEnd (P : Ev → Prop) (Q : D → Prop) (w : Wd) (E : Res Fl) : Prop := (∃ ρ', E = .ok (.next ρ') w ∧ P ρ') ∨ (∃ v, E = .ok (.ret v) w ∧ Q v)
theorem FStep.next {P : Ev → Prop} {Q : D → Prop} {w : Wd} {ρ : Ev} (p : P ρ) : FStep P Q w (.ok (.next ρ) w) := .inl ⟨ρ, .inl rfl, p⟩
theorem FStep.cont {P : Ev → Prop} {Q : D → Prop} {w : Wd} {ρ : Ev} (p : P ρ) : FStep P Q w (.ok (.cont ρ) w) := .inl ⟨ρ, .inr rfl, p⟩
theorem FStep.ret {P : Ev → Prop} {Q : D → Prop} {w : Wd} {v : D} (p : Q v) : FStep P Q w (.ok (.ret v) w) := .inr ⟨v, rfl, p⟩
theorem for_R {g : D → Ev → Option Ev} {db : Ev → MM Fl} {w : Wd} (P : List D → Ev → Prop) (Q : D → Prop)
    (hb : ∀ d ds ρ, P (d :: ds) ρ → ∃ ρ1, g d ρ = some ρ1 ∧ FStep (P ds) Q w (db ρ1 w)) :
    ∀ ds ρ, P ds ρ → FEnd (P []) Q w (sFor.go g db ds ρ w) := by
  intro ds
  induction ds with
  | nil => intro ρ p; exact .inl ⟨ρ, rfl, p⟩
  | cons d ds ih =>
    intro ρ p
    obtain ⟨ρ1, h1, h2⟩ := hb d ds ρ p
    rw [go_cons, h1, ofO_some, kForG_ok]
    rcases h2 with ⟨ρ', h2 | h2, h3⟩ | ⟨v, h2, h3⟩
    · rw [h2, kForB_next]
      exact ih ρ' h3
    · rw [h2]
      exact ih ρ' h3
    · exact .inr ⟨v, by rw [h2]; rfl, h3⟩
theorem for_P {g : D → Ev → Option Ev} {db : Ev → MM Fl} {w : Wd} (P : List D → Ev → Prop)
    (hb : ∀ d ds ρ, P (d :: ds) ρ → ∃ ρ1, g d ρ = some ρ1 ∧ FStep (P ds) (fun _ => False) w (db ρ1 w)) :
    ∀ ds ρ, P ds ρ → WEnd (P []) w (sFor.go g db ds ρ w) := by
  intro ds ρ p
  rcases for_R P (fun _ => False) hb ds ρ p with h | ⟨_, _, h⟩
  · exact h
  · exact h.elim
/-- a for that draws -/
def SStep (P : Ev → Wd → Prop) (E : Res Fl) : Prop := ∃ ρ' w', E = .ok (.next ρ') w' ∧ P ρ' w'
theorem SStep.next {P : Ev → Wd → Prop} {w : Wd} {ρ : Ev} (p : P ρ w) : SStep P (.ok (.next ρ) w) := ⟨ρ, w, rfl, p⟩
theorem for_S {g : D → Ev → Option Ev} {db : Ev → MM Fl} (P : List D → Ev → Wd → Prop)
    (hb : ∀ d ds ρ w, P (d :: ds) ρ w → ∃ ρ1, g d ρ = some ρ1 ∧ SStep (P ds) (db ρ1 w)) :
    ∀ ds ρ w, P ds ρ w → SStep (P []) (sFor.go g db ds ρ w) := by
  intro ds
  induction ds with
  | nil => intro ρ w p; exact ⟨ρ, w, rfl, p⟩
  | cons d ds ih =>
    intro ρ w p
    obtain ⟨ρ1, h1, ρ', w', h2, h3⟩ := hb d ds ρ w p
    rw [go_cons, h1]
    simp only [ofO_some, kForG_ok, h2, kForB_next]
    exact ih ρ' w' h3
/-! ### lists of one's own, by simp -/
def kAppL (i : Nat) (ρ : Ev) : Option D → Res D → Res Fl
  | some (.list ds), r => kApp i ρ ds r
  | _, _ => .bad
@[simp] theorem kAppL_some (i : Nat) (ρ : Ev) (ds : List D) (r : Res D) : kAppL i ρ (some (.list ds)) r = kApp i ρ ds r := (rfl)
@[simp] theorem sApp_s (i : Nat) (d : Ev → MM D) (ρ : Ev) (ω : Wd) : sApp i d ρ ω = kAppL i ρ (look ρ i) (d ρ ω) := by
  unfold sApp
  cases look ρ i with
  | none => rfl
  | some v => cases v with
    | list ds => simp only [kAppL_some]; cases d ρ ω <;> rfl
    | _ => rfl
def kExtL (i : Nat) (ρ : Ev) : Option D → Res D → Res Fl
  | some (.list ds), r => kExt i ρ ds r
  | _, _ => .bad
@[simp] theorem kExtL_some (i : Nat) (ρ : Ev) (ds : List D) (r : Res D) : kExtL i ρ (some (.list ds)) r = kExt i ρ ds r := (rfl)
@[simp] theorem sExt_s (i : Nat) (d : Ev → MM D) (ρ : Ev) (ω : Wd) : sExt i d ρ ω = kExtL i ρ (look ρ i) (d ρ ω) := by
  unfold sExt
  cases look ρ i with
  | none => rfl
  | some v => cases v with
    | list ds =>
      simp only [kExtL_some]
      cases d ρ ω with
      | ok v w => cases v <;> rfl
      | _ => rfl
    | _ => rfl
def kIxL : Option D → Res D → Res D
  | some (.list ds), .ok (.int k) w => ofO (atI ds k) w
  | some (.list _), .exc e w => .exc e w
  | _, _ => .bad
@[simp] theorem kIxL_ok (ds : List D) (k : Int) (w : Wd) : kIxL (some (.list ds)) (.ok (.int k) w) = ofO (atI ds k) w := (rfl)
@[simp] theorem eIxO_s (i : Nat) (dk : Ev → MM D) (ρ : Ev) (ω : Wd) : eIxO i dk ρ ω = kIxL (look ρ i) (dk ρ ω) := by
  unfold eIxO
  cases look ρ i with
  | none => rfl
  | some v => cases v with
    | list ds =>
      cases dk ρ ω with
      | ok v w => cases v <;> rfl
      | _ => rfl
    | _ => rfl
def kLenL (w : Wd) : Option D → Res D
  | some (.list ds) => .ok (.int ds.length) w
  | _ => .bad
@[simp] theorem kLenL_some (ds : List D) (w : Wd) : kLenL w (some (.list ds)) = .ok (.int ds.length) w := (rfl)
@[simp] theorem eLenO_s (i : Nat) (ρ : Ev) (ω : Wd) : eLenO i ρ ω = kLenL ω (look ρ i) := by
  unfold eLenO
  cases look ρ i with
  | none => rfl
  | some v => cases v <;> rfl
def kSetIx2 (i : Nat) (ρ : Ev) (v : D) : Option D → Res D → Res Fl
  | some (.list ds), .ok (.int k) w => (ofO (ixN ds.length k) w).bind fun j w => .ok (.next (put ρ i (.list (ds.set j v)))) w
  | some (.list _), .exc e w => .exc e w
  | _, _ => .bad
def kSetIx (i : Nat) (dk : Ev → MM D) (ρ : Ev) : Res D → Res Fl
  | .ok v w => kSetIx2 i ρ v (look ρ i) (dk ρ w)
  | .exc e w => .exc e w
  | .bad => .bad
def kSetIx3 (i : Nat) (ρ : Ev) (v : D) (ds : List D) (w : Wd) : Option Nat → Res Fl
  | some j => .ok (.next (put ρ i (.list (ds.set j v)))) w
  | none => .bad
@[simp] theorem kSetIx_ok (i : Nat) (dk : Ev → MM D) (ρ : Ev) (v : D) (w : Wd) : kSetIx i dk ρ (.ok v w) = kSetIx2 i ρ v (look ρ i) (dk ρ w) := (rfl)
@[simp] theorem kSetIx2_ok (i : Nat) (ρ : Ev) (v : D) (ds : List D) (k : Int) (w : Wd) : kSetIx2 i ρ v (some (.list ds)) (.ok (.int k) w) = kSetIx3 i ρ v ds w (ixN ds.length k) := by
  show (ofO (ixN ds.length k) w).bind _ = _
  cases ixN ds.length k <;> rfl
@[simp] theorem kSetIx3_some (i : Nat) (ρ : Ev) (v : D) (ds : List D) (w : Wd) (j : Nat) : kSetIx3 i ρ v ds w (some j) = .ok (.next (put ρ i (.list (ds.set j v)))) w := (rfl)
@[simp] theorem sSetIx_s (i : Nat) (dv dk : Ev → MM D) (ρ : Ev) (ω : Wd) : sSetIx i dv dk ρ ω = kSetIx i dk ρ (dv ρ ω) := by
  unfold sSetIx
  cases dv ρ ω with
  | ok v w =>
    simp only [bind_ok, kSetIx_ok]
    cases look ρ i with
    | none => rfl
    | some u => cases u with
      | list ds =>
        cases dk ρ w with
        | ok k w2 => cases k <;> rfl
        | _ => rfl
      | _ => rfl
  | _ => rfl
/-! ### forms and matrices as values -/
def Fm.enc (f : Fm) : D := .tuple [.int f.a, .int f.b, .int f.c]
def Mt.enc (m : Mt) : D := .tuple [.int m.p, .int m.q, .int m.r, .int m.s]
@[simp] theorem Fm.eta (f : Fm) : (⟨f.a, f.b, f.c⟩ : Fm) = f := rfl
@[simp] theorem Mt.eta (f : Mt) : (⟨f.p, f.q, f.r, f.s⟩ : Mt) = f := rfl
theorem enc3 (a b c : Int) : PyData.tuple [.int a, .int b, .int c] = Fm.enc ⟨a, b, c⟩ := (rfl)
theorem enc4 (a b c d : Int) : PyData.tuple [.int a, .int b, .int c, .int d] = Mt.enc ⟨a, b, c, d⟩ := (rfl)
@[simp] theorem gT_fm (gs : List D → Ev → Option Ev) (f : Fm) (ρ : Ev) : gT gs f.enc ρ = gs [.int f.a, .int f.b, .int f.c] ρ := (rfl)
@[simp] theorem gT_mt (gs : List D → Ev → Option Ev) (f : Mt) (ρ : Ev) : gT gs f.enc ρ = gs [.int f.p, .int f.q, .int f.r, .int f.s] ρ := (rfl)
@[simp] theorem ix_fm0 (f : Fm) : vIx f.enc (.int 0) = some (.int f.a) := vIx_t0 _ _
@[simp] theorem ix_fm1 (f : Fm) : vIx f.enc (.int 1) = some (.int f.b) := vIx_t1 _ _ _
@[simp] theorem ix_fm2 (f : Fm) : vIx f.enc (.int 2) = some (.int f.c) := vIx_t2 _ _ _ _
@[simp] theorem ix_mt0 (f : Mt) : vIx f.enc (.int 0) = some (.int f.p) := vIx_t0 _ _
@[simp] theorem ix_mt1 (f : Mt) : vIx f.enc (.int 1) = some (.int f.q) := vIx_t1 _ _ _
@[simp] theorem ix_mt2 (f : Mt) : vIx f.enc (.int 2) = some (.int f.r) := vIx_t2 _ _ _ _
@[simp] theorem ix_mt3 (f : Mt) : vIx f.enc (.int 3) = some (.int f.s) := vIx_t3 _ _ _ _ _
@[simp] theorem seq_fm (f : Fm) : seqOf f.enc = some [.int f.a, .int f.b, .int f.c] := (rfl)
@[simp] theorem seq_mt (f : Mt) : seqOf f.enc = some [.int f.p, .int f.q, .int f.r, .int f.s] := (rfl)
theorem fl_fm (f : Fm) : Fl2 1 f.enc := fl_tuple (fl_cons (fl_int 0 _) (fl_cons (fl_int 0 _) (fl_cons (fl_int 0 _) fl_nil)))
theorem fl_mt (f : Mt) : Fl2 1 f.enc := fl_tuple (fl_cons (fl_int 0 _) (fl_cons (fl_int 0 _) (fl_cons (fl_int 0 _) (fl_cons (fl_int 0 _) fl_nil))))
theorem eqv_fm (f g : Fm) : PyData.eqv f.enc g.enc = decide (f = g) := by
  simp only [Fm.enc, PyData.eqv]
  rw [show [PyData.int f.a, .int f.b, .int f.c] = [f.a, f.b, f.c].map .int from rfl, show [PyData.int g.a, .int g.b, .int g.c] = [g.a, g.b, g.c].map .int from rfl, eqvAll_map eqv_int]
  congr 1
  simp [Fm.ext_iff]
theorem eqv_mt (f g : Mt) : PyData.eqv f.enc g.enc = decide (f = g) := by
  simp only [Mt.enc, PyData.eqv]
  rw [show [PyData.int f.p, .int f.q, .int f.r, .int f.s] = [f.p, f.q, f.r, f.s].map .int from rfl, show [PyData.int g.p, .int g.q, .int g.r, .int g.s] = [g.p, g.q, g.r, g.s].map .int from rfl, eqvAll_map eqv_int]
  congr 1
  simp [Mt.ext_iff]
@[simp] theorem vEq_fm (f g : Fm) : vEq f.enc g.enc = some (decide (f = g)) := by rw [vEq_of (fl_fm f) (fl_fm g) (by omega), eqv_fm]
@[simp] theorem vNe_fm (f g : Fm) : vNe f.enc g.enc = some (!decide (f = g)) := by rw [vNe_of (fl_fm f) (fl_fm g) (by omega), eqv_fm]
@[simp] theorem vEq_mt (f g : Mt) : vEq f.enc g.enc = some (decide (f = g)) := by rw [vEq_of (fl_mt f) (fl_mt g) (by omega), eqv_mt]
@[simp] theorem vNe_mt (f g : Mt) : vNe f.enc g.enc = some (!decide (f = g)) := by rw [vNe_of (fl_mt f) (fl_mt g) (by omega), eqv_mt]
theorem vEq_fms (f g : List Fm) : vEq (.list (f.map Fm.enc)) (.list (g.map Fm.enc)) = some (decide (f = g)) := by
  rw [vEq_of (fl_list (fl_map fl_fm)) (fl_list (fl_map fl_fm)) (by omega)]
  exact congrArg some (eqvAll_map eqv_fm f g)
theorem vNe_fms (f g : List Fm) : vNe (.list (f.map Fm.enc)) (.list (g.map Fm.enc)) = some (!decide (f = g)) := by
  rw [vNe_of (fl_list (fl_map fl_fm)) (fl_list (fl_map fl_fm)) (by omega)]
  exact congrArg (fun z => some (!z)) (eqvAll_map eqv_fm f g)
@[simp] theorem vIsN_fm (f : Fm) : vIsN f.enc .none = some false := (rfl)
@[simp] theorem vNotN_fm (f : Fm) : vNotN f.enc .none = some true := (rfl)
@[simp] theorem vIsN_mt (f : Mt) : vIsN f.enc .none = some false := (rfl)
@[simp] theorem vNotN_mt (f : Mt) : vNotN f.enc .none = some true := (rfl)
structure FB (n : Nat) (f : Fm) : Prop where
  a : Szc f.a n
  b : Szc f.b n
  c : Szc f.c n
structure MB4 (n : Nat) (m : Mt) : Prop where
  p : Szc m.p n
  q : Szc m.q n
  r : Szc m.r n
  s : Szc m.s n
theorem szcMono {x : Int} {m n : Nat} (h : Szc x m) (hn : m ≤ n) : Szc x n := ⟨Nat.lt_of_lt_of_le h.h (two_pow_le hn)⟩
theorem FB.mono {m n : Nat} {f : Fm} (h : FB m f) (hn : m ≤ n) : FB n f := ⟨szcMono h.a hn, szcMono h.b hn, szcMono h.c hn⟩
theorem MB4.mono {m n : Nat} {f : Mt} (h : MB4 m f) (hn : m ≤ n) : MB4 n f := ⟨szcMono h.p hn, szcMono h.q hn, szcMono h.r hn, szcMono h.s hn⟩
theorem vMul_le {a b : Int} {m n : Nat} (ha : Szc a m) (hb : Szc b n) (h : m + n < 1000000) : vMul (.int a) (.int b) = some (.int (a * b)) := vMul_int (mulOk_c (ha := ha) (hb := hb) h)
theorem FB.turn {n k : Nat} {f : Fm} {m : Mt} (hf : FB n f) (hm : MB4 k m) : FB (n + k + k + 5) (f.turn m) := by
  have := hf.a
  have := hf.b
  have := hf.c
  have := hm.p
  have := hm.q
  have := hm.r
  have := hm.s
  refine ⟨szcMono (inferInstance : Szc (f.a * m.p * m.p + f.b * m.p * m.r + f.c * m.r * m.r) _) (by omega), szcMono (inferInstance : Szc (2 * f.a * m.p * m.q + f.b * (m.p * m.s + m.q * m.r) + 2 * f.c * m.r * m.s) _) (by omega), szcMono (inferInstance : Szc (f.a * m.q * m.q + f.b * m.q * m.s + f.c * m.s * m.s) _) (by omega)⟩
theorem MB4.mul {n k : Nat} {x y : Mt} (hf : MB4 n x) (hm : MB4 k y) : MB4 (n + k + 1) (x.mul y) := by
  have := hf.p
  have := hf.q
  have := hf.r
  have := hf.s
  have := hm.p
  have := hm.q
  have := hm.r
  have := hm.s
  refine ⟨szcMono (inferInstance : Szc (x.p * y.p + x.q * y.r) _) (by omega), szcMono (inferInstance : Szc (x.p * y.q + x.q * y.s) _) (by omega), szcMono (inferInstance : Szc (x.r * y.p + x.s * y.r) _) (by omega), szcMono (inferInstance : Szc (x.r * y.q + x.s * y.s) _) (by omega)⟩
end M

set_option Elab.async false
set_option linter.all false
set_option maxRecDepth 100000
set_option maxHeartbeats 4000000
namespace M
/-! ### forms that the reduction meets -/
structure Nm (d : Int) (f : Fm) : Prop where
  a0 : 0 < f.a
  dd : f.disc = d
  a1 : f.a < 2 ^ 60
  b0 : -(2 ^ 61) < f.b
  b1 : f.b < 2 ^ 61
  d0 : d < 0
  d1 : -(2 ^ 40) < d
theorem Nm.dn {d : Int} {f : Fm} (h : Nm d f) : f.disc < 0 := by rw [h.dd]; exact h.d0
theorem Nm.c0 {d : Int} {f : Fm} (h : Nm d f) : 0 < f.c := neg_disc_pos h.dn h.a0
theorem sq_lt {x B : Int} (h : -B < x) (h2 : x < B) : x * x < B * B := by
  have := Int.mul_nonneg (show 0 ≤ B - x by omega) (show 0 ≤ B + x by omega)
  have e : (B - x) * (B + x) = B * B - x * x := by grind
  have := Int.mul_pos (show 0 < B - x by omega) (show 0 < B + x by omega)
  omega
theorem Nm.c1 {d : Int} {f : Fm} (h : Nm d f) : f.c < 2 ^ 125 := by
  have e := h.dd
  have hc := h.c0
  unfold Fm.disc at e
  have hb := sq_lt h.b0 h.b1
  have h1 := Int.mul_le_mul_of_nonneg_right (show 1 ≤ f.a by have := h.a0; omega) (show 0 ≤ f.c by omega)
  have e2 : 4 * f.a * f.c = 4 * (f.a * f.c) := by grind
  have := h.d1
  omega
theorem Nm.fb {d : Int} {f : Fm} (h : Nm d f) : FB 130 f := by
  have := h.a0; have := h.a1; have := h.b0; have := h.b1; have := h.c0; have := h.c1
  exact ⟨sz_of (by omega) (by omega), sz_of (by omega) (by omega), sz_of (by omega) (by omega)⟩
theorem Nm.n1 {d : Int} {f : Fm} (h : Nm d f) : Nm d f.n1 := by
  obtain ⟨n1, n2, n3, n4⟩ := Fm.n1_spec h.a0
  have := h.a0; have := h.a1
  exact ⟨by omega, by rw [n4]; exact h.dd, by omega, by omega, by omega, h.d0, h.d1⟩
theorem Nm.next {d : Int} {f : Fm} (h : Nm d f) (hs : f.n1.sw = true) : Nm d f.next := by
  obtain ⟨n1, n2, n3, n4⟩ := Fm.n1_spec h.a0
  obtain ⟨g1, g2⟩ := next_pos h.a0 h.dn
  have := sw_lt hs
  have := h.a1
  refine ⟨g1, by rw [g2]; exact h.dd, ?_, ?_, ?_, h.d0, h.d1⟩ <;> rw [Fm.next_eq] <;> simp only <;> omega
theorem Nm.sh {d : Int} {f : Fm} (h : Nm d f) : Szc f.sh 62 := by
  have := h.a0; have := h.a1; have := h.b0; have := h.b1
  unfold Fm.sh
  refine ⟨?_⟩
  rw [Int.natAbs_neg]
  exact Nat.lt_of_le_of_lt (Int.natAbs_ediv_le_natAbs _ _) (by omega)
theorem Nm.red {d : Int} {f : Fm} (h : Nm d f) {m : Mt} (hm : m.det = 1) (hr : (f.turn m).Red) (ha : (f.turn m).a ≤ f.a) : Nm d (f.turn m) := by
  have := hr.pos; have := hr.b1; have := hr.b2; have := h.a1
  refine ⟨by omega, ?_, by omega, by omega, by omega, h.d0, h.d1⟩
  rw [Fm.disc_turn, hm, h.dd]; omega
theorem Nm.tw {d : Int} {f : Fm} (h : Nm d f) {m : Mt} (hg : Nm d (f.turn m)) : MB4 250 m := by
  have ha := h.a0
  have hd := h.dn
  obtain ⟨p1, p2⟩ := entry_bound ha hd (x := m.p) (y := m.r)
  obtain ⟨q1, q2⟩ := entry_bound ha hd (x := m.q) (y := m.s)
  have e1 : f.at m.p m.r = (f.turn m).a := rfl
  have e2 : f.at m.q m.s = (f.turn m).c := rfl
  have c0 := h.c0; have c1 := h.c1; have a1 := h.a1
  have g0 := hg.a0; have g1 := hg.a1; have k0 := hg.c0; have k1 := hg.c1
  rw [e1] at p1 p2
  rw [e2] at q1 q2
  have bd : ∀ {u v : Int}, 0 < u → u < 2 ^ 125 → 0 < v → v < 2 ^ 125 → 4 * u * v ≤ (2 ^ 252 : Nat) := by
    intro u v u0 u1 v0 v1
    have h1 := Int.mul_le_mul (show u ≤ 2 ^ 125 by omega) (show v ≤ 2 ^ 125 by omega) (by omega) (by omega)
    have e : 4 * u * v = 4 * (u * v) := by grind
    omega
  have fin : ∀ {x u v : Int}, x * x ≤ 4 * u * v → 0 < u → u < 2 ^ 125 → 0 < v → v < 2 ^ 125 → Szc x 250 := by
    intro x u v hx u0 u1 v0 v1
    refine ⟨?_⟩
    have h1 := bd u0 u1 v0 v1
    have h2 : x * x ≤ (2 ^ 126 : Int) * 2 ^ 126 := by omega
    rcases (show x.natAbs < 2 ^ 250 ∨ (2 ^ 250 : Int) ≤ x ∨ x ≤ -(2 ^ 250) by omega) with z | z | z
    · exact z
    · have := Int.mul_le_mul z z (by omega) (by omega); omega
    · have := Int.mul_le_mul (show (2 ^ 250 : Int) ≤ -x by omega) (show (2 ^ 250 : Int) ≤ -x by omega) (by omega) (by omega)
      have e : -x * -x = x * x := by grind
      omega
  exact ⟨fin p2 c0 c1 g0 (by omega), fin q2 c0 c1 k0 k1, fin p1 ha (by omega) g0 (by omega), fin q1 ha (by omega) k0 k1⟩
theorem mb_shift {t : Int} {n : Nat} (h : Szc t n) (hn : 1 ≤ n) : MB4 n ⟨1, t, 0, 1⟩ :=
  ⟨szcMono (inferInstance : Szc 1 1) hn, h, szcMono (inferInstance : Szc 0 0) (by omega), szcMono (inferInstance : Szc 1 1) hn⟩
theorem mb_tn : MB4 1 Mt.tn := ⟨⟨by decide⟩, ⟨by decide⟩, ⟨by decide⟩, ⟨by decide⟩⟩
theorem mb_one : MB4 1 Mt.one := ⟨⟨by decide⟩, ⟨by decide⟩, ⟨by decide⟩, ⟨by decide⟩⟩
end M

set_option Elab.async false
set_option linter.all false
set_option maxRecDepth 100000
set_option maxHeartbeats 4000000
namespace M
/-! ### products of two linear forms -/
def prodF (p q r s : Int) : Fm := ⟨p * r, p * s + q * r, q * s⟩
theorem prodF_disc (p q r s : Int) : (prodF p q r s).disc = (p * s - q * r) * (p * s - q * r) := by simp only [prodF, Fm.disc]; grind
theorem prodF_turn (p q r s : Int) (m : Mt) : (prodF p q r s).turn m = prodF (p * m.p + q * m.r) (p * m.q + q * m.s) (r * m.p + s * m.r) (r * m.q + s * m.s) := by
  ext <;> simp only [prodF, Fm.turn, Fm.at] <;> grind
theorem dt_turn (p q r s : Int) (m : Mt) : (p * m.p + q * m.r) * (r * m.q + s * m.s) - (p * m.q + q * m.s) * (r * m.p + s * m.r) = (p * s - q * r) * m.det := by
  simp only [Mt.det]; grind
/-- the point on a line -/
def upR (a b : Int) : List Int := if rLt [a, b] [-a, -b] then [-a, -b] else [a, b]
def plainP (x y : Int) : List Int := upR (x / Int.gcd x y) (y / Int.gcd x y)
theorem upR_neg (a b : Int) : upR (-a) (-b) = upR a b := by
  unfold upR
  rw [Int.neg_neg, Int.neg_neg]
  cases h : rLt [a, b] [-a, -b] with
  | true =>
    cases g : rLt [-a, -b] [a, b] with
    | true => have := rLt_trans h g; rw [rLt_irrefl] at this; cases this
    | false => rfl
  | false =>
    cases g : rLt [-a, -b] [a, b] with
    | true => rfl
    | false => exact rLt_tri g h
theorem upR_or (a b : Int) : upR a b = [a, b] ∨ upR a b = [-a, -b] := by unfold upR; split <;> simp
theorem gcd_pos_of {x y : Int} (h : ¬ (x = 0 ∧ y = 0)) : 0 < (Int.gcd x y : Int) := by
  have : Int.gcd x y ≠ 0 := fun z => by
    rw [Int.gcd_eq_zero_iff] at z
    exact h z
  omega
theorem plainP_mul {x y k : Int} (h : ¬ (x = 0 ∧ y = 0)) (hk : k ≠ 0) : plainP (k * x) (k * y) = plainP x y := by
  have g := gcd_pos_of h
  unfold plainP
  have e : (Int.gcd (k * x) (k * y) : Int) = k.natAbs * Int.gcd x y := by rw [Int.gcd_mul_left, Int.natCast_mul]
  rw [e]
  have dx : (Int.gcd x y : Int) ∣ x := Int.gcd_dvd_left ..
  have dy : (Int.gcd x y : Int) ∣ y := Int.gcd_dvd_right ..
  rcases (show (k.natAbs : Int) = k ∧ 0 < k ∨ (k.natAbs : Int) = -k ∧ 0 < -k by omega) with ⟨h1, h2⟩ | ⟨h1, h2⟩
  · rw [h1, Int.mul_ediv_mul_of_pos _ _ h2, Int.mul_ediv_mul_of_pos _ _ h2]
  · rw [h1]
    have ex : k * x = -k * -x := by grind
    have ey : k * y = -k * -y := by grind
    rw [ex, ey, Int.mul_ediv_mul_of_pos _ _ h2, Int.mul_ediv_mul_of_pos _ _ h2, Int.neg_ediv_of_dvd dx, Int.neg_ediv_of_dvd dy]
    exact upR_neg _ _
/-- what a point of the line is -/
theorem plainP_spec {x y : Int} (h : ¬ (x = 0 ∧ y = 0)) : ∃ u v k : Int, plainP x y = [u, v] ∧ Int.gcd u v = 1 ∧ k ≠ 0 ∧ x = k * u ∧ y = k * v := by
  have g := gcd_pos_of h
  have dx : (Int.gcd x y : Int) ∣ x := Int.gcd_dvd_left ..
  have dy : (Int.gcd x y : Int) ∣ y := Int.gcd_dvd_right ..
  have c1 : Int.gcd (x / Int.gcd x y) (y / Int.gcd x y) = 1 := Int.gcd_ediv_gcd_ediv_gcd (by omega)
  have ex := Int.mul_ediv_cancel' dx
  have ey := Int.mul_ediv_cancel' dy
  rcases upR_or (x / Int.gcd x y) (y / Int.gcd x y) with e | e
  · exact ⟨_, _, Int.gcd x y, e, c1, by omega, ex.symm, ey.symm⟩
  · refine ⟨_, _, -(Int.gcd x y : Int), e, by rw [Int.gcd_neg, Int.neg_gcd]; exact c1, by omega, ?_, ?_⟩
    · have : -(Int.gcd x y : Int) * -(x / Int.gcd x y) = Int.gcd x y * (x / Int.gcd x y) := by grind
      omega
    · have : -(Int.gcd x y : Int) * -(y / Int.gcd x y) = Int.gcd x y * (y / Int.gcd x y) := by grind
      omega
/-- the two pairs that zero_points forms -/
def zx1 (f : Fm) (root : Int) : Int × Int := if f.a ≠ 0 then (-f.b + root, 2 * f.a) else (1, 0)
def zx2 (f : Fm) (root : Int) : Int × Int := if f.a ≠ 0 then (-f.b - root, 2 * f.a) else (-f.c, f.b)
def zpts (f : Fm) (root : Int) : List (List Int) := sortUR [plainP (zx1 f root).1 (zx1 f root).2, plainP (zx2 f root).1 (zx2 f root).2]
theorem sortUR_two {a b c d : List Int} (h : a = c ∧ b = d ∨ a = d ∧ b = c) : sortUR [a, b] = sortUR [c, d] := by
  refine rlt_ext (sortUR_lt _) (sortUR_lt _) fun z => ?_
  rw [mem_sortUR, mem_sortUR]
  rcases h with ⟨rfl, rfl⟩ | ⟨rfl, rfl⟩
  · exact Iff.rfl
  · simp [or_comm]
theorem zpts_prod {p q r s root : Int} (hd : p * s - q * r ≠ 0) (hr : root = p * s - q * r ∨ root = -(p * s - q * r)) : zpts (prodF p q r s) root = sortUR [plainP q (-p), plainP s (-r)] := by
  have n1 : ¬ (q = 0 ∧ -p = 0) := by
    rintro ⟨h1, h2⟩
    have : p = 0 := by omega
    subst h1; subst this; simp at hd
  have n2 : ¬ (s = 0 ∧ -r = 0) := by
    rintro ⟨h1, h2⟩
    have : r = 0 := by omega
    subst h1; subst this; simp at hd
  unfold zpts zx1 zx2
  by_cases ha : p * r = 0
  · have e : (prodF p q r s).a = 0 := ha
    simp only [e, ne_eq, not_true_eq_false, if_false]
    rcases Int.mul_eq_zero.1 ha with h | h
    · subst h
      have hq : q ≠ 0 := fun z => by subst z; simp at hd
      have hrr : r ≠ 0 := fun z => by subst z; simp at hd
      refine sortUR_two (.inl ⟨?_, ?_⟩)
      · have := plainP_mul (x := 1) (y := 0) (k := q) (by omega) hq
        simpa using this.symm
      · have := plainP_mul (x := s) (y := -r) (k := -q) n2 (by omega)
        rw [← this]
        congr 1 <;> simp only [prodF] <;> grind
    · subst h
      have hs : s ≠ 0 := fun z => by subst z; simp at hd
      have hp : p ≠ 0 := fun z => by subst z; simp at hd
      refine sortUR_two (.inr ⟨?_, ?_⟩)
      · have := plainP_mul (x := 1) (y := 0) (k := s) (by omega) hs
        simpa using this.symm
      · have := plainP_mul (x := q) (y := -p) (k := -s) n1 (by omega)
        rw [← this]
        congr 1 <;> simp only [prodF] <;> grind
  · have hp : p ≠ 0 := fun z => ha (by rw [z]; simp)
    have hrr : r ≠ 0 := fun z => ha (by rw [z]; simp)
    have e : (prodF p q r s).a ≠ 0 := ha
    simp only [if_pos e]
    have A := plainP_mul (x := q) (y := -p) (k := -2 * r) n1 (by omega)
    have B := plainP_mul (x := s) (y := -r) (k := -2 * p) n2 (by omega)
    rcases hr with h | h <;> subst h
    · refine sortUR_two (.inl ⟨?_, ?_⟩)
      · rw [← A]; congr 1 <;> simp only [prodF] <;> grind
      · rw [← B]; congr 1 <;> simp only [prodF] <;> grind
    · refine sortUR_two (.inr ⟨?_, ?_⟩)
      · rw [← B]; congr 1 <;> simp only [prodF] <;> grind
      · rw [← A]; congr 1 <;> simp only [prodF] <;> grind
/-- the matrix to a form with the last number 0 -/
def lastM (u v c1 c2 : Int) : Mt := ⟨-c2, -u, c1, -v⟩
theorem lastM_det {u v c1 c2 : Int} (h : u * c1 + v * c2 = 1) : (lastM u v c1 c2).det = 1 := by simp only [lastM, Mt.det]; grind
theorem last_one {p q r s u v c1 c2 : Int} (h : u * c1 + v * c2 = 1) (h0 : p * u + q * v = 0) : ∃ a, (prodF p q r s).turn (lastM u v c1 c2) = ⟨a, p * s - q * r, 0⟩ := by
  refine ⟨((prodF p q r s).turn (lastM u v c1 c2)).a, ?_⟩
  have d := dt_turn p q r s (lastM u v c1 c2)
  rw [lastM_det h] at d
  have e := prodF_turn p q r s (lastM u v c1 c2)
  have q0 : p * (lastM u v c1 c2).q + q * (lastM u v c1 c2).s = 0 := by simp only [lastM]; grind
  rw [q0] at d e
  rw [e]
  ext
  · rfl
  · simp only [prodF]; grind
  · simp only [prodF]; grind
theorem last_two {p q r s u v c1 c2 : Int} (h : u * c1 + v * c2 = 1) (h0 : r * u + s * v = 0) : ∃ a, (prodF p q r s).turn (lastM u v c1 c2) = ⟨a, -(p * s - q * r), 0⟩ := by
  refine ⟨((prodF p q r s).turn (lastM u v c1 c2)).a, ?_⟩
  have d := dt_turn p q r s (lastM u v c1 c2)
  rw [lastM_det h] at d
  have e := prodF_turn p q r s (lastM u v c1 c2)
  have q0 : r * (lastM u v c1 c2).q + s * (lastM u v c1 c2).s = 0 := by simp only [lastM]; grind
  rw [q0] at d e
  rw [e]
  ext
  · rfl
  · simp only [prodF]; grind
  · simp only [prodF]; grind
theorem low_turn (a k t : Int) : (⟨a, k, 0⟩ : Fm).turn ⟨1, 0, t, 1⟩ = ⟨a + k * t, k, 0⟩ := by ext <;> simp only [Fm.turn, Fm.at] <;> grind
/-- the normal form is one -/
theorem split_uniq {a a2 k : Int} {n : Mt} (hk : 0 < k) (h1 : 0 ≤ a) (h2 : a < k) (g1 : 0 ≤ a2) (g2 : a2 < k) (hn : n.det = 1) (e : (⟨a, k, 0⟩ : Fm).turn n = ⟨a2, k, 0⟩) : a2 = a := by
  have ea := congrArg Fm.a e
  have eb := congrArg Fm.b e
  have ec := congrArg Fm.c e
  simp only [Fm.turn, Fm.at] at ea eb ec
  unfold Mt.det at hn
  have c0 : n.q * (a * n.q + k * n.s) = 0 := by grind
  rcases Int.mul_eq_zero.1 c0 with h | h
  · rw [h] at hn eb
    have ps : n.p * n.s = 1 := by omega
    have pp : n.p * n.p = 1 := by rcases unit_or ps with ⟨z, _⟩ | ⟨z, _⟩ <;> rw [z] <;> rfl
    have ea2 : a2 = a * (n.p * n.p) + k * (n.p * n.r) := by grind
    rw [pp] at ea2
    have h5 : k * (n.p * n.r) < k := by omega
    have h6 : -k < k * (n.p * n.r) := by omega
    have : n.p * n.r = 0 := by
      rcases (show n.p * n.r = 0 ∨ 1 ≤ n.p * n.r ∨ n.p * n.r ≤ -1 by omega) with z | z | z
      · exact z
      · have := Int.mul_le_mul_of_nonneg_left z (Int.le_of_lt hk); omega
      · have := Int.mul_le_mul_of_nonneg_left z (Int.le_of_lt hk); omega
    rw [this] at ea2
    omega
  · exfalso
    have eb2 : n.q * (a * n.p + k * n.r) = k := by grind
    have : k * (n.p * n.s - n.q * n.r) = n.p * (a * n.q + k * n.s) - n.q * (a * n.p + k * n.r) := by grind
    rw [hn, h, eb2] at this
    omega
end M

set_option Elab.async false
set_option linter.all false
set_option maxRecDepth 100000
set_option maxHeartbeats 4000000
namespace M
/-! ### the river of a mixed form: steps between forms (a, b, c) with a above 0 and c below it -/
structure Fm.Riv (f : Fm) : Prop where
  a : 0 < f.a
  c : f.c < 0
def NSq (d : Int) : Prop := ∀ x : Int, x * x ≠ d
def Mt.Lm : Mt := ⟨1, 0, 1, 1⟩
def Mt.Rm : Mt := ⟨1, 1, 0, 1⟩
def Fm.up (f : Fm) : Prop := 0 < f.a + f.b + f.c
instance (f : Fm) : Decidable f.up := by unfold Fm.up; infer_instance
def Fm.stM (f : Fm) : Mt := if f.up then Mt.Lm else Mt.Rm
def Fm.st (f : Fm) : Fm := f.turn f.stM
theorem Fm.turn_L (f : Fm) : f.turn Mt.Lm = ⟨f.a + f.b + f.c, f.b + 2 * f.c, f.c⟩ := by ext <;> simp only [Fm.turn, Fm.at, Mt.Lm] <;> grind
theorem Fm.turn_R (f : Fm) : f.turn Mt.Rm = ⟨f.a, f.b + 2 * f.a, f.a + f.b + f.c⟩ := by ext <;> simp only [Fm.turn, Fm.at, Mt.Rm] <;> grind
theorem Fm.ne_up {f : Fm} (h : NSq f.disc) : f.a + f.b + f.c ≠ 0 := fun e => h (2 * f.a + f.b) (by
  have : f.c = -f.a - f.b := by omega
  simp only [Fm.disc, this]; grind)
theorem Fm.st_riv {f : Fm} (h : f.Riv) (hn : NSq f.disc) : f.st.Riv := by
  have := Fm.ne_up hn
  have := h.a; have := h.c
  unfold Fm.st Fm.stM
  by_cases u : f.up
  · rw [if_pos u, Fm.turn_L]; exact ⟨u, h.c⟩
  · rw [if_neg u, Fm.turn_R]; unfold Fm.up at u; exact ⟨h.a, by simp only; omega⟩
theorem Fm.stM_det (f : Fm) : f.stM.det = 1 := by unfold Fm.stM; split <;> rfl
theorem Fm.st_disc (f : Fm) : f.st.disc = f.disc := by rw [Fm.st, Fm.disc_turn, Fm.stM_det]; omega
def Fm.sts : Nat → Fm → Fm
  | 0, f => f
  | n + 1, f => Fm.sts n f.st
def Fm.stW : Nat → Fm → Mt
  | 0, _ => Mt.one
  | n + 1, f => f.stM.mul (Fm.stW n f.st)
theorem Mt.one_mul (m : Mt) : Mt.one.mul m = m := by ext <;> simp only [Mt.mul, Mt.one] <;> grind
theorem Mt.mul_one (m : Mt) : m.mul Mt.one = m := by ext <;> simp only [Mt.mul, Mt.one] <;> grind
theorem Mt.mul_assoc (x y z : Mt) : (x.mul y).mul z = x.mul (y.mul z) := by ext <;> simp only [Mt.mul] <;> grind
theorem Fm.stW_turn : ∀ (n : Nat) (f : Fm), f.turn (Fm.stW n f) = Fm.sts n f
  | 0, f => Fm.turn_one f
  | n + 1, f => by rw [Fm.stW, ← Fm.turn_mul]; exact Fm.stW_turn n f.st
theorem Fm.stW_det : ∀ (n : Nat) (f : Fm), (Fm.stW n f).det = 1
  | 0, f => rfl
  | n + 1, f => by rw [Fm.stW, Mt.det_mul, Fm.stM_det, Fm.stW_det n]; rfl
theorem Fm.sts_riv : ∀ (n : Nat) {f : Fm}, f.Riv → NSq f.disc → (Fm.sts n f).Riv
  | 0, _, h, _ => h
  | n + 1, f, h, hn => Fm.sts_riv n (Fm.st_riv h hn) (by rw [Fm.st_disc]; exact hn)
theorem Fm.sts_disc : ∀ (n : Nat) (f : Fm), (Fm.sts n f).disc = f.disc
  | 0, _ => rfl
  | n + 1, f => by rw [Fm.sts, Fm.sts_disc n, Fm.st_disc]
theorem Fm.sts_add : ∀ (m n : Nat) (f : Fm), Fm.sts (m + n) f = Fm.sts n (Fm.sts m f)
  | 0, n, f => by rw [Nat.zero_add]; rfl
  | m + 1, n, f => by rw [Nat.succ_add_eq_add_succ]; show Fm.sts (m + (n + 1)) f = _; rw [Fm.sts, ← Fm.sts_add m n f.st, Nat.add_succ]; rfl
theorem Fm.stW_add : ∀ (m n : Nat) (f : Fm), Fm.stW (m + n) f = (Fm.stW m f).mul (Fm.stW n (Fm.sts m f))
  | 0, n, f => by rw [Nat.zero_add]; exact (Mt.one_mul _).symm
  | m + 1, n, f => by
    have : m + 1 + n = (m + n) + 1 := by omega
    rw [this, Fm.stW, Fm.stW_add m n f.st, Fm.stW, Mt.mul_assoc]; rfl
/-- numbers none of which is below 0 -/
structure Mt.Nn (m : Mt) : Prop where
  p : 0 ≤ m.p
  q : 0 ≤ m.q
  r : 0 ≤ m.r
  s : 0 ≤ m.s
/-- how a matrix of that kind begins -/
theorem Mt.Nn.split {m : Mt} (h : m.Nn) (hd : m.det = 1) : m = Mt.one ∨ (∃ k : Mt, k.Nn ∧ k.det = 1 ∧ m = Mt.Lm.mul k ∧ k.p + k.q + k.r + k.s < m.p + m.q + m.r + m.s) ∨ (∃ k : Mt, k.Nn ∧ k.det = 1 ∧ m = Mt.Rm.mul k ∧ k.p + k.q + k.r + k.s < m.p + m.q + m.r + m.s) := by
  obtain ⟨p, q, r, s⟩ := m
  obtain ⟨hp, hq, hr, hs⟩ := h
  simp only [Mt.det] at hd hp hq hr hs
  have nz : ¬ (p = 0 ∧ q = 0) := fun ⟨e1, e2⟩ => by subst e1; subst e2; omega
  have nz2 : ¬ (r = 0 ∧ s = 0) := fun ⟨e1, e2⟩ => by subst e1; subst e2; omega
  by_cases c1 : p ≤ r ∧ q ≤ s
  · right; left
    refine ⟨⟨p, q, r - p, s - q⟩, ⟨hp, hq, by simp only; omega, by simp only; omega⟩, ?_, ?_, by simp only; omega⟩
    · simp only [Mt.det]; grind
    · ext <;> simp only [Mt.mul, Mt.Lm] <;> grind
  · by_cases c2 : r ≤ p ∧ s ≤ q
    · right; right
      refine ⟨⟨p - r, q - s, r, s⟩, ⟨by simp only; omega, by simp only; omega, hr, hs⟩, ?_, ?_, by simp only; omega⟩
      · simp only [Mt.det]; grind
      · ext <;> simp only [Mt.mul, Mt.Rm] <;> grind
    · left
      rcases (show (r < p ∧ q < s) ∨ (p < r ∧ s < q) by omega) with ⟨z1, z2⟩ | ⟨z1, z2⟩
      · have h1 := Int.mul_le_mul (show r + 1 ≤ p by omega) (show q + 1 ≤ s by omega) (by omega) (by omega)
        have e : (r + 1) * (q + 1) = q * r + r + q + 1 := by grind
        have r0 : r = 0 := by omega
        have q0 : q = 0 := by omega
        subst r0; subst q0
        have hd : p * s = 1 := by omega
        rcases unit_or hd with ⟨e1, e2⟩ | ⟨e1, e2⟩
        · subst e1; subst e2; rfl
        · omega
      · have h1 := Int.mul_le_mul (show p + 1 ≤ r by omega) (show s + 1 ≤ q by omega) (by omega) (by omega)
        have e : (p + 1) * (s + 1) = p * s + p + s + 1 := by grind
        have e2 : r * q = q * r := Int.mul_comm _ _
        omega
theorem Fm.at_pos {f : Fm} (ha : 0 < f.a) (hb : 0 ≤ f.b) (hc : 0 < f.c) {x y : Int} (hx : 0 ≤ x) (hy : 0 ≤ y) : 0 ≤ f.at x y := by
  have h1 := Int.mul_nonneg (Int.mul_nonneg (show 0 ≤ f.a by omega) hx) hx
  have h2 := Int.mul_nonneg (Int.mul_nonneg hb hx) hy
  have h3 := Int.mul_nonneg (Int.mul_nonneg (show 0 ≤ f.c by omega) hy) hy
  unfold Fm.at; omega
theorem Fm.at_neg {f : Fm} (ha : f.a < 0) (hb : f.b ≤ 0) (hc : f.c < 0) {x y : Int} (hx : 0 ≤ x) (hy : 0 ≤ y) : f.at x y ≤ 0 := by
  have := Fm.at_pos (f := ⟨-f.a, -f.b, -f.c⟩) (by simp only; omega) (by simp only; omega) (by simp only; omega) hx hy
  have e : Fm.at ⟨-f.a, -f.b, -f.c⟩ x y = -(f.at x y) := by simp only [Fm.at]; grind
  omega
/-- no way but the river's -/
theorem Fm.riv_way : ∀ (n : Nat) {f : Fm} {m : Mt}, f.Riv → NSq f.disc → m.Nn → m.det = 1 → (m.p + m.q + m.r + m.s).toNat ≤ n →
    ((f.turn m).Riv → ∃ k, m = Fm.stW k f) ∧ ¬ ((f.turn m).a < 0 ∧ 0 < (f.turn m).c) := by
  intro n
  induction n with
  | zero =>
    intro f m hf hn hm hd hk
    have := hm.p; have := hm.q; have := hm.r; have := hm.s
    exfalso
    have e1 : m.p = 0 := by omega
    have e2 : m.r = 0 := by omega
    rw [Mt.det, e1, e2] at hd; omega
  | succ n ih =>
    intro f m hf hn hm hd hk
    have nu := Fm.ne_up hn
    have ha := hf.a; have hc := hf.c
    rcases hm.split hd with e | ⟨k, kn, kd, e, kl⟩ | ⟨k, kn, kd, e, kl⟩
    · subst e
      rw [Fm.turn_one]
      exact ⟨fun _ => ⟨0, rfl⟩, fun h => by omega⟩
    · by_cases u : f.up
      · have es : f.stM = Mt.Lm := if_pos u
        have et : f.turn m = f.st.turn k := by rw [e, ← es, ← Fm.turn_mul]; rfl
        have := ih (Fm.st_riv hf hn) (by rw [Fm.st_disc]; exact hn) kn kd (by have := kn.p; have := kn.q; have := kn.r; have := kn.s; omega)
        rw [et]
        refine ⟨fun h => ?_, this.2⟩
        obtain ⟨j, ej⟩ := this.1 h
        exact ⟨j + 1, by rw [Fm.stW, ← ej, es]; exact e⟩
      · have et : f.turn m = (f.turn Mt.Lm).turn k := by rw [e, Fm.turn_mul]
        rw [et, Fm.turn_L]
        unfold Fm.up at u
        have h1 := Fm.at_neg (f := ⟨f.a + f.b + f.c, f.b + 2 * f.c, f.c⟩) (by simp only; omega) (by simp only; omega) hc kn.p kn.r
        have h2 := Fm.at_neg (f := ⟨f.a + f.b + f.c, f.b + 2 * f.c, f.c⟩) (by simp only; omega) (by simp only; omega) hc kn.q kn.s
        exact ⟨fun h => absurd h.a (by simp only [Fm.turn]; omega), fun h => absurd h.2 (by simp only [Fm.turn]; omega)⟩
    · by_cases u : f.up
      · have et : f.turn m = (f.turn Mt.Rm).turn k := by rw [e, Fm.turn_mul]
        rw [et, Fm.turn_R]
        unfold Fm.up at u
        have h1 := Fm.at_pos (f := ⟨f.a, f.b + 2 * f.a, f.a + f.b + f.c⟩) ha (by simp only; omega) u kn.p kn.r
        have h2 := Fm.at_pos (f := ⟨f.a, f.b + 2 * f.a, f.a + f.b + f.c⟩) ha (by simp only; omega) u kn.q kn.s
        exact ⟨fun h => absurd h.c (by simp only [Fm.turn]; omega), fun h => absurd h.1 (by simp only [Fm.turn]; omega)⟩
      · have es : f.stM = Mt.Rm := if_neg u
        have et : f.turn m = f.st.turn k := by rw [e, ← es, ← Fm.turn_mul]; rfl
        have := ih (Fm.st_riv hf hn) (by rw [Fm.st_disc]; exact hn) kn kd (by have := kn.p; have := kn.q; have := kn.r; have := kn.s; omega)
        rw [et]
        refine ⟨fun h => ?_, this.2⟩
        obtain ⟨j, ej⟩ := this.1 h
        exact ⟨j + 1, by rw [Fm.stW, ← ej, es]; exact e⟩
def Mt.neg (m : Mt) : Mt := ⟨-m.p, -m.q, -m.r, -m.s⟩
theorem Fm.turn_neg (f : Fm) (m : Mt) : f.turn m.neg = f.turn m := by ext <;> simp only [Fm.turn, Fm.at, Mt.neg] <;> grind
theorem Mt.neg_det (m : Mt) : m.neg.det = m.det := by simp only [Mt.det, Mt.neg]; grind
theorem Mt.neg_neg (m : Mt) : m.neg.neg = m := by ext <;> simp [Mt.neg]
/-- the other side of the glass -/
def Fm.op (f : Fm) : Fm := ⟨f.a, -f.b, f.c⟩
def Mt.op (m : Mt) : Mt := ⟨m.p, -m.q, -m.r, m.s⟩
theorem Fm.op_turn (f : Fm) (m : Mt) : f.op.turn m.op = (f.turn m).op := by ext <;> simp only [Fm.turn, Fm.at, Mt.op, Fm.op] <;> grind
theorem Mt.op_det (m : Mt) : m.op.det = m.det := by simp only [Mt.det, Mt.op]; grind
theorem Fm.op_disc (f : Fm) : f.op.disc = f.disc := by simp only [Fm.disc, Fm.op]; grind
/-- matrices of determinant 1 by signs -/
theorem Mt.signs {m : Mt} (hd : m.det = 1) : m.Nn ∨ m.neg.Nn ∨ m.inv.Nn ∨ m.inv.neg.Nn ∨ (m.mul ⟨0, -1, 1, 0⟩).Nn ∨ (m.mul ⟨0, 1, -1, 0⟩).Nn ∨ (m.op.mul ⟨0, -1, 1, 0⟩).Nn ∨ (m.op.mul ⟨0, 1, -1, 0⟩).Nn := by
  obtain ⟨p, q, r, s⟩ := m
  simp only [Mt.det] at hd
  have key : ∀ {x y : Int}, 0 < x * y → (0 < x ∧ 0 < y) ∨ (x < 0 ∧ y < 0) := by
    intro x y h
    rcases Int.lt_trichotomy x 0 with h1 | h1 | h1
    · rcases Int.lt_trichotomy y 0 with h2 | h2 | h2
      · exact .inr ⟨h1, h2⟩
      · subst h2; omega
      · have := Int.mul_pos (show 0 < -x by omega) h2
        have e : -x * y = -(x * y) := by grind
        omega
    · subst h1; omega
    · rcases Int.lt_trichotomy y 0 with h2 | h2 | h2
      · have := Int.mul_pos h1 (show 0 < -y by omega)
        have e : x * -y = -(x * y) := by grind
        omega
      · subst h2; omega
      · exact .inl ⟨h1, h2⟩
  have key2 : ∀ {x y : Int}, x * y < 0 → (0 < x ∧ y < 0) ∨ (x < 0 ∧ 0 < y) := by
    intro x y h
    have e : x * -y = -(x * y) := by grind
    have := key (x := x) (y := -y) (by omega)
    omega
  have key0 : ∀ {x y : Int}, x * y = 0 → x = 0 ∨ y = 0 := fun h => Int.mul_eq_zero.1 h
  rcases Int.lt_trichotomy (q * r) 0 with h | h | h
  · have hqr := key2 h
    rcases (show p * s < 0 ∨ p * s = 0 by omega) with h2 | h2
    · have hps := key2 h2
      rcases hqr with ⟨z1, z2⟩ | ⟨z1, z2⟩ <;> rcases hps with ⟨z3, z4⟩ | ⟨z3, z4⟩
      · right; right; right; right; right; right; right; constructor <;> simp only [Mt.mul, Mt.op] <;> omega
      · right; right; right; right; left; constructor <;> simp only [Mt.mul, Mt.op] <;> omega
      · right; right; right; right; right; left; constructor <;> simp only [Mt.mul, Mt.op] <;> omega
      · right; right; right; right; right; right; left; constructor <;> simp only [Mt.mul, Mt.op] <;> omega
    · have h3 := key0 h2
      rcases hqr with ⟨z1, z2⟩ | ⟨z1, z2⟩
      · rcases (show (0 ≤ p ∧ s ≤ 0) ∨ (p ≤ 0 ∧ 0 ≤ s) by omega) with ⟨z3, z4⟩ | ⟨z3, z4⟩
        · right; right; right; right; right; right; right; constructor <;> simp only [Mt.mul, Mt.op] <;> omega
        · right; right; right; right; left; constructor <;> simp only [Mt.mul, Mt.op] <;> omega
      · rcases (show (0 ≤ p ∧ s ≤ 0) ∨ (p ≤ 0 ∧ 0 ≤ s) by omega) with ⟨z3, z4⟩ | ⟨z3, z4⟩
        · right; right; right; right; right; left; constructor <;> simp only [Mt.mul, Mt.op] <;> omega
        · right; right; right; right; right; right; left; constructor <;> simp only [Mt.mul, Mt.op] <;> omega
  · have h3 := key0 h
    have h2 := key (show 0 < p * s by omega)
    rcases h2 with ⟨z1, z2⟩ | ⟨z1, z2⟩
    · rcases (show (0 ≤ q ∧ 0 ≤ r) ∨ (q ≤ 0 ∧ r ≤ 0) by omega) with ⟨z3, z4⟩ | ⟨z3, z4⟩
      · left; constructor <;> simp only <;> omega
      · right; right; left; constructor <;> simp only [Mt.inv] <;> omega
    · rcases (show (0 ≤ q ∧ 0 ≤ r) ∨ (q ≤ 0 ∧ r ≤ 0) by omega) with ⟨z3, z4⟩ | ⟨z3, z4⟩
      · right; right; right; left; constructor <;> simp only [Mt.inv, Mt.neg] <;> omega
      · right; left; constructor <;> simp only [Mt.neg] <;> omega
  · have h1 := key h
    have h2 := key (show 0 < p * s by omega)
    rcases h1 with ⟨z1, z2⟩ | ⟨z1, z2⟩ <;> rcases h2 with ⟨z3, z4⟩ | ⟨z3, z4⟩
    · left; constructor <;> simp only <;> omega
    · right; right; right; left; constructor <;> simp only [Mt.inv, Mt.neg] <;> omega
    · right; right; left; constructor <;> simp only [Mt.inv] <;> omega
    · right; left; constructor <;> simp only [Mt.neg] <;> omega
theorem Fm.no_swap {f : Fm} {m : Mt} (hf : f.Riv) (hn : NSq f.disc) (hg : (f.turn m).Riv) (hd : m.det = 1) : ¬ (m.mul ⟨0, -1, 1, 0⟩).Nn ∧ ¬ (m.mul ⟨0, 1, -1, 0⟩).Nn := by
  have ha := hg.a; have hc := hg.c
  constructor
  · intro h
    refine (Fm.riv_way _ hf hn h (by rw [Mt.det_mul, hd]; rfl) (Nat.le_refl _)).2 ?_
    rw [← Fm.turn_mul]
    generalize f.turn m = g at *
    simp only [Fm.turn, Fm.at]
    constructor <;> omega
  · intro h
    refine (Fm.riv_way _ hf hn h (by rw [Mt.det_mul, hd]; rfl) (Nat.le_refl _)).2 ?_
    rw [← Fm.turn_mul]
    generalize f.turn m = g at *
    simp only [Fm.turn, Fm.at]
    constructor <;> omega
/-- two places on one river: some steps on, or some steps back -/
theorem Fm.riv_two {f : Fm} {m : Mt} (hf : f.Riv) (hn : NSq f.disc) (hg : (f.turn m).Riv) (hd : m.det = 1) :
    ∃ k, (m = Fm.stW k f ∨ m = (Fm.stW k f).neg) ∨ (m.inv = Fm.stW k (f.turn m) ∨ m.inv = (Fm.stW k (f.turn m)).neg) := by
  have hn2 : NSq (f.turn m).disc := by rw [Fm.disc_turn, hd]; simpa using hn
  rcases Mt.signs hd with h | h | h | h | h | h | h | h
  · obtain ⟨k, e⟩ := (Fm.riv_way _ hf hn h hd (Nat.le_refl _)).1 hg
    exact ⟨k, .inl (.inl e)⟩
  · obtain ⟨k, e⟩ := (Fm.riv_way _ hf hn h (by rw [Mt.neg_det]; exact hd) (Nat.le_refl _)).1 (by rw [Fm.turn_neg]; exact hg)
    exact ⟨k, .inl (.inr (by rw [← e, Mt.neg_neg]))⟩
  · obtain ⟨k, e⟩ := (Fm.riv_way _ hg hn2 h (by rw [Mt.det_inv]; exact hd) (Nat.le_refl _)).1 (by rw [Fm.turn_back f hd]; exact hf)
    exact ⟨k, .inr (.inl e)⟩
  · obtain ⟨k, e⟩ := (Fm.riv_way _ hg hn2 h (by rw [Mt.neg_det, Mt.det_inv]; exact hd) (Nat.le_refl _)).1 (by rw [Fm.turn_neg, Fm.turn_back f hd]; exact hf)
    exact ⟨k, .inr (.inr (by rw [← e, Mt.neg_neg]))⟩
  · exact absurd h (Fm.no_swap hf hn hg hd).1
  · exact absurd h (Fm.no_swap hf hn hg hd).2
  · exact absurd h (Fm.no_swap (f := f.op) (m := m.op) ⟨hf.a, hf.c⟩ (by rw [Fm.op_disc]; exact hn) (by rw [Fm.op_turn]; exact ⟨hg.a, hg.c⟩) (by rw [Mt.op_det]; exact hd)).1
  · exact absurd h (Fm.no_swap (f := f.op) (m := m.op) ⟨hf.a, hf.c⟩ (by rw [Fm.op_disc]; exact hn) (by rw [Fm.op_turn]; exact ⟨hg.a, hg.c⟩) (by rw [Mt.op_det]; exact hd)).2
end M

set_option Elab.async false
set_option linter.all false
set_option maxRecDepth 100000
set_option maxHeartbeats 4000000
namespace M
/-! ### k11: the typed walk of the principal cycle (r: the root below of D) -/
def nxM (r : Int) (f : Fm) : Int := (if (f.c.natAbs : Int) ≤ r then r else f.c.natAbs) - ((if (f.c.natAbs : Int) ≤ r then r else f.c.natAbs) + f.b) % (2 * f.c.natAbs)
def nxQ (r : Int) (f : Fm) : Int := (nxM r f + f.b).fdiv (2 * f.c)
def nxF (r : Int) (f : Fm) : Fm := f.turn ⟨0, -1, 1, nxQ r f⟩
def redMB (D : Int) (f : Fm) : Bool := !(decide (f.b ≤ 0) || decide (f.b * f.b > D)) && ((decide (2 * f.a.natAbs - f.b < 0) || decide ((2 * (f.a.natAbs : Int) - f.b) * (2 * f.a.natAbs - f.b) < D)) && decide ((2 * (f.a.natAbs : Int) + f.b) * (2 * f.a.natAbs + f.b) > D))
def redW (D r : Int) : Nat → Fm → Fm
  | 0, f => f
  | n + 1, f => if redMB D f then f else redW D r n (nxF r f)
def alongW (r : Int) (f0 : Fm) : Nat → Fm → Mt → Nat → Mt × Nat
  | 0, _, m, k => (m, k)
  | n + 1, f, m, k => if f = f0 then (m, k) else alongW r f0 n (nxF r f) (m.mul ⟨0, -1, 1, nxQ r f⟩) (k + 1)
def prinF (D : Int) : Fm := ⟨1, D % 2, (D % 2 - D).fdiv 4⟩
def lu (D r : Int) : Int × Int × Nat :=
  let f := redW D r 60 (prinF D)
  let p := alongW r f 200 (nxF r f) ⟨0, -1, 1, nxQ r f⟩ 1
  ((p.1.p + p.1.s).natAbs, (p.1.r.fdiv f.a).natAbs, p.2)
def sqr (n : Nat) : Nat := Id.run do
  let mut x := 0
  for _ in [0:100] do
    if (x + 1) * (x + 1) ≤ n then x := x + 1
  return x
def dsAll : List Nat := ((List.range 300).flatMap fun d => [5 + 4 * d, 8 + 4 * d]).map fun n => if sqr n * sqr n = n then n + 4 else n
def bad : List Nat := dsAll.filter fun (D : Nat) => let (t, u, _) := lu (D : Int) (sqr D : Nat); !(t * t - D * u * u == 4) || u < 1

end M

set_option Elab.async false
set_option linter.all false
set_option maxRecDepth 100000
set_option maxHeartbeats 4000000
namespace M
/-! ### reduced mixed forms and the river -/
/-- the root below, once -/
structure Rt2 (D r : Int) : Prop where
  r0 : 0 ≤ r
  lo : r * r ≤ D
  hi : D < (r + 1) * (r + 1)
structure Fm.RedM (f : Fm) : Prop where
  sg : (0 < f.a ∧ f.c < 0) ∨ (f.a < 0 ∧ 0 < f.c)
  b1 : -f.b < f.a + f.c
  b2 : f.a + f.c < f.b
theorem mul_pos_iff2 {x y : Int} (hx : 0 < x) : 0 < x * y ↔ 0 < y := by
  constructor
  · intro h
    rcases Int.lt_trichotomy y 0 with z | z | z
    · have := Int.mul_pos hx (show 0 < -y by omega)
      have e : x * -y = -(x * y) := by grind
      omega
    · subst z; omega
    · exact z
  · exact fun h => Int.mul_pos hx h
theorem redMB_iff {f : Fm} (hn : NSq f.disc) : redMB f.disc f = true ↔ f.RedM := by
  have a0 : f.a ≠ 0 := fun e => hn f.b (by simp only [Fm.disc, e]; omega)
  have c0 : f.c ≠ 0 := fun e => hn f.b (by simp only [Fm.disc, e]; omega)
  have hi : (2 * (f.a.natAbs : Int) + f.b) * (2 * f.a.natAbs + f.b) - f.disc = (4 * (f.a.natAbs : Int)) * (f.a.natAbs + f.b) + 4 * f.a * f.c := by
    have : (f.a.natAbs : Int) * f.a.natAbs = f.a * f.a := Int.natAbs_mul_self' f.a
    simp only [Fm.disc]; grind
  have lo : (2 * (f.a.natAbs : Int) - f.b) * (2 * f.a.natAbs - f.b) - f.disc = (4 * (f.a.natAbs : Int)) * (f.a.natAbs - f.b) + 4 * f.a * f.c := by
    simp only [Fm.disc]; grind
  have dd : f.disc - f.b * f.b = -(4 * f.a * f.c) := by simp only [Fm.disc]; grind
  unfold redMB
  simp only [Bool.and_eq_true, Bool.or_eq_true, Bool.not_eq_true', Bool.or_eq_false_iff, decide_eq_true_eq, decide_eq_false_iff_not]
  rcases Int.lt_or_gt_of_ne a0 with ha | ha
  · have ea : (f.a.natAbs : Int) = -f.a := by omega
    rw [ea] at hi lo ⊢
    have x1 := mul_pos_iff2 (x := 4 * -f.a) (y := f.c) (by omega)
    have x2 := mul_pos_iff2 (x := 4 * -f.a) (y := -f.a + f.b - f.c) (by omega)
    have x3 := mul_pos_iff2 (x := 4 * -f.a) (y := -(-f.a - f.b - f.c)) (by omega)
    have e1 : (4 * -f.a) * f.c = -(4 * f.a * f.c) := by grind
    have e2 : (4 * -f.a) * (-f.a + f.b - f.c) = (4 * -f.a) * (-f.a + f.b) + 4 * f.a * f.c := by grind
    have e3 : (4 * -f.a) * -(-f.a - f.b - f.c) = -((4 * -f.a) * (-f.a - f.b) + 4 * f.a * f.c) := by grind
    constructor
    · intro ⟨⟨h1, h2⟩, h3, h4⟩
      have c1 : 0 < f.c := by
        rcases Int.lt_or_gt_of_ne c0 with z | z
        · have := Int.mul_pos (show 0 < 4 * -f.a by omega) (show 0 < -f.c by omega)
          have e : (4 * -f.a) * -f.c = 4 * f.a * f.c := by grind
          omega
        · exact z
      exact ⟨.inr ⟨ha, c1⟩, by omega, by omega⟩
    · intro ⟨s, b1, b2⟩
      exact ⟨⟨by omega, by omega⟩, by omega, by omega⟩
  · have ea : (f.a.natAbs : Int) = f.a := by omega
    rw [ea] at hi lo ⊢
    have x1 := mul_pos_iff2 (x := 4 * f.a) (y := -f.c) (by omega)
    have x2 := mul_pos_iff2 (x := 4 * f.a) (y := f.a + f.b + f.c) (by omega)
    have x3 := mul_pos_iff2 (x := 4 * f.a) (y := -(f.a - f.b + f.c)) (by omega)
    have e1 : (4 * f.a) * -f.c = -(4 * f.a * f.c) := by grind
    have e2 : (4 * f.a) * (f.a + f.b + f.c) = (4 * f.a) * (f.a + f.b) + 4 * f.a * f.c := by grind
    have e3 : (4 * f.a) * -(f.a - f.b + f.c) = -((4 * f.a) * (f.a - f.b) + 4 * f.a * f.c) := by grind
    constructor
    · intro ⟨⟨h1, h2⟩, h3, h4⟩
      have c1 : f.c < 0 := by
        rcases Int.lt_or_gt_of_ne c0 with z | z
        · exact z
        · have := Int.mul_pos (show 0 < 4 * f.a by omega) z
          omega
      exact ⟨.inl ⟨ha, c1⟩, by omega, by omega⟩
    · intro ⟨s, b1, b2⟩
      exact ⟨⟨by omega, by omega⟩, by omega, by omega⟩
theorem sq_le_of {x r D : Int} (hr : Rt2 D r) (h : x * x ≤ D) : -r ≤ x ∧ x ≤ r := by
  have r0 := hr.r0; have hi := hr.hi
  constructor
  · apply Int.not_lt.1
    intro z
    have := Int.mul_le_mul (show r + 1 ≤ -x by omega) (show r + 1 ≤ -x by omega) (by omega) (by omega)
    have e : -x * -x = x * x := by grind
    omega
  · apply Int.not_lt.1
    intro z
    have := Int.mul_le_mul (show r + 1 ≤ x by omega) (show r + 1 ≤ x by omega) (by omega) (by omega)
    omega
theorem sq_le_to {x r D : Int} (hr : Rt2 D r) (h : -r ≤ x ∧ x ≤ r) : x * x ≤ D := by
  have r0 := hr.r0; have lo := hr.lo
  have h1 := Int.mul_nonneg (show 0 ≤ r - x by omega) (show 0 ≤ r + x by omega)
  have e : (r - x) * (r + x) = r * r - x * x := by grind
  omega
theorem sq_gt_to {x r D : Int} (hr : Rt2 D r) (h : x < -r ∨ r < x) : D < x * x := by
  apply Int.not_le.1
  intro z
  have := sq_le_of hr z
  omega
/-- what reduced forms keep to -/
theorem Fm.RedM.bounds {f : Fm} (h : f.RedM) {r : Int} (hr : Rt2 f.disc r) : f.a.natAbs + f.c.natAbs ≤ r ∧ 0 < f.b ∧ f.b ≤ r ∧ r - 2 * f.c.natAbs < f.b ∧ 2 * f.c.natAbs - r ≤ f.b := by
  obtain ⟨s, b1, b2⟩ := h
  have b0 : 0 < f.b := by omega
  have ab : (f.a.natAbs : Int) * f.c.natAbs = -(f.a * f.c) := by
    have e : ((f.a * f.c).natAbs : Int) = f.a.natAbs * f.c.natAbs := by rw [Int.natAbs_mul]; simp
    rw [← e]
    have : f.a * f.c ≤ 0 := by
      rcases s with ⟨s1, s2⟩ | ⟨s1, s2⟩
      · have := Int.mul_nonneg (show 0 ≤ f.a by omega) (show 0 ≤ -f.c by omega)
        have e : f.a * -f.c = -(f.a * f.c) := by grind
        omega
      · have := Int.mul_nonneg (show 0 ≤ -f.a by omega) (show 0 ≤ f.c by omega)
        have e : -f.a * f.c = -(f.a * f.c) := by grind
        omega
    omega
  have ed : f.disc = f.b * f.b + 4 * ((f.a.natAbs : Int) * f.c.natAbs) := by rw [ab]; simp only [Fm.disc]; grind
  have dif : (f.a.natAbs : Int) - f.c.natAbs < f.b ∧ -f.b < (f.a.natAbs : Int) - f.c.natAbs := by omega
  have a0 : (0 : Int) < f.a.natAbs := by omega
  have c0 : (0 : Int) < f.c.natAbs := by omega
  generalize (f.a.natAbs : Int) = u at *
  generalize (f.c.natAbs : Int) = v at *
  have hs : (u - v) * (u - v) ≤ f.b * f.b := by
    have h1 := Int.mul_nonneg (show 0 ≤ f.b - (u - v) by omega) (show 0 ≤ f.b + (u - v) by omega)
    have e : (f.b - (u - v)) * (f.b + (u - v)) = f.b * f.b - (u - v) * (u - v) := by grind
    omega
  have e1 : (u + v) * (u + v) = (u - v) * (u - v) + 4 * (u * v) := by grind
  have uv := Int.mul_pos a0 c0
  have q1 := sq_le_of hr (x := u + v) (by omega)
  have q2 := sq_le_of hr (x := f.b) (by omega)
  refine ⟨q1.2, b0, q2.2, ?_, ?_⟩
  · apply Int.not_le.1
    intro z
    have := sq_le_to hr (x := f.b + 2 * v) (by have := hr.r0; omega)
    have e2 : (f.b + 2 * v) * (f.b + 2 * v) = f.b * f.b + 4 * (v * (f.b + v)) := by grind
    have := Int.mul_lt_mul_of_pos_left (show u < f.b + v by omega) c0
    have e3 : v * u = u * v := Int.mul_comm _ _
    omega
  · rcases (show 2 * v - f.b ≤ r ∨ r < 2 * v - f.b by omega) with z | z
    · omega
    · have := sq_gt_to hr (x := 2 * v - f.b) (.inr z)
      have e2 : (2 * v - f.b) * (2 * v - f.b) = f.b * f.b + 4 * (v * (v - f.b)) := by grind
      have := Int.mul_lt_mul_of_pos_left (show v - f.b < u by omega) c0
      have e3 : v * u = u * v := Int.mul_comm _ _
      omega
/-- the middle of the next form -/
theorem nx_mid {f : Fm} {r : Int} (hc : f.c ≠ 0) : ∃ q, nxQ r f = q ∧ nxM r f = -f.b + 2 * f.c * q ∧ (nxF r f) = ⟨f.c, nxM r f, f.at (-1) q⟩ ∧
    (if (f.c.natAbs : Int) ≤ r then r else f.c.natAbs) - 2 * f.c.natAbs < nxM r f ∧ nxM r f ≤ (if (f.c.natAbs : Int) ≤ r then r else f.c.natAbs) := by
  generalize ht : (if (f.c.natAbs : Int) ≤ r then r else f.c.natAbs) = t
  have em : nxM r f = t - (t + f.b) % (2 * f.c.natAbs) := by unfold nxM; rw [ht]
  have c0 : (0 : Int) < 2 * f.c.natAbs := by omega
  have e1 := Int.mul_ediv_add_emod (t + f.b) (2 * f.c.natAbs)
  have m0 := Int.emod_nonneg (t + f.b) (show 2 * (f.c.natAbs : Int) ≠ 0 by omega)
  have m1 := Int.emod_lt_of_pos (t + f.b) c0
  have dv : ∃ q, nxM r f + f.b = 2 * f.c * q := by
    rcases Int.lt_or_gt_of_ne hc with z | z
    · refine ⟨-((t + f.b) / (2 * f.c.natAbs)), ?_⟩
      have : (f.c.natAbs : Int) = -f.c := by omega
      rw [this] at e1 em ⊢
      grind
    · refine ⟨((t + f.b) / (2 * f.c.natAbs)), ?_⟩
      have : (f.c.natAbs : Int) = f.c := by omega
      rw [this] at e1 em ⊢
      grind
  obtain ⟨q, hq⟩ := dv
  have eq : nxQ r f = q := by
    unfold nxQ
    rw [hq, Int.mul_fdiv_cancel_left _ (by omega)]
  refine ⟨q, eq, by omega, ?_, by omega, by omega⟩
  unfold nxF
  rw [eq]
  have hm : nxM r f = -f.b + 2 * f.c * q := by omega
  rw [hm]
  ext <;> simp only [Fm.turn, Fm.at] <;> grind
theorem nx_det (r : Int) (f : Fm) : (Mt.mk 0 (-1) 1 (nxQ r f)).det = 1 := by simp [Mt.det]
theorem nx_disc (r : Int) (f : Fm) : (nxF r f).disc = f.disc := by rw [nxF, Fm.disc_turn, nx_det]; omega
/-- one middle alone -/
theorem mid_uniq {b b' c r : Int} (hc : c ≠ 0) (h : ∃ q, b = b' + 2 * c * q) (h1 : r - 2 * c.natAbs < b) (h2 : b ≤ r) (h3 : r - 2 * c.natAbs < b') (h4 : b' ≤ r) : b = b' := by
  obtain ⟨q, e⟩ := h
  rcases (show q = 0 ∨ 1 ≤ q ∨ q ≤ -1 by omega) with z | z | z
  · subst z; omega
  · exfalso
    rcases Int.lt_or_gt_of_ne hc with y | y
    · have := Int.mul_le_mul_of_nonneg_left z (show 0 ≤ 2 * -c by omega)
      have e2 : 2 * -c * q = -(2 * c * q) := by grind
      omega
    · have := Int.mul_le_mul_of_nonneg_left z (show 0 ≤ 2 * c by omega)
      omega
  · exfalso
    rcases Int.lt_or_gt_of_ne hc with y | y
    · have := Int.mul_le_mul_of_nonneg_left z (show 0 ≤ 2 * -c by omega)
      have e2 : 2 * -c * q = -(2 * c * q) := by grind
      omega
    · have := Int.mul_le_mul_of_nonneg_left z (show 0 ≤ 2 * c by omega)
      omega
end M

set_option Elab.async false
set_option linter.all false
set_option maxRecDepth 100000
set_option maxHeartbeats 4000000
namespace M
open PySem PySem.Spec PyProof.Rows L2
/-! ### roots, squares, what is drawn (any size) -/
theorem sz_two {n h : Int} {k : Nat} (hk : Szc n k) (h0 : 0 ≤ h) (h1 : h ≤ 2 * n + 1) : Szc h (k + 2) := ⟨by
  have := hk.h
  have e : 2 ^ (k + 2) = 4 * 2 ^ k := by rw [Nat.pow_add]; omega
  omega⟩
theorem sz_one {n h : Int} {k : Nat} (hk : Szc n k) (h0 : 0 ≤ h) (h1 : h ≤ n) : Szc h k := ⟨by
  have := hk.h
  omega⟩
theorem mulI_le {a b : Int} {m n : Nat} (ha : Szc a m) (hb : Szc b n) (h : m + n < 1000000) : vMulI (.int a) (.int b) = some (.int (a * b)) := vMulI_int (mulOk_c (ha := ha) (hb := hb) h)
theorem root_ex (n : Int) (h0 : 0 ≤ n) {k : Nat} (hk : Szc n k) (hl : k < 400000) : ∃ r, d_root_below [.int n] = .ok (.int r) [] ∧ Rt2 n r ∧ r ≤ n := by
  unfold d_root_below
  obtain ⟨b, ⟨b1, b2⟩, bc, bw⟩ := while_by (w := []) (t := bBin cLe (eBin vMul (eVar 2) (eVar 2)) (eVar 0)) (db := sAug 2 vMulI (eC (.int 2)))
    (fun h : Int => [some (.int n), some (.int 0), some (.int h), none]) (fun h => 1 ≤ h ∧ h ≤ 2 * n + 1) (fun h => decide (h * h ≤ n)) (fun h => h * 2) (fun h => (n + 1 - h).toNat)
    (fun a p => by
      have z := sz_two hk (show 0 ≤ a by omega) p.2
      simp [vMul_le z z (by omega)])
    (fun a p c => by
      have c := of_decide_eq_true c
      have : a ≤ a * a := by have := Int.mul_le_mul_of_nonneg_left p.1 (show 0 ≤ a by omega); omega
      have z := sz_two hk (show 0 ≤ a by omega) p.2
      refine ⟨by simp [mulI_le z (show Szc 2 2 from ⟨by decide⟩) (by omega)], ⟨by omega, by omega⟩, by omega⟩)
    1 ⟨by omega, by omega⟩
  have bc := of_decide_eq_false bc
  obtain ⟨⟨l, h, m⟩, ⟨c1, c2, c3, c4, c5⟩, cc, cw⟩ := while_by (w := []) (t := bBin cGt (eBin vSub (eVar 2) (eVar 1)) (eC (.int 1))) (db := sSeq (sAsg (eBin vFdiv (eBin vAdd (eVar 1) (eVar 2)) (eC (.int 2))) (gN 3))
      (sIf (bBin cLe (eBin vMul (eVar 3) (eVar 3)) (eVar 0)) (sAsg (eVar 3) (gN 1)) (sAsg (eVar 3) (gN 2))))
    (fun a : Int × Int × Option D => [some (.int n), some (.int a.1), some (.int a.2.1), a.2.2]) (fun a => 0 ≤ a.1 ∧ a.1 < a.2.1 ∧ a.2.1 ≤ 2 * n + 1 ∧ a.1 * a.1 ≤ n ∧ n < a.2.1 * a.2.1)
    (fun a => decide (1 < a.2.1 - a.1)) (fun a => let m := (a.1 + a.2.1) / 2; if m * m ≤ n then (m, a.2.1, some (.int m)) else (a.1, m, some (.int m))) (fun a => (a.2.1 - a.1).toNat)
    (fun a p => by simp)
    (fun a p c => by
      obtain ⟨l, h, m⟩ := a
      have c := of_decide_eq_true c
      simp only at p c ⊢
      have z := sz_two hk (show 0 ≤ (l + h) / 2 by omega) (by omega)
      have e : vMul (.int ((l + h) / 2)) (.int ((l + h) / 2)) = some (.int ((l + h) / 2 * ((l + h) / 2))) := vMul_le z z (by omega)
      by_cases q : (l + h) / 2 * ((l + h) / 2) ≤ n
      · simp only [q, if_true]
        refine ⟨by simp [divSm (b := 2) (by omega) (by omega), e, q], ⟨by omega, by omega, by omega, trivial, by omega⟩, by omega⟩
      · simp only [q, if_false]
        refine ⟨by simp [divSm (b := 2) (by omega) (by omega), e, q], ⟨by omega, by omega, by omega, by omega, by omega⟩, by omega⟩)
    (0, b, none) ⟨by simp, by simp; omega, b2, by simpa using h0, by simpa using bc⟩
  have cc := of_decide_eq_false cc
  simp only at c1 c2 c3 c4 c5 cc bw cw
  have e : h = l + 1 := by omega
  subst e
  refine ⟨l, by simp [bw, cw], ⟨c1, c4, c5⟩, ?_⟩
  by_cases z : l = 0
  · omega
  · have := Int.mul_le_mul_of_nonneg_left (show 1 ≤ l by omega) c1
    omega
theorem rt2_uniq {D r q : Int} (h : Rt2 D r) (k : Rt2 D q) : r = q := by
  obtain ⟨a1, a2, a3⟩ := h
  obtain ⟨b1, b2, b3⟩ := k
  have g1 : ¬ q < r := fun z => by
    have := Int.mul_le_mul (show q + 1 ≤ r by omega) (show q + 1 ≤ r by omega) (by omega) a1
    omega
  have g2 : ¬ r < q := fun z => by
    have := Int.mul_le_mul (show r + 1 ≤ q by omega) (show r + 1 ≤ q by omega) (by omega) b1
    omega
  omega
theorem root_is {D r : Int} (h : Rt2 D r) (hD : 0 ≤ D) {k : Nat} (hk : Szc D k) (hl : k < 400000) : d_root_below [.int D] = .ok (.int r) [] := by
  obtain ⟨q, e, q1, _⟩ := root_ex D hD hk hl
  rw [rt2_uniq h q1]; exact e
theorem rt2_le {D r : Int} (h : Rt2 D r) : r ≤ D := by
  obtain ⟨a1, a2, a3⟩ := h
  by_cases z : r = 0
  · subst z; omega
  · have := Int.mul_le_mul_of_nonneg_left (show 1 ≤ r by omega) a1
    omega
theorem rt2_ex {n : Int} (h : 0 ≤ n) : ∃ r, Rt2 n r := by
  have : ∀ k : Nat, ∃ r : Int, Rt2 (k : Int) r := by
    intro k
    induction k with
    | zero => exact ⟨0, by omega, by simp, by simp⟩
    | succ k ih =>
      obtain ⟨r, r0, r1, r2⟩ := ih
      by_cases z : ((k + 1 : Nat) : Int) < (r + 1) * (r + 1)
      · exact ⟨r, r0, by omega, z⟩
      · have e : (r + 1 + 1) * (r + 1 + 1) = (r + 1) * (r + 1) + 2 * r + 3 := by grind
        exact ⟨r + 1, by omega, by omega, by omega⟩
  obtain ⟨r, hr⟩ := this n.toNat
  rw [Int.toNat_of_nonneg h] at hr
  exact ⟨r, hr⟩
open Classical in
/-- whether a number is a square -/
noncomputable def sqB (n : Int) : Bool := decide (∃ x : Int, x * x = n)
theorem sqB_true {n : Int} : sqB n = true ↔ ∃ x : Int, x * x = n := by unfold sqB; simp
theorem sqB_false {n : Int} : sqB n = false ↔ NSq n := by
  unfold sqB NSq
  simp
theorem sqB_root {n r : Int} (h : Rt2 n r) : sqB n = decide (r * r = n) := by
  rw [Bool.eq_iff_iff, sqB_true, decide_eq_true_eq]
  constructor
  · intro ⟨x, hx⟩
    have k := sq_le_of h (x := x) (by omega)
    by_cases z : x.natAbs = r
    · have : (x.natAbs : Int) * x.natAbs = x * x := Int.natAbs_mul_self' x
      rw [← z, this]; exact hx
    · have r0 := h.r0
      have e : (x.natAbs : Int) * x.natAbs = x * x := Int.natAbs_mul_self' x
      have lo := h.lo
      have := Int.mul_le_mul (show (x.natAbs : Int) + 1 ≤ r by omega) (show (x.natAbs : Int) + 1 ≤ r by omega) (by omega) (by omega)
      have e2 : ((x.natAbs : Int) + 1) * (x.natAbs + 1) = x.natAbs * x.natAbs + 2 * x.natAbs + 1 := by grind
      omega
  · intro e; exact ⟨r, e⟩
theorem sqB_neg {n : Int} (h : n < 0) : sqB n = false := by
  rw [sqB_false]
  intro x hx
  have := Int.mul_nonneg (show (0 : Int) ≤ x.natAbs by omega) (show (0 : Int) ≤ x.natAbs by omega)
  rw [Int.natAbs_mul_self'] at this
  omega
theorem is_square_is {n : Int} {k : Nat} (hk : Szc n k) (hl : k < 400000) : d_is_square [.int n] = .ok (.bool (sqB n)) [] := by
  unfold d_is_square
  by_cases z : 0 ≤ n
  · obtain ⟨r, e, hr, rn⟩ := root_ex n z hk hl
    have zr := sz_one hk hr.r0 rn
    simp [z, e, vMul_le zr zr (by omega), sqB_root hr]
  · simp [z, sqB_neg (show n < 0 by omega)]
theorem L_half {n : Int} (h0 : 0 ≤ n) {k : Nat} (hk : Szc n k) (hl : k < 400000) : ∃ l m, Rt2 n l ∧ sWhile (bBin cGt (eBin vSub (eVar 2) (eVar 1)) (eC (.int 1))) (sSeq (sAsg (eBin vFdiv (eBin vAdd (eVar 1) (eVar 2)) (eC (.int 2))) (gN 3))
      (sIf (bBin cLe (eBin vMul (eVar 3) (eVar 3)) (eVar 0)) (sAsg (eVar 3) (gN 1)) (sAsg (eVar 3) (gN 2)))) [some (.int n), some (.int 0), some (.int (n + 1)), none] [] = .ok (.next [some (.int n), some (.int l), some (.int (l + 1)), m]) [] := by
  obtain ⟨⟨l, h, m⟩, ⟨c1, c2, c3, c4, c5⟩, cc, cw⟩ := while_by (w := []) (t := bBin cGt (eBin vSub (eVar 2) (eVar 1)) (eC (.int 1))) (db := sSeq (sAsg (eBin vFdiv (eBin vAdd (eVar 1) (eVar 2)) (eC (.int 2))) (gN 3))
      (sIf (bBin cLe (eBin vMul (eVar 3) (eVar 3)) (eVar 0)) (sAsg (eVar 3) (gN 1)) (sAsg (eVar 3) (gN 2))))
    (fun a : Int × Int × Option D => [some (.int n), some (.int a.1), some (.int a.2.1), a.2.2]) (fun a => 0 ≤ a.1 ∧ a.1 < a.2.1 ∧ a.2.1 ≤ 2 * n + 1 ∧ a.1 * a.1 ≤ n ∧ n < a.2.1 * a.2.1)
    (fun a => decide (1 < a.2.1 - a.1)) (fun a => let m := (a.1 + a.2.1) / 2; if m * m ≤ n then (m, a.2.1, some (.int m)) else (a.1, m, some (.int m))) (fun a => (a.2.1 - a.1).toNat)
    (fun a p => by simp)
    (fun a p c => by
      obtain ⟨l, h, m⟩ := a
      have c := of_decide_eq_true c
      simp only at p c ⊢
      have z := sz_two hk (show 0 ≤ (l + h) / 2 by omega) (by omega)
      have e : vMul (.int ((l + h) / 2)) (.int ((l + h) / 2)) = some (.int ((l + h) / 2 * ((l + h) / 2))) := vMul_le z z (by omega)
      by_cases q : (l + h) / 2 * ((l + h) / 2) ≤ n
      · simp only [q, if_true]
        refine ⟨by simp [divSm (b := 2) (by omega) (by omega), e, q], ⟨by omega, by omega, by omega, trivial, by omega⟩, by omega⟩
      · simp only [q, if_false]
        refine ⟨by simp [divSm (b := 2) (by omega) (by omega), e, q], ⟨by omega, by omega, by omega, by omega, by omega⟩, by omega⟩)
    (0, n + 1, none) ⟨by simp, by simp; omega, by simp; omega, by simpa using h0, by simp; have := Int.mul_le_mul_of_nonneg_left (show 1 ≤ n + 1 by omega) (show 0 ≤ n + 1 by omega); omega⟩
  have cc := of_decide_eq_false cc
  simp only at c1 c2 c3 c4 c5 cc cw
  have e : h = l + 1 := by omega
  subst e
  exact ⟨l, m, ⟨c1, c4, c5⟩, cw⟩
theorem L_is_square_is {n : Int} {k : Nat} (hk : Szc n k) (hl : k < 400000) : d_L_is_square [.int n] = .ok (.bool (sqB n)) [] := by
  unfold d_L_is_square
  by_cases h0 : 0 ≤ n
  · obtain ⟨l, m, hr, cw⟩ := L_half h0 hk hl
    have z : ¬ n < 0 := by omega
    have zr := sz_one hk hr.r0 (rt2_le hr)
    simp [z, cw, vMul_le zr zr (by omega), sqB_root hr]
  · simp [show n < 0 by omega, sqB_neg (show n < 0 by omega)]
theorem L_floor_is {n r : Int} (h : Rt2 n r) (h0 : 0 ≤ n) {k : Nat} (hk : Szc n k) (hl : k < 400000) : d_L_floor [.int n] = .ok (.int r) [] := by
  unfold d_L_floor
  obtain ⟨l, m, hr, cw⟩ := L_half h0 hk hl
  rw [rt2_uniq h hr]
  simp [cw]
theorem draw_eq : d_L_draw = dDraw := rfl
theorem L_draw_ok {ω : Wd} (h : StOk ω) {m : Int} (hm : 0 < m) (hm2 : m < 2 ^ 200) : ∃ r ω', d_L_draw [.int m] ω = .ok (.int r) ω' ∧ 0 ≤ r ∧ r < m ∧ StOk ω' := by
  rw [draw_eq]; exact draw_ok h hm (by omega)
def kTry (x : PySem.Str) (ds : Ev → MM Fl) (ρ : Ev) : Res Fl → Res Fl
  | .exc e w => if e.name = x then noX (ds ρ w) else .bad
  | r => r
theorem sTry_ap (x : PySem.Str) (db ds : Ev → MM Fl) (ρ : Ev) (ω : Wd) : sTry x db ds ρ ω = kTry x ds ρ (db ρ ω) := by unfold sTry; cases db ρ ω <;> rfl
theorem kTry_exc (x : PySem.Str) (ds : Ev → MM Fl) (ρ : Ev) (e : Ex) (w : Wd) : kTry x ds ρ (.exc e w) = if e.name = x then noX (ds ρ w) else .bad := (rfl)
theorem kTry_ok (x : PySem.Str) (ds : Ev → MM Fl) (ρ : Ev) (f : Fl) (w : Wd) : kTry x ds ρ (.ok f w) = .ok f w := (rfl)
end M

set_option Elab.async false
set_option linter.all false
set_option maxRecDepth 100000
set_option maxHeartbeats 4000000
namespace M
/-! ### the cycle of a reduced form is the river's turns -/
def Fm.star (f : Fm) : Fm := ⟨-f.a, f.b, -f.c⟩
theorem Fm.star_star (f : Fm) : f.star.star = f := by ext <;> simp [Fm.star]
theorem Fm.star_disc (f : Fm) : f.star.disc = f.disc := by simp only [Fm.disc, Fm.star]; grind
theorem Fm.star_turn (f : Fm) (m : Mt) : f.star.turn m.op = (f.turn m).star := by ext <;> simp only [Fm.turn, Fm.at, Mt.op, Fm.star] <;> grind
theorem Fm.RedM.star {f : Fm} (h : f.RedM) : f.star.RedM := by
  obtain ⟨s, b1, b2⟩ := h
  refine ⟨?_, ?_, ?_⟩ <;> simp only [Fm.star] <;> omega
theorem Fm.RedM.c0 {f : Fm} (h : f.RedM) : f.c ≠ 0 := by have := h.sg; omega
theorem star_nxM (r : Int) (f : Fm) : nxM r f.star = nxM r f := by simp [nxM, Fm.star]
theorem star_nxQ {r : Int} {f : Fm} (hc : f.c ≠ 0) : nxQ r f.star = -nxQ r f := by
  obtain ⟨q, e1, e2, _⟩ := nx_mid (r := r) hc
  obtain ⟨q', e1', e2', _⟩ := nx_mid (r := r) (f := f.star) (by simp only [Fm.star]; omega)
  rw [star_nxM] at e2'
  rw [e1, e1']
  simp only [Fm.star] at e2'
  have : 2 * f.c * (q + q') = 0 := by grind
  rcases Int.mul_eq_zero.1 this with z | z
  · omega
  · omega
theorem star_nxF {r : Int} {f : Fm} (hc : f.c ≠ 0) : nxF r f.star = (nxF r f).star := by
  unfold nxF
  rw [star_nxQ hc, ← Fm.star_turn, ← Fm.turn_neg]
  congr 1
  ext <;> simp [Mt.neg, Mt.op]
def Mt.S : Mt := ⟨0, -1, 1, 0⟩
theorem Fm.turn_S (f : Fm) : f.turn Mt.S = ⟨f.c, -f.b, f.a⟩ := by ext <;> simp only [Fm.turn, Fm.at, Mt.S] <;> grind
theorem at_succ (f : Fm) (j : Int) : f.at 1 (j + 1) = f.at 1 j + (f.b + 2 * f.c * j) + f.c := by simp only [Fm.at]; grind
theorem at_disc (f : Fm) (j : Int) : 4 * (f.at 1 j * f.c) = (f.b + 2 * f.c * j) * (f.b + 2 * f.c * j) - f.disc := by simp only [Fm.at, Fm.disc]; grind
theorem sign_of_neg {x c : Int} (hc : c < 0) (h : x * c < 0) : 0 < x := by
  rcases Int.lt_trichotomy x 0 with z | z | z
  · have := Int.mul_pos (show 0 < -x by omega) (show 0 < -c by omega)
    have e : -x * -c = x * c := by grind
    omega
  · subst z; omega
  · exact z
theorem sign_of_pos {x c : Int} (hc : c < 0) (h : 0 < x * c) : x < 0 := by
  have := sign_of_neg (x := -x) hc (by have e : -x * c = -(x * c) := by grind
                                       omega)
  omega
theorem run {f : Fm} {r : Int} (h : f.RedM) (ha : 0 < f.a) (hr : Rt2 f.disc r) (hn : NSq f.disc) :
    ∃ m : Nat, 1 ≤ m ∧ nxQ r f = -(m : Int) ∧ (∀ j : Nat, j ≤ m → Fm.sts j f = ⟨f.at 1 j, f.b + 2 * f.c * j, f.c⟩ ∧ Fm.stW j f = ⟨1, 0, j, 1⟩ ∧ 0 < f.at 1 j) ∧ f.at 1 ((m : Int) + 1) < 0 := by
  have hc : f.c < 0 := by have := h.sg; omega
  obtain ⟨k1, k2, k3, k4, k5⟩ := h.bounds hr
  obtain ⟨q, e1, e2, _, e3, e4⟩ := nx_mid (r := r) h.c0
  have ab : (f.c.natAbs : Int) = -f.c := by omega
  rw [if_pos (by omega)] at e3 e4
  have q1 : q ≤ -1 := by
    apply Int.not_lt.1
    intro z
    have := Int.mul_nonneg (show 0 ≤ -(2 * f.c) by omega) (show 0 ≤ q by omega)
    have e : -(2 * f.c) * q = -(2 * f.c * q) := by grind
    omega
  refine ⟨(-q).toNat, by omega, by omega, ?_, ?_⟩
  · have pos : ∀ j : Nat, (j : Int) ≤ -q → 0 < f.at 1 j := by
      intro j hj
      have d := at_disc f j
      have s1 := Int.mul_nonneg (show 0 ≤ -(2 * f.c) by omega) (show 0 ≤ (j : Int) by omega)
      have s2 := Int.mul_le_mul_of_nonneg_left hj (show 0 ≤ -(2 * f.c) by omega)
      have t1 : -(2 * f.c) * (j : Int) = -(2 * f.c * j) := by grind
      have t2 : -(2 * f.c) * -q = 2 * f.c * q := by grind
      have := sq_le_to hr (x := f.b + 2 * f.c * j) (by omega)
      have := hn (f.b + 2 * f.c * j)
      exact sign_of_neg hc (by omega)
    intro j
    induction j with
    | zero =>
      intro _
      refine ⟨?_, rfl, pos 0 (by omega)⟩
      ext <;> simp [Fm.sts, Fm.at]
    | succ j ih =>
      intro hj
      obtain ⟨i1, i2, i3⟩ := ih (by omega)
      have p := pos (j + 1) (by omega)
      have ej : ((j + 1 : Nat) : Int) = (j : Int) + 1 := by omega
      have u : (Fm.sts j f).up := by
        rw [i1]; show 0 < f.at 1 j + (f.b + 2 * f.c * j) + f.c
        rw [← at_succ, ← ej]; exact p
      have es : (Fm.sts j f).stM = Mt.Lm := if_pos u
      refine ⟨?_, ?_, p⟩
      · rw [Fm.sts_add j 1]
        show (Fm.sts j f).st = _
        rw [Fm.st, es, i1, Fm.turn_L]
        ext
        · simp only [ej]; rw [at_succ]
        · simp only [ej]; grind
        · rfl
      · rw [Fm.stW_add j 1]
        show (Fm.stW j f).mul ((Fm.sts j f).stM.mul Mt.one) = _
        rw [es, i2, ej]
        ext <;> simp [Mt.mul, Mt.Lm, Mt.one]
  · have d := at_disc f (-q + 1)
    have t2 : 2 * f.c * (-q + 1) = -(2 * f.c * q) + 2 * f.c := by grind
    have := sq_gt_to hr (x := f.b + 2 * f.c * (-q + 1)) (.inl (by omega))
    have e : (((-q).toNat : Nat) : Int) = -q := by omega
    rw [e]
    exact sign_of_pos hc (by omega)
theorem run_nx {f : Fm} {r : Int} (h : f.RedM) (ha : 0 < f.a) (hr : Rt2 f.disc r) (hn : NSq f.disc) {m : Nat} (hq : nxQ r f = -(m : Int))
    (hs : Fm.sts m f = ⟨f.at 1 m, f.b + 2 * f.c * m, f.c⟩ ∧ Fm.stW m f = ⟨1, 0, m, 1⟩ ∧ 0 < f.at 1 m) : nxF r f = (Fm.sts m f).turn Mt.S ∧ (Mt.mk 0 (-1) 1 (nxQ r f)) = (Fm.stW m f).mul Mt.S := by
  have e : (Mt.mk 0 (-1) 1 (nxQ r f)) = (Fm.stW m f).mul Mt.S := by
    rw [hs.2.1, hq]; ext <;> simp [Mt.mul, Mt.S]
  refine ⟨?_, e⟩
  rw [nxF, e, ← Fm.turn_mul, Fm.stW_turn]
theorem nx_red_pos {f : Fm} {r : Int} (h : f.RedM) (ha : 0 < f.a) (hr : Rt2 f.disc r) (hn : NSq f.disc) : (nxF r f).RedM ∧ (nxF r f).a = f.c := by
  have hc : f.c < 0 := by have := h.sg; omega
  obtain ⟨m, m1, hq, hs, hl⟩ := run h ha hr hn
  obtain ⟨e, _⟩ := run_nx h ha hr hn hq (hs m (Nat.le_refl _))
  have s1 := hs m (Nat.le_refl _)
  have s0 := hs (m - 1) (by omega)
  rw [e, s1.1, Fm.turn_S]
  have em : ((m - 1 : Nat) : Int) + 1 = m := by omega
  have b0 := at_succ f ((m - 1 : Nat) : Int)
  rw [em] at b0
  have b1 := at_succ f (m : Int)
  have em2 : 2 * f.c * (m : Int) = 2 * f.c * ((m - 1 : Nat) : Int) + 2 * f.c := by rw [← em]; grind
  exact ⟨⟨.inr ⟨hc, s1.2.2⟩, by simp only; omega, by simp only; have := s0.2.2; omega⟩, rfl⟩
theorem nx_red {f : Fm} {r : Int} (h : f.RedM) (hr : Rt2 f.disc r) (hn : NSq f.disc) : (nxF r f).RedM ∧ (nxF r f).a = f.c := by
  rcases h.sg with ⟨z1, z2⟩ | ⟨z1, z2⟩
  · exact nx_red_pos h z1 hr hn
  · have := nx_red_pos (r := r) h.star (by simp only [Fm.star]; omega) (by rw [Fm.star_disc]; exact hr) (by rw [Fm.star_disc]; exact hn)
    rw [star_nxF h.c0] at this
    have g := this.1.star
    rw [Fm.star_star] at g
    refine ⟨g, ?_⟩
    have := this.2
    simp only [Fm.star] at this
    omega
/-! both sides exchanged -/
def Fm.chi (f : Fm) : Fm := ⟨-f.c, -f.b, -f.a⟩
def Mt.flip (m : Mt) : Mt := ⟨m.s, m.r, m.q, m.p⟩
theorem Fm.chi_chi (f : Fm) : f.chi.chi = f := by ext <;> simp [Fm.chi]
theorem Mt.flip_mul (x y : Mt) : (x.mul y).flip = x.flip.mul y.flip := by ext <;> simp only [Mt.mul, Mt.flip] <;> grind
theorem Fm.chi_turn (f : Fm) (m : Mt) : f.chi.turn m.flip = (f.turn m).chi := by ext <;> simp only [Fm.turn, Fm.at, Fm.chi, Mt.flip] <;> grind
theorem Fm.chi_up {f : Fm} (hn : NSq f.disc) : f.chi.up ↔ ¬ f.up := by
  have := Fm.ne_up hn
  simp only [Fm.up, Fm.chi]; omega
theorem Fm.chi_stM {f : Fm} (hn : NSq f.disc) : f.chi.stM = f.stM.flip := by
  unfold Fm.stM
  by_cases u : f.up
  · rw [if_pos u, if_neg (fun h => (Fm.chi_up hn).1 h u)]; rfl
  · rw [if_neg u, if_pos ((Fm.chi_up hn).2 u)]; rfl
theorem Fm.chi_st {f : Fm} (hn : NSq f.disc) : f.chi.st = f.st.chi := by rw [Fm.st, Fm.chi_stM hn, Fm.chi_turn]; rfl
theorem Fm.chi_sts : ∀ (n : Nat) {f : Fm}, NSq f.disc → Fm.sts n f.chi = (Fm.sts n f).chi ∧ Fm.stW n f.chi = (Fm.stW n f).flip
  | 0, _, _ => ⟨rfl, rfl⟩
  | n + 1, f, hn => by
    have := Fm.chi_sts n (f := f.st) (by rw [Fm.st_disc]; exact hn)
    rw [← Fm.chi_st hn] at this
    refine ⟨this.1, ?_⟩
    rw [Fm.stW, Fm.stW, this.2, Fm.chi_stM hn, Mt.flip_mul]
/-- two steps of the cycle: from one turn of the river to the next one of its kind -/
theorem runTwo {f : Fm} {r : Int} (h : f.RedM) (ha : 0 < f.a) (hr : Rt2 f.disc r) (hn : NSq f.disc) :
    ∃ n : Nat, 2 ≤ n ∧ nxF r (nxF r f) = Fm.sts n f ∧ (Mt.mk 0 (-1) 1 (nxQ r f)).mul (Mt.mk 0 (-1) 1 (nxQ r (nxF r f))) = (Fm.stW n f).neg ∧
      (∀ j, 0 < j → j < n → ¬ ((Fm.sts j f).up ∧ (Fm.sts j f).a - (Fm.sts j f).b + (Fm.sts j f).c < 0)) ∧
      (∃ m, 1 ≤ m ∧ m < n ∧ nxF r f = (Fm.sts m f).turn Mt.S ∧ (∀ j, j ≤ m → (Fm.sts j f).c = f.c) ∧ (∀ j, m ≤ j → j ≤ n → (Fm.sts j f).a = (nxF r f).c) ∧
        (∀ i : Nat, m + i ≤ n → (Fm.sts (m + i) f).c = -((nxF r f).star.at 1 i)) ∧ (∀ j : Nat, j ≤ m → (Fm.sts j f).a = f.at 1 j) ∧ (∀ j, m ≤ j → j < n → ¬ (Fm.sts j f).up) ∧ (∀ j, j < m → (Fm.sts j f).up)) := by
  have hc : f.c < 0 := by have := h.sg; omega
  obtain ⟨m, m1, hq, hs, hl⟩ := run h ha hr hn
  have hsm := hs m (Nat.le_refl _)
  obtain ⟨e, e'⟩ := run_nx h ha hr hn hq hsm
  obtain ⟨gr, ga⟩ := nx_red h hr hn
  have gs : (nxF r f).star = (Fm.sts m f).chi := by
    rw [e, Fm.turn_S]; ext <;> simp [Fm.star, Fm.chi]
  have hF : NSq (Fm.sts m f).disc := by rw [Fm.sts_disc]; exact hn
  have gd : (nxF r f).star.disc = f.disc := by rw [Fm.star_disc, nx_disc]
  have gpos : 0 < (nxF r f).star.a := by simp only [Fm.star, ga]; omega
  obtain ⟨m', m1', hq', hs', hl'⟩ := run (r := r) gr.star gpos (by rw [gd]; exact hr) (by rw [gd]; exact hn)
  have hsm' := hs' m' (Nat.le_refl _)
  obtain ⟨k, k'⟩ := run_nx (r := r) gr.star gpos (by rw [gd]; exact hr) (by rw [gd]; exact hn) hq' hsm'
  have back : ∀ j, Fm.sts (m + j) f = (Fm.sts j (nxF r f).star).chi := by
    intro j
    rw [gs, (Fm.chi_sts j hF).1, Fm.chi_chi, Fm.sts_add]
  have backW : Fm.stW m' (Fm.sts m f) = ⟨1, m', 0, 1⟩ := by
    have : (Fm.stW m' (nxF r f).star).flip = Fm.stW m' (Fm.sts m f) := by
      rw [gs, (Fm.chi_sts m' hF).2]; rfl
    rw [← this, hsm'.2.1]; rfl
  have hu : ∀ j, j < m → (Fm.sts j f).up := by
    intro j hj
    have s1 := hs j (by omega)
    have s2 := hs (j + 1) (by omega)
    rw [s1.1]
    show 0 < f.at 1 j + (f.b + 2 * f.c * j) + f.c
    rw [← at_succ]
    exact s2.2.2
  have hu' : ∀ j, m ≤ j → j < m + m' → ¬ (Fm.sts j f).up := by
    intro j hj hj2
    obtain ⟨i, rfl⟩ := Nat.le.dest hj
    have s1 := hs' i (by omega)
    have s2 := hs' (i + 1) (by omega)
    have : (Fm.sts i (nxF r f).star).up := by
      rw [s1.1]
      show 0 < (nxF r f).star.at 1 i + ((nxF r f).star.b + 2 * (nxF r f).star.c * i) + (nxF r f).star.c
      rw [← at_succ]
      exact s2.2.2
    rw [back]
    intro u
    have hd : NSq (Fm.sts i (nxF r f).star).disc := by rw [Fm.sts_disc, gd]; exact hn
    exact (Fm.chi_up hd).1 u this
  refine ⟨m + m', by omega, ?_, ?_, ?_, m, m1, by omega, e, fun j hj => by rw [(hs j hj).1], ?_, fun i hi => by rw [back, (hs' i (by omega)).1]; rfl, fun j hj => by rw [(hs j hj).1], hu', hu⟩
  · have t : (nxF r (nxF r f)).star = nxF r (nxF r f).star := (star_nxF gr.c0).symm
    rw [k] at t
    have t2 : nxF r (nxF r f) = ((Fm.sts m' (nxF r f).star).turn Mt.S).star := by rw [← t, Fm.star_star]
    rw [t2, back, Fm.turn_S]
    ext <;> simp [Fm.star, Fm.chi]
  · have q2 : nxQ r (nxF r f) = m' := by
      have := star_nxQ (r := r) gr.c0
      omega
    rw [e', q2, Fm.stW_add, backW]
    ext <;> simp only [Mt.mul, Mt.neg, Mt.S] <;> grind
  · intro j j1 j2 ⟨u, d⟩
    by_cases z : j < m
    · have s1 := hs j (by omega)
      have s0 := hs (j - 1) (by omega)
      have ej : ((j - 1 : Nat) : Int) + 1 = j := by omega
      have b0 := at_succ f ((j - 1 : Nat) : Int)
      rw [ej] at b0
      have em2 : 2 * f.c * (j : Int) = 2 * f.c * ((j - 1 : Nat) : Int) + 2 * f.c := by rw [← ej]; grind
      rw [s1.1] at d
      simp only at d
      have := s0.2.2
      omega
    · exact hu' j (by omega) j2 u
  · intro j hj hj2
    obtain ⟨i, rfl⟩ := Nat.le.dest hj
    rw [back, (hs' i (by omega)).1]
    simp only [Fm.chi, Fm.star]; omega
end M

set_option Elab.async false
set_option linter.all false
set_option maxRecDepth 100000
set_option maxHeartbeats 4000000
namespace M
/-! ### round the cycle -/
theorem nodup_len : ∀ (l m : List Nat), l.Nodup → (∀ x ∈ l, x ∈ m) → l.length ≤ m.length
  | [], m, _, _ => by simp
  | x :: l, m, h1, h2 => by
    obtain ⟨a1, a2⟩ := List.nodup_cons.1 h1
    have hm := h2 x (by simp)
    have := nodup_len l (m.erase x) a2 fun y hy => (List.mem_erase_of_ne (fun e => a1 (by rw [← e]; exact hy))).2 (h2 y (by simp [hy]))
    rw [List.length_erase_of_mem hm] at this
    have := List.length_pos_of_mem hm
    simp only [List.length_cons]
    omega
theorem pigeon (f : Nat → Nat) (m : Nat) (h : ∀ k, k ≤ m → f k < m) : ∃ i j, i < j ∧ j ≤ m ∧ f i = f j := by
  by_cases c : ((List.range (m + 1)).map f).Nodup
  · have := nodup_len _ (List.range m) c fun x hx => by
      obtain ⟨k, hk, rfl⟩ := List.mem_map.1 hx
      rw [List.mem_range] at hk ⊢
      exact h k (by omega)
    simp at this
    omega
  · unfold List.Nodup at c
    rw [List.pairwise_map] at c
    have : ¬ ∀ i j, i < j → j ≤ m → f i ≠ f j := fun z => c (by
      refine List.Pairwise.imp_of_mem (fun {a b} _ hb hab => z a b hab (by rw [List.mem_range] at hb; omega)) List.pairwise_lt_range)
    apply Classical.byContradiction
    intro z
    exact this fun i j hij hj e => z ⟨i, j, hij, hj, e⟩
theorem least_ex {p : Nat → Prop} : ∀ n, p n → ∃ k, k ≤ n ∧ p k ∧ ∀ j, j < k → ¬ p j := by
  intro n
  induction n using Nat.strongRecOn with
  | ind n ih =>
    intro h
    by_cases c : ∃ j, j < n ∧ p j
    · obtain ⟨j, hj, pj⟩ := c
      obtain ⟨k, k1, k2, k3⟩ := ih j hj pj
      exact ⟨k, by omega, k2, k3⟩
    · exact ⟨n, Nat.le_refl _, h, fun j hj pj => c ⟨j, hj, pj⟩⟩
def nxT (r : Int) (f : Fm) : Mt := ⟨0, -1, 1, nxQ r f⟩
def gs (r : Int) : Nat → Fm → Fm
  | 0, f => f
  | n + 1, f => gs r n (nxF r f)
def gW (r : Int) : Nat → Fm → Mt
  | 0, _ => Mt.one
  | n + 1, f => (nxT r f).mul (gW r n (nxF r f))
theorem gs_add (r : Int) : ∀ (m n : Nat) (f : Fm), gs r (m + n) f = gs r n (gs r m f)
  | 0, n, f => by rw [Nat.zero_add]; rfl
  | m + 1, n, f => by
    have : m + 1 + n = (m + n) + 1 := by omega
    rw [this, gs, gs_add r m n, gs]
theorem gW_add (r : Int) : ∀ (m n : Nat) (f : Fm), gW r (m + n) f = (gW r m f).mul (gW r n (gs r m f))
  | 0, n, f => by rw [Nat.zero_add]; exact (Mt.one_mul _).symm
  | m + 1, n, f => by
    have : m + 1 + n = (m + n) + 1 := by omega
    rw [this, gW, gW_add r m n, gW, Mt.mul_assoc, gs]
theorem gW_turn (r : Int) : ∀ (n : Nat) (f : Fm), f.turn (gW r n f) = gs r n f
  | 0, f => Fm.turn_one f
  | n + 1, f => by rw [gW, ← Fm.turn_mul]; exact gW_turn r n (nxF r f)
theorem gW_det (r : Int) : ∀ (n : Nat) (f : Fm), (gW r n f).det = 1
  | 0, f => rfl
  | n + 1, f => by rw [gW, Mt.det_mul, gW_det r n, nxT, nx_det]; rfl
theorem gs_disc (r : Int) : ∀ (n : Nat) (f : Fm), (gs r n f).disc = f.disc
  | 0, _ => rfl
  | n + 1, f => by rw [gs, gs_disc r n, nx_disc]
theorem gs_red {r : Int} : ∀ (n : Nat) {f : Fm}, f.RedM → Rt2 f.disc r → NSq f.disc → (gs r n f).RedM
  | 0, _, h, _, _ => h
  | n + 1, f, h, hr, hn => by rw [gs]; exact gs_red n (nx_red h hr hn).1 (by rw [nx_disc]; exact hr) (by rw [nx_disc]; exact hn)
/-- back -/
def Fm.swp (f : Fm) : Fm := ⟨f.c, f.b, f.a⟩
theorem Fm.swp_disc (f : Fm) : f.swp.disc = f.disc := by simp only [Fm.disc, Fm.swp]; grind
theorem Fm.RedM.swp {f : Fm} (h : f.RedM) : f.swp.RedM := by
  obtain ⟨s, b1, b2⟩ := h
  refine ⟨?_, ?_, ?_⟩ <;> simp only [Fm.swp] <;> omega
theorem disc_c {f g : Fm} (ha : f.a = g.a) (hb : f.b = g.b) (hd : f.disc = g.disc) (h0 : f.a ≠ 0) : f = g := by
  refine Fm.ext ha hb ?_
  simp only [Fm.disc, ha, hb] at hd
  have e : 4 * g.a * (f.c - g.c) = 0 := by grind
  rcases Int.mul_eq_zero.1 e with z | z
  · omega
  · omega
theorem RedM.a0 {f : Fm} (h : f.RedM) : f.a ≠ 0 := by have := h.sg; omega
theorem nx_back {f : Fm} {r : Int} (h : f.RedM) (hr : Rt2 f.disc r) (hn : NSq f.disc) : nxF r (nxF r f).swp = f.swp := by
  obtain ⟨q, e1, e2, e3, e4, e5⟩ := nx_mid (r := r) h.c0
  obtain ⟨gr, ga⟩ := nx_red h hr hn
  obtain ⟨q', e1', e2', e3', e4', e5'⟩ := nx_mid (r := r) (f := (nxF r f).swp) gr.swp.c0
  obtain ⟨k1, k2, k3, k4, k5⟩ := h.bounds hr
  have kk : (f.c.natAbs : Int) ≤ r := by omega
  have cc : (nxF r f).swp.c = f.c := ga
  have bb : (nxF r f).swp.b = nxM r f := by rw [e3]; rfl
  rw [cc, if_pos kk] at e4' e5'
  rw [cc, bb] at e2'
  have mm : nxM r (nxF r f).swp = f.b := mid_uniq (r := r) h.c0 ⟨q' - q, by rw [e2', e2]; grind⟩ e4' e5' k4 k3
  refine disc_c ?_ ?_ ?_ ?_
  · rw [e3']; exact cc
  · rw [e3', mm]; rfl
  · rw [nx_disc, Fm.swp_disc, Fm.swp_disc, nx_disc]
  · rw [e3', cc]; exact h.c0
theorem nx_inj {f g : Fm} {r : Int} (h : f.RedM) (k : g.RedM) (hr : Rt2 f.disc r) (hn : NSq f.disc) (hd : g.disc = f.disc) (e : nxF r f = nxF r g) : f = g := by
  have h1 := nx_back h hr hn
  have h2 := nx_back k (by rw [hd]; exact hr) (by rw [hd]; exact hn)
  rw [e, h2] at h1
  have a := congrArg Fm.a h1
  have b := congrArg Fm.b h1
  have c := congrArg Fm.c h1
  exact Fm.ext c.symm b.symm a.symm
theorem gs_inj {r : Int} : ∀ (n : Nat) {f g : Fm}, f.RedM → g.RedM → Rt2 f.disc r → NSq f.disc → g.disc = f.disc → gs r n f = gs r n g → f = g
  | 0, _, _, _, _, _, _, _, e => e
  | n + 1, f, g, h, k, hr, hn, hd, e => by
    refine nx_inj h k hr hn hd ?_
    exact gs_inj n (nx_red h hr hn).1 (nx_red (r := r) k (by rw [hd]; exact hr) (by rw [hd]; exact hn)).1 (by rw [nx_disc]; exact hr) (by rw [nx_disc]; exact hn) (by rw [nx_disc, nx_disc]; exact hd) e
theorem enc_inj {x y a b w : Int} (ha : 0 ≤ a) (ha2 : a < w) (hb : 0 ≤ b) (hb2 : b < w) (e : x * w + a = y * w + b) : x = y ∧ a = b := by
  rcases Int.lt_trichotomy x y with z | z | z
  · have := Int.mul_le_mul_of_nonneg_right (show x + 1 ≤ y by omega) (show 0 ≤ w by omega)
    have e2 : (x + 1) * w = x * w + w := by grind
    omega
  · subst z; omega
  · have := Int.mul_le_mul_of_nonneg_right (show y + 1 ≤ x by omega) (show 0 ≤ w by omega)
    have e2 : (y + 1) * w = y * w + w := by grind
    omega
theorem period {f : Fm} {r : Int} (h : f.RedM) (hr : Rt2 f.disc r) (hn : NSq f.disc) :
    ∃ n : Nat, 1 ≤ n ∧ (n : Int) ≤ (r + 1) * (2 * r + 1) ∧ gs r n f = f ∧ ∀ j : Nat, 1 ≤ j → j < n → gs r j f ≠ f := by
  have r0 := hr.r0
  have w0 := Int.mul_nonneg (show 0 ≤ r + 1 by omega) (show 0 ≤ 2 * r + 1 by omega)
  have bd : ∀ k, 0 ≤ (gs r k f).a + r ∧ (gs r k f).a + r < 2 * r + 1 ∧ 0 < (gs r k f).b ∧ (gs r k f).b ≤ r := by
    intro k
    have := (gs_red k h hr hn).bounds (r := r) (by rw [gs_disc]; exact hr)
    omega
  obtain ⟨i, j, hij, hj, he⟩ := pigeon (fun k => ((gs r k f).b * (2 * r + 1) + ((gs r k f).a + r)).toNat) ((r + 1) * (2 * r + 1)).toNat (by
    intro k _
    obtain ⟨b1, b2, b3, b4⟩ := bd k
    have := Int.mul_le_mul_of_nonneg_right b4 (show 0 ≤ 2 * r + 1 by omega)
    have h0 := Int.mul_nonneg (show 0 ≤ (gs r k f).b by omega) (show 0 ≤ 2 * r + 1 by omega)
    have e : (r + 1) * (2 * r + 1) = r * (2 * r + 1) + (2 * r + 1) := by grind
    show ((gs r k f).b * (2 * r + 1) + ((gs r k f).a + r)).toNat < _
    omega)
  have he : ((gs r i f).b * (2 * r + 1) + ((gs r i f).a + r)).toNat = ((gs r j f).b * (2 * r + 1) + ((gs r j f).a + r)).toNat := he
  obtain ⟨b1, b2, b3, b4⟩ := bd i
  obtain ⟨c1, c2, c3, c4⟩ := bd j
  have i0 := Int.mul_nonneg (show 0 ≤ (gs r i f).b by omega) (show 0 ≤ 2 * r + 1 by omega)
  have j0 := Int.mul_nonneg (show 0 ≤ (gs r j f).b by omega) (show 0 ≤ 2 * r + 1 by omega)
  obtain ⟨x1, x2⟩ := enc_inj (w := 2 * r + 1) b1 b2 c1 c2 (x := (gs r i f).b) (y := (gs r j f).b) (by omega)
  have ef : gs r i f = gs r j f := disc_c (by omega) x1 (by rw [gs_disc, gs_disc]) (RedM.a0 (gs_red i h hr hn))
  obtain ⟨d, rfl⟩ := Nat.le.dest (Nat.le_of_lt hij)
  have : gs r d f = f := by
    refine (gs_inj i h (gs_red d h hr hn) hr hn (gs_disc r d f) ?_).symm
    rw [ef, Nat.add_comm, gs_add]
  obtain ⟨n, n1, ⟨n2, n3⟩, n4⟩ := least_ex (p := fun k => 1 ≤ k ∧ gs r k f = f) d ⟨by omega, this⟩
  refine ⟨n, n2, by omega, n3, fun j j1 j2 e => n4 j j2 ⟨j1, e⟩⟩
theorem RedM_pos {f : Fm} (ha : 0 < f.a) : f.RedM ↔ f.Riv ∧ f.up ∧ f.a - f.b + f.c < 0 := by
  constructor
  · intro ⟨s, b1, b2⟩
    exact ⟨⟨ha, by omega⟩, by unfold Fm.up; omega, by omega⟩
  · intro ⟨s, u, d⟩
    unfold Fm.up at u
    exact ⟨.inl ⟨ha, s.c⟩, by omega, by omega⟩
/-- the turns of one kind are the cycle's every other form -/
theorem reach {r : Int} : ∀ (k : Nat) {f : Fm}, f.RedM → 0 < f.a → Rt2 f.disc r → NSq f.disc → (Fm.sts k f).RedM → ∃ i, gs r (2 * i) f = Fm.sts k f ∧ (gW r (2 * i) f = Fm.stW k f ∨ gW r (2 * i) f = (Fm.stW k f).neg) := by
  intro k
  induction k using Nat.strongRecOn with
  | ind k ih =>
    intro f h ha hr hn hk
    by_cases k0 : k = 0
    · subst k0; exact ⟨0, rfl, .inl rfl⟩
    · obtain ⟨n, n2, e, w, no, _⟩ := runTwo h ha hr hn
      have kr := Fm.sts_riv k ((RedM_pos ha).1 h).1 hn
      have kt := ((RedM_pos kr.a).1 hk).2
      have hkn : n ≤ k := by
        apply Nat.not_lt.1
        intro z
        exact no k (by omega) z kt
      obtain ⟨d, rfl⟩ := Nat.le.dest hkn
      have e2 : gs r 2 f = Fm.sts n f := e
      have hr2 : Rt2 (nxF r f).disc r := by rw [nx_disc]; exact hr
      have hn2 : NSq (nxF r f).disc := by rw [nx_disc]; exact hn
      obtain ⟨g1, g2⟩ := nx_red h hr hn
      obtain ⟨g3, g4⟩ := nx_red g1 hr2 hn2
      rw [e] at g3 g4
      have ga : 0 < (Fm.sts n f).a := by have := g1.sg; have := h.sg; omega
      obtain ⟨i, i1, i2⟩ := ih d (by omega) g3 ga (by rw [Fm.sts_disc]; exact hr) (by rw [Fm.sts_disc]; exact hn) (by rw [← Fm.sts_add]; exact hk)
      have e3 : gs r (2 * (i + 1)) f = gs r (2 * i) (Fm.sts n f) := by
        have : 2 * (i + 1) = 2 + 2 * i := by omega
        rw [this, gs_add, e2]
      have w2 : gW r (2 * (i + 1)) f = ((Fm.stW n f).neg).mul (gW r (2 * i) (Fm.sts n f)) := by
        have : 2 * (i + 1) = 2 + 2 * i := by omega
        rw [this, gW_add, e2, ← w]
        congr 1
        show (nxT r f).mul ((nxT r (nxF r f)).mul Mt.one) = _
        rw [Mt.mul_one]; rfl
      refine ⟨i + 1, ?_, ?_⟩
      · rw [e3, i1, Fm.sts_add]
      · rw [w2, Fm.stW_add]
        rcases i2 with i2 | i2 <;> rw [i2]
        · right; ext <;> simp only [Mt.mul, Mt.neg] <;> grind
        · left; ext <;> simp only [Mt.mul, Mt.neg] <;> grind
theorem inv_inv (m : Mt) : m.inv.inv = m := by ext <;> simp [Mt.inv]
theorem inv_neg (m : Mt) : m.neg.inv = m.inv.neg := by ext <;> simp [Mt.inv, Mt.neg]
def PmEq (m w : Mt) : Prop := m = w ∨ m = w.neg
theorem eqv_pos {f : Fm} {m : Mt} {r : Int} (h : f.RedM) (ha : 0 < f.a) (hr : Rt2 f.disc r) (hn : NSq f.disc) (hd : m.det = 1) (k : (f.turn m).RedM) (ka : 0 < (f.turn m).a) :
    (∃ i, gs r (2 * i) f = f.turn m ∧ PmEq m (gW r (2 * i) f)) ∨ (∃ i, gs r (2 * i) (f.turn m) = f ∧ PmEq m.inv (gW r (2 * i) (f.turn m))) := by
  have dd : (f.turn m).disc = f.disc := by rw [Fm.disc_turn, hd]; omega
  have pm : ∀ {x w g : Mt}, (x = w ∨ x = w.neg) → (g = w ∨ g = w.neg) → PmEq x g := by
    intro x w g h1 h2
    rcases h1 with rfl | rfl <;> rcases h2 with rfl | rfl
    · exact .inl rfl
    · exact .inr (Mt.neg_neg _).symm
    · exact .inr rfl
    · exact .inl rfl
  obtain ⟨j, hj⟩ := Fm.riv_two ((RedM_pos ha).1 h).1 hn ((RedM_pos ka).1 k).1 hd
  rcases hj with hj | hj
  · left
    have e : Fm.sts j f = f.turn m := by
      rw [← Fm.stW_turn]
      rcases hj with hj | hj
      · rw [hj]
      · rw [hj, Fm.turn_neg]
    obtain ⟨i, i1, i2⟩ := reach (r := r) j h ha hr hn (by rw [e]; exact k)
    exact ⟨i, by rw [i1, e], pm hj i2⟩
  · right
    have e : Fm.sts j (f.turn m) = f := by
      rw [← Fm.stW_turn]
      have b := Fm.turn_back f hd
      rcases hj with hj | hj
      · rw [← hj, b]
      · rw [← Fm.turn_neg (f.turn m), ← hj, b]
    obtain ⟨i, i1, i2⟩ := reach (r := r) j k ka (by rw [dd]; exact hr) (by rw [dd]; exact hn) (by rw [e]; exact h)
    exact ⟨i, by rw [i1, e], pm hj i2⟩
theorem star_gs {r : Int} : ∀ (n : Nat) {f : Fm}, f.RedM → Rt2 f.disc r → NSq f.disc → gs r n f.star = (gs r n f).star ∧ PmEq (gW r n f.star) (gW r n f).op
  | 0, _, _, _, _ => ⟨rfl, .inl rfl⟩
  | n + 1, f, h, hr, hn => by
    obtain ⟨i1, i2⟩ := star_gs n (f := nxF r f) (nx_red h hr hn).1 (by rw [nx_disc]; exact hr) (by rw [nx_disc]; exact hn)
    rw [gs, gs, gW, gW, star_nxF h.c0]
    refine ⟨i1, ?_⟩
    have t : nxT r f.star = (nxT r f).op.neg := by
      unfold nxT
      rw [star_nxQ h.c0]
      ext <;> simp [Mt.neg, Mt.op]
    rw [t]
    rcases i2 with i2 | i2 <;> rw [i2]
    · right; ext <;> simp only [Mt.mul, Mt.neg, Mt.op] <;> grind
    · left; ext <;> simp only [Mt.mul, Mt.neg, Mt.op] <;> grind
theorem op_op (m : Mt) : m.op.op = m := by ext <;> simp [Mt.op]
theorem PmEq.op {m w : Mt} (h : PmEq m w) : PmEq m.op w.op := by
  rcases h with rfl | rfl
  · exact .inl rfl
  · exact .inr (by ext <;> simp [Mt.neg, Mt.op])
theorem PmEq.trans {x y z : Mt} (h : PmEq x y) (k : PmEq y z) : PmEq x z := by
  rcases h with rfl | rfl <;> rcases k with rfl | rfl
  · exact .inl rfl
  · exact .inr rfl
  · exact .inr rfl
  · exact .inl (Mt.neg_neg _)
theorem op_inv (m : Mt) : m.op.inv = m.inv.op := by ext <;> simp [Mt.inv, Mt.op]
/-- forms of one sign that a matrix joins -/
theorem eqv_sg {f : Fm} {m : Mt} {r : Int} (h : f.RedM) (hr : Rt2 f.disc r) (hn : NSq f.disc) (hd : m.det = 1) (k : (f.turn m).RedM) (ka : 0 < f.a ↔ 0 < (f.turn m).a) :
    (∃ i, gs r (2 * i) f = f.turn m ∧ PmEq m (gW r (2 * i) f)) ∨ (∃ i, gs r (2 * i) (f.turn m) = f ∧ PmEq m.inv (gW r (2 * i) (f.turn m))) := by
  have dd : (f.turn m).disc = f.disc := by rw [Fm.disc_turn, hd]; omega
  by_cases ha : 0 < f.a
  · exact eqv_pos h ha hr hn hd k (ka.1 ha)
  · have z1 := h.sg
    have z2 := k.sg
    have := eqv_pos (r := r) (m := m.op) h.star (by simp only [Fm.star]; omega) (by rw [Fm.star_disc]; exact hr) (by rw [Fm.star_disc]; exact hn) (by rw [Mt.op_det]; exact hd) (by rw [Fm.star_turn]; exact k.star)
      (by rw [Fm.star_turn]; simp only [Fm.star]; omega)
    rw [Fm.star_turn] at this
    have un : ∀ {x y : Fm}, x.star = y.star → x = y := fun {x y} e => by rw [← Fm.star_star x, e, Fm.star_star]
    rcases this with ⟨i, i1, i2⟩ | ⟨i, i1, i2⟩
    · left
      obtain ⟨s1, s2⟩ := star_gs (r := r) (2 * i) h hr hn
      refine ⟨i, un (by rw [← s1, i1]), ?_⟩
      have := (i2.trans s2).op
      rwa [op_op, op_op] at this
    · right
      obtain ⟨s1, s2⟩ := star_gs (r := r) (2 * i) k (by rw [dd]; exact hr) (by rw [dd]; exact hn)
      refine ⟨i, un (by rw [← s1, i1]), ?_⟩
      have := (i2.trans s2).op
      rwa [op_inv, op_op, op_op] at this
theorem gs_mul {r : Int} {n : Nat} {f : Fm} (h : gs r n f = f) : ∀ k, gs r (n * k) f = f
  | 0 => rfl
  | k + 1 => by rw [Nat.mul_succ, gs_add, gs_mul h k, h]
theorem back_by {f : Fm} {r : Int} (h : f.RedM) (hr : Rt2 f.disc r) (hn : NSq f.disc) (i : Nat) : ∃ j, gs r j (gs r i f) = f := by
  obtain ⟨n, n1, _, n2, _⟩ := period h hr hn
  refine ⟨n * (i + 1) - i, ?_⟩
  rw [← gs_add]
  have : i ≤ n * (i + 1) := by
    have := Nat.mul_le_mul_right (i + 1) n1
    omega
  rw [Nat.add_sub_cancel' this]
  exact gs_mul n2 _
/-- one class, one cycle -/
theorem cyc_eq {f : Fm} {m : Mt} {r : Int} (h : f.RedM) (hr : Rt2 f.disc r) (hn : NSq f.disc) (hd : m.det = 1) (k : (f.turn m).RedM) : ∃ i, gs r i f = f.turn m := by
  have dd : (f.turn m).disc = f.disc := by rw [Fm.disc_turn, hd]; omega
  have hr' : Rt2 (f.turn m).disc r := by rw [dd]; exact hr
  have hn' : NSq (f.turn m).disc := by rw [dd]; exact hn
  have main : ∀ {m : Mt}, m.det = 1 → (f.turn m).RedM → (0 < f.a ↔ 0 < (f.turn m).a) → ∃ i, gs r i f = f.turn m := by
    intro m hd k ka
    have dd : (f.turn m).disc = f.disc := by rw [Fm.disc_turn, hd]; omega
    rcases eqv_sg (r := r) h hr hn hd k ka with ⟨i, i1, _⟩ | ⟨i, i1, _⟩
    · exact ⟨_, i1⟩
    · obtain ⟨j, hj⟩ := back_by (r := r) k (by rw [dd]; exact hr) (by rw [dd]; exact hn) (2 * i)
      rw [i1] at hj
      exact ⟨j, hj⟩
  by_cases ka : 0 < f.a ↔ 0 < (f.turn m).a
  · exact main hd k ka
  · obtain ⟨g1, g2⟩ := nx_red k hr' hn'
    have et : f.turn (m.mul (nxT r (f.turn m))) = nxF r (f.turn m) := by rw [← Fm.turn_mul]; rfl
    have z1 := h.sg
    have z2 := k.sg
    obtain ⟨i, hi⟩ := main (m := m.mul (nxT r (f.turn m))) (by rw [Mt.det_mul, hd, nxT, nx_det]; rfl) (by rw [et]; exact g1) (by rw [et, g2]; omega)
    rw [et] at hi
    obtain ⟨j, hj⟩ := back_by (r := r) k hr' hn' 1
    have e1 : gs r 1 (f.turn m) = nxF r (f.turn m) := rfl
    rw [e1, ← hi, ← gs_add] at hj
    exact ⟨_, hj⟩
/-- what keeps a reduced form -/
theorem self_eq {f : Fm} {m : Mt} {r : Int} (h : f.RedM) (hr : Rt2 f.disc r) (hn : NSq f.disc) (hd : m.det = 1) (k : f.turn m = f) :
    ∃ i, gs r (2 * i) f = f ∧ (PmEq m (gW r (2 * i) f) ∨ PmEq m.inv (gW r (2 * i) f)) := by
  rcases eqv_sg (r := r) h hr hn hd (by rw [k]; exact h) (by rw [k]) with ⟨i, i1, i2⟩ | ⟨i, i1, i2⟩
  · exact ⟨i, by rw [i1, k], .inl i2⟩
  · rw [k] at i1 i2
    exact ⟨i, i1, .inr i2⟩
end M

set_option Elab.async false
set_option linter.all false
set_option maxRecDepth 100000
set_option maxHeartbeats 4000000
namespace M
/-! ### least values stand in the cycle -/
theorem concave {A B C j m : Int} (hC : C < 0) (h0 : 0 ≤ j) (h1 : j ≤ m) : A ≤ A + B * j + C * j * j ∨ A + B * m + C * m * m ≤ A + B * j + C * j * j := by
  rcases (show A ≤ A + B * j + C * j * j ∨ A + B * j + C * j * j < A by omega) with z | z
  · exact .inl z
  · right
    have e : B * j + C * j * j = j * (B + C * j) := by grind
    have n : B + C * j < 0 := by
      apply Int.not_le.1
      intro y
      have := Int.mul_nonneg h0 y
      omega
    have e2 : (A + B * j + C * j * j) - (A + B * m + C * m * m) = (m - j) * -((B + C * j) + C * m) := by grind
    have : 0 ≤ -(C * m) := by
      have := Int.mul_nonneg (show 0 ≤ -C by omega) (show 0 ≤ m by omega)
      have e3 : -C * m = -(C * m) := by grind
      omega
    have := Int.mul_nonneg (show 0 ≤ m - j by omega) (show 0 ≤ -((B + C * j) + C * m) by omega)
    omega
theorem at1 (f : Fm) (j : Int) : f.at 1 j = f.a + f.b * j + f.c * j * j := by simp only [Fm.at]; grind
/-- each number at the river is bounded by one of a turn -/
theorem turn_bd {r : Int} : ∀ (k : Nat) {f : Fm}, f.RedM → 0 < f.a → Rt2 f.disc r → NSq f.disc →
    (∃ i, 0 < (gs r i f).a ∧ (gs r i f).a ≤ (Fm.sts k f).a) ∧ (∃ i, (gs r i f).a < 0 ∧ (Fm.sts k f).c ≤ (gs r i f).a) := by
  intro k
  induction k using Nat.strongRecOn with
  | ind k ih =>
    intro f h ha hr hn
    obtain ⟨n, n2, e, w, no, m, m1, mn, e1, c1, a1, c2, a2, _, _⟩ := runTwo h ha hr hn
    obtain ⟨g1, ga⟩ := nx_red h hr hn
    obtain ⟨g2, gb⟩ := nx_red g1 (by rw [nx_disc]; exact hr) (by rw [nx_disc]; exact hn)
    obtain ⟨g3, gc⟩ := nx_red g2 (by rw [nx_disc, nx_disc]; exact hr) (by rw [nx_disc, nx_disc]; exact hn)
    have s0 := h.sg
    have s1 := g1.sg
    have s2 := g2.sg
    have G1 : gs r 1 f = nxF r f := rfl
    have G2 : gs r 2 f = nxF r (nxF r f) := rfl
    have G3 : gs r 3 f = nxF r (nxF r (nxF r f)) := rfl
    by_cases z : n ≤ k
    · obtain ⟨d, rfl⟩ := Nat.le.dest z
      have := ih d (by omega) (f := Fm.sts n f) (by rw [← e]; exact g2) (by rw [← e]; omega) (by rw [Fm.sts_disc]; exact hr) (by rw [Fm.sts_disc]; exact hn)
      rw [← Fm.sts_add, ← e, ← G2] at this
      obtain ⟨⟨i, i1, i2⟩, j, j1, j2⟩ := this
      rw [← gs_add] at i1 i2 j1 j2
      exact ⟨⟨_, i1, i2⟩, _, j1, j2⟩
    · have am : f.at 1 m = (nxF r (nxF r f)).a := by rw [← a2 m (Nat.le_refl _), a1 m (Nat.le_refl _) (by omega), gb]
      have cm : (nxF r f).star.at 1 0 = -f.c := by
        have := c2 0 (by omega)
        have t := c1 m (Nat.le_refl _)
        simp only [Nat.add_zero] at this
        rw [t] at this
        have e0 : ((0 : Nat) : Int) = 0 := rfl
        rw [e0] at this
        omega
      have cn : (nxF r f).star.at 1 ((n - m : Nat) : Int) = -(nxF r (nxF r (nxF r f))).a := by
        have := c2 (n - m) (by omega)
        have t : m + (n - m) = n := by omega
        rw [t, ← e] at this
        rw [gc]; omega
      by_cases y : k ≤ m
      · refine ⟨?_, 1, by rw [G1, ga]; omega, by rw [G1, ga, c1 k y]; exact Int.le_refl _⟩
        rw [a2 k y]
        have cv := concave (A := f.a) (B := f.b) (C := f.c) (j := k) (m := m) (by omega) (by omega) (by omega)
        rw [← at1, ← at1, am] at cv
        rcases cv with cv | cv
        · exact ⟨0, ha, cv⟩
        · exact ⟨2, by rw [G2]; omega, by rw [G2]; exact cv⟩
      · refine ⟨⟨2, by rw [G2]; omega, by rw [G2, a1 k (by omega) (by omega), gb]; exact Int.le_refl _⟩, ?_⟩
        obtain ⟨i, rfl⟩ := Nat.le.dest (show m ≤ k by omega)
        have cc := c2 i (by omega)
        rw [cc]
        have cv := concave (A := (nxF r f).star.a) (B := (nxF r f).star.b) (C := (nxF r f).star.c) (j := i) (m := (n - m : Nat)) (by simp only [Fm.star]; omega) (by omega) (by omega)
        rw [← at1, ← at1, cn] at cv
        have a0 : (nxF r f).star.a = -(nxF r f).a := rfl
        rcases cv with cv | cv
        · exact ⟨1, by rw [G1]; omega, by rw [G1]; omega⟩
        · exact ⟨3, by rw [G3]; omega, by rw [G3]; omega⟩
/-- a value of a point at the river's hither side -/
theorem val_bd : ∀ (n : Nat) {f : Fm} {x y : Int}, f.Riv → NSq f.disc → 0 ≤ x → 0 ≤ y → (x + y).toNat ≤ n → (0 < f.at x y → ∃ k, (Fm.sts k f).a ≤ f.at x y) ∧ (f.at x y < 0 → ∃ k, f.at x y ≤ (Fm.sts k f).c) := by
  intro n
  induction n with
  | zero =>
    intro f x y _ _ hx hy hk
    have e1 : x = 0 := by omega
    have e2 : y = 0 := by omega
    subst e1; subst e2
    simp only [Fm.at]
    constructor <;> intro h <;> omega
  | succ n ih =>
    intro f x y h hn hx hy hk
    have ha := h.a; have hc := h.c
    have sqm : ∀ {u v : Int}, 0 < u → 1 ≤ v → u ≤ u * v * v := by
      intro u v hu hv
      have h1 := Int.mul_le_mul_of_nonneg_left hv (show 0 ≤ u by omega)
      have h2 := Int.mul_le_mul_of_nonneg_left hv (show 0 ≤ u * v by omega)
      omega
    by_cases x0 : x = 0
    · subst x0
      have e : f.at 0 y = f.c * y * y := by simp only [Fm.at]; grind
      rw [e]
      by_cases y0 : y = 0
      · subst y0; constructor <;> intro h <;> omega
      · have := sqm (u := -f.c) (v := y) (by omega) (by omega)
        have e2 : -f.c * y * y = -(f.c * y * y) := by grind
        exact ⟨fun h => by omega, fun _ => ⟨0, by show _ ≤ f.c; omega⟩⟩
    · by_cases y0 : y = 0
      · subst y0
        have e : f.at x 0 = f.a * x * x := by simp only [Fm.at]; grind
        rw [e]
        have := sqm (u := f.a) (v := x) (by omega) (by omega)
        exact ⟨fun _ => ⟨0, by show f.a ≤ _; omega⟩, fun h => by omega⟩
      · have nu := Fm.ne_up hn
        have st := Fm.st_riv h hn
        have sd : NSq f.st.disc := by rw [Fm.st_disc]; exact hn
        have go : ∀ {u v : Int}, 0 ≤ u → 0 ≤ v → (u + v).toNat ≤ n → f.st.at u v = f.at x y → (0 < f.at x y → ∃ k, (Fm.sts k f).a ≤ f.at x y) ∧ (f.at x y < 0 → ∃ k, f.at x y ≤ (Fm.sts k f).c) := by
          intro u v hu hv huv e
          have := ih st sd hu hv huv
          rw [e] at this
          refine ⟨fun h => ?_, fun h => ?_⟩
          · obtain ⟨k, hk⟩ := this.1 h; exact ⟨k + 1, hk⟩
          · obtain ⟨k, hk⟩ := this.2 h; exact ⟨k + 1, hk⟩
        by_cases u : f.up
        · have es : f.st = ⟨f.a + f.b + f.c, f.b + 2 * f.c, f.c⟩ := by rw [Fm.st, show f.stM = Mt.Lm from if_pos u, Fm.turn_L]
          unfold Fm.up at u
          by_cases xy : x ≤ y
          · refine go (u := x) (v := y - x) hx (by omega) (by omega) ?_
            rw [es]; simp only [Fm.at]; grind
          · have e : f.at x y = Fm.at ⟨f.a, f.b + 2 * f.a, f.a + f.b + f.c⟩ (x - y) y := by simp only [Fm.at]; grind
            have b0 : 0 ≤ f.b + 2 * f.a := by omega
            have p1 := Int.mul_nonneg (Int.mul_nonneg b0 (show 0 ≤ x - y by omega)) hy
            have p2 := Int.mul_nonneg (Int.mul_nonneg (show 0 ≤ f.a + f.b + f.c by omega) hy) hy
            have p3 := sqm (u := f.a) (v := x - y) ha (by omega)
            have : f.a ≤ f.at x y := by rw [e]; simp only [Fm.at]; omega
            exact ⟨fun _ => ⟨0, this⟩, fun h => by omega⟩
        · have es : f.st = ⟨f.a, f.b + 2 * f.a, f.a + f.b + f.c⟩ := by rw [Fm.st, show f.stM = Mt.Rm from if_neg u, Fm.turn_R]
          unfold Fm.up at u
          by_cases xy : y ≤ x
          · refine go (u := x - y) (v := y) (by omega) hy (by omega) ?_
            rw [es]; simp only [Fm.at]; grind
          · have e : f.at x y = Fm.at ⟨f.a + f.b + f.c, f.b + 2 * f.c, f.c⟩ x (y - x) := by simp only [Fm.at]; grind
            have b0 : 0 ≤ -(f.b + 2 * f.c) := by omega
            have p1 := Int.mul_nonneg (Int.mul_nonneg b0 hx) (show 0 ≤ y - x by omega)
            have q1 : -(f.b + 2 * f.c) * x * (y - x) = -((f.b + 2 * f.c) * x * (y - x)) := by grind
            have p2 := Int.mul_nonneg (Int.mul_nonneg (show 0 ≤ -(f.a + f.b + f.c) by omega) hx) hx
            have q2 : -(f.a + f.b + f.c) * x * x = -((f.a + f.b + f.c) * x * x) := by grind
            have p3 := sqm (u := -f.c) (v := y - x) (by omega) (by omega)
            have q3 : -f.c * (y - x) * (y - x) = -(f.c * (y - x) * (y - x)) := by grind
            have : f.at x y ≤ f.c := by rw [e]; simp only [Fm.at]; omega
            exact ⟨fun h => by omega, fun _ => ⟨0, this⟩⟩
theorem val_nn {f : Fm} {r x y : Int} (h : f.RedM) (ha : 0 < f.a) (hr : Rt2 f.disc r) (hn : NSq f.disc) (hx : 0 ≤ x) (hy : 0 ≤ y) :
    (0 < f.at x y → ∃ i, 0 < (gs r i f).a ∧ (gs r i f).a ≤ f.at x y) ∧ (f.at x y < 0 → ∃ i, (gs r i f).a < 0 ∧ f.at x y ≤ (gs r i f).a) := by
  have b := val_bd _ ((RedM_pos ha).1 h).1 hn hx hy (Nat.le_refl _)
  refine ⟨fun z => ?_, fun z => ?_⟩
  · obtain ⟨k, hk⟩ := b.1 z
    obtain ⟨⟨i, i1, i2⟩, _⟩ := turn_bd (r := r) k h ha hr hn
    exact ⟨i, i1, by omega⟩
  · obtain ⟨k, hk⟩ := b.2 z
    obtain ⟨_, i, i1, i2⟩ := turn_bd (r := r) k h ha hr hn
    exact ⟨i, i1, by omega⟩
/-- the way round the other way -/
theorem swp_gs {r : Int} : ∀ (n : Nat) {f : Fm}, f.RedM → Rt2 f.disc r → NSq f.disc → gs r n (gs r n f).swp = f.swp
  | 0, _, _, _, _ => rfl
  | n + 1, f, h, hr, hn => by
    have i := swp_gs n (f := nxF r f) (nx_red h hr hn).1 (by rw [nx_disc]; exact hr) (by rw [nx_disc]; exact hn)
    have e : gs r (n + 1) f = gs r n (nxF r f) := rfl
    rw [e, gs_add, i]
    exact nx_back h hr hn
theorem swp_in {r : Int} {f : Fm} (h : f.RedM) (hr : Rt2 f.disc r) (hn : NSq f.disc) (i : Nat) : ∃ j, gs r i f.swp = (gs r j f).swp := by
  obtain ⟨j, hj⟩ := back_by h hr hn i
  have r1 := gs_red i h hr hn
  -- f.swp = gs j (gs j (gs i f)).swp ... take the form j before f
  obtain ⟨n, n1, _, n2, _⟩ := period h hr hn
  have big : i ≤ n * i := by
    have := Nat.mul_le_mul_right i n1
    omega
  have e : gs r i (gs r (n * i - i) f) = f := by
    rw [← gs_add, Nat.sub_add_cancel big]
    exact gs_mul n2 i
  have r2 := gs_red (r := r) (n * i - i) h hr hn
  have := swp_gs (r := r) i r2 (by rw [gs_disc]; exact hr) (by rw [gs_disc]; exact hn)
  rw [e] at this
  exact ⟨_, this⟩
/-- every value -/
theorem val_pos {f : Fm} {r : Int} (h : f.RedM) (ha : 0 < f.a) (hr : Rt2 f.disc r) (hn : NSq f.disc) (x y : Int) :
    (0 < f.at x y → ∃ i, 0 < (gs r i f).a ∧ (gs r i f).a ≤ f.at x y) ∧ (f.at x y < 0 → ∃ i, (gs r i f).a < 0 ∧ f.at x y ≤ (gs r i f).a) := by
  have ev : ∀ u v : Int, f.at (-u) (-v) = f.at u v := fun u v => by simp only [Fm.at]; grind
  have other : ∀ {u v : Int}, 0 ≤ u → 0 ≤ v → (0 < f.at (-u) v → ∃ i, 0 < (gs r i f).a ∧ (gs r i f).a ≤ f.at (-u) v) ∧ (f.at (-u) v < 0 → ∃ i, (gs r i f).a < 0 ∧ f.at (-u) v ≤ (gs r i f).a) := by
    intro u v hu hv
    have hs := h.swp
    have sd : NSq f.swp.disc := by rw [Fm.swp_disc]; exact hn
    have sr : Rt2 f.swp.disc r := by rw [Fm.swp_disc]; exact hr
    have hss := hs.star
    have e : f.swp.star.at v u = -(f.at (-u) v) := by simp only [Fm.swp, Fm.star, Fm.at]; grind
    have s0 := h.sg
    have := val_nn (r := r) hss (by simp only [Fm.swp, Fm.star]; omega) (by rw [Fm.star_disc]; exact sr) (by rw [Fm.star_disc]; exact sd) hv hu
    rw [e] at this
    have tr : ∀ i, ∃ k, (gs r i f.swp.star).a = -(gs r k f).a := by
      intro i
      obtain ⟨j, hj⟩ := swp_in h hr hn i
      have r1 := gs_red j h hr hn
      refine ⟨j + 1, ?_⟩
      rw [(star_gs i hs sr sd).1, hj, gs_add]
      show -(gs r j f).c = -(nxF r (gs r j f)).a
      rw [(nx_red (r := r) r1 (by rw [gs_disc]; exact hr) (by rw [gs_disc]; exact hn)).2]
    refine ⟨fun z => ?_, fun z => ?_⟩
    · obtain ⟨i, i1, i2⟩ := this.2 (by omega)
      obtain ⟨k, hk⟩ := tr i
      exact ⟨k, by omega, by omega⟩
    · obtain ⟨i, i1, i2⟩ := this.1 (by omega)
      obtain ⟨k, hk⟩ := tr i
      exact ⟨k, by omega, by omega⟩
  rcases (show 0 ≤ x ∨ x ≤ 0 by omega) with hx | hx <;> rcases (show 0 ≤ y ∨ y ≤ 0 by omega) with hy | hy
  · exact val_nn h ha hr hn hx hy
  · have := other (u := x) (v := -y) hx (by omega)
    have e : f.at (-x) (-y) = f.at x y := ev x y
    rw [e] at this
    exact this
  · have := other (u := -x) (v := y) (by omega) hy
    rw [Int.neg_neg] at this
    exact this
  · have := val_nn (r := r) h ha hr hn (x := -x) (y := -y) (by omega) (by omega)
    rw [ev x y] at this
    exact this
theorem val_all {f : Fm} {r : Int} (h : f.RedM) (hr : Rt2 f.disc r) (hn : NSq f.disc) (x y : Int) :
    (0 < f.at x y → ∃ i, 0 < (gs r i f).a ∧ (gs r i f).a ≤ f.at x y) ∧ (f.at x y < 0 → ∃ i, (gs r i f).a < 0 ∧ f.at x y ≤ (gs r i f).a) := by
  by_cases ha : 0 < f.a
  · exact val_pos h ha hr hn x y
  · have s0 := h.sg
    have := val_pos (r := r) h.star (by simp only [Fm.star]; omega) (by rw [Fm.star_disc]; exact hr) (by rw [Fm.star_disc]; exact hn) x (-y)
    have e : f.star.at x (-y) = -(f.at x y) := by simp only [Fm.star, Fm.at]; grind
    rw [e] at this
    have st : ∀ i, (gs r i f.star).a = -(gs r i f).a := fun i => by rw [(star_gs i h hr hn).1]; rfl
    refine ⟨fun z => ?_, fun z => ?_⟩
    · obtain ⟨i, i1, i2⟩ := this.2 (by omega)
      rw [st] at i1 i2
      exact ⟨i, by omega, by omega⟩
    · obtain ⟨i, i1, i2⟩ := this.1 (by omega)
      rw [st] at i1 i2
      exact ⟨i, by omega, by omega⟩
end M

set_option Elab.async false
set_option linter.all false
set_option maxRecDepth 100000
set_option maxHeartbeats 4000000
namespace M
/-! ### the way to the cycle -/
theorem nx_c {f : Fm} {r : Int} (hc : f.c ≠ 0) : 4 * (f.c * (nxF r f).c) = nxM r f * nxM r f - f.disc := by
  obtain ⟨q, e1, e2, e3, _, _⟩ := nx_mid (r := r) hc
  rw [e3, e2]
  simp only [Fm.at, Fm.disc]; grind
theorem disc_c0 {f : Fm} (hn : NSq f.disc) : f.c ≠ 0 := fun e => hn f.b (by simp only [Fm.disc, e]; omega)
theorem disc_a0 {f : Fm} (hn : NSq f.disc) : f.a ≠ 0 := fun e => hn f.b (by simp only [Fm.disc, e]; omega)
theorem abs_prod (x y : Int) : (x.natAbs : Int) * y.natAbs = (x * y).natAbs := by rw [Int.natAbs_mul]; simp
/-- great last numbers fall to a quarter -/
theorem nx_great {f : Fm} {r : Int} (hr : Rt2 f.disc r) (hn : NSq f.disc) (h : r < f.c.natAbs) : 4 * (nxF r f).c.natAbs ≤ f.c.natAbs ∧ (nxM r f).natAbs ≤ f.c.natAbs := by
  have hc := disc_c0 hn
  obtain ⟨q, e1, e2, e3, e4, e5⟩ := nx_mid (r := r) hc
  rw [if_neg (by omega)] at e4 e5
  have d := nx_c (r := r) hc
  have p := abs_prod f.c (nxF r f).c
  have r0 := hr.r0
  have hi := hr.hi
  have lo := hr.lo
  have k0 := Int.mul_nonneg r0 r0
  have k1 := Int.mul_le_mul (show r + 1 ≤ f.c.natAbs by omega) (show r + 1 ≤ f.c.natAbs by omega) (by omega) (by omega)
  have k2 := Int.mul_nonneg (show 0 ≤ (f.c.natAbs : Int) - nxM r f by omega) (show 0 ≤ (f.c.natAbs : Int) + nxM r f by omega)
  have k3 : ((f.c.natAbs : Int) - nxM r f) * ((f.c.natAbs : Int) + nxM r f) = f.c.natAbs * f.c.natAbs - nxM r f * nxM r f := by grind
  have k4 : 0 ≤ nxM r f * nxM r f := by
    have := Int.mul_nonneg (show (0 : Int) ≤ (nxM r f).natAbs by omega) (show (0 : Int) ≤ (nxM r f).natAbs by omega)
    rw [Int.natAbs_mul_self' ] at this
    exact this
  refine ⟨?_, by omega⟩
  apply Nat.not_lt.1
  intro z
  have := Int.mul_le_mul_of_nonneg_left (show (f.c.natAbs : Int) + 1 ≤ 4 * (nxF r f).c.natAbs by omega) (show (0 : Int) ≤ f.c.natAbs by omega)
  have e : (f.c.natAbs : Int) * (4 * (nxF r f).c.natAbs) = 4 * (f.c.natAbs * (nxF r f).c.natAbs) := by grind
  have e' : (f.c.natAbs : Int) * (f.c.natAbs + 1) = f.c.natAbs * f.c.natAbs + f.c.natAbs := by grind
  omega
/-- small ones -/
theorem nx_small {f : Fm} {r : Int} (hr : Rt2 f.disc r) (hn : NSq f.disc) (h : f.c.natAbs ≤ r) :
    ((nxF r f).a = f.c) ∧ ((0 < f.c ∧ (nxF r f).c < 0) ∨ (f.c < 0 ∧ 0 < (nxF r f).c)) ∧ ((nxF r f).c.natAbs : Int) < f.c.natAbs + (nxF r f).b ∧ -r ≤ (nxF r f).b ∧ (nxF r f).b ≤ r ∧ r - 2 * f.c.natAbs < (nxF r f).b ∧
      4 * ((f.c.natAbs : Int) * (nxF r f).c.natAbs) = f.disc - (nxF r f).b * (nxF r f).b := by
  have hc := disc_c0 hn
  obtain ⟨q, e1, e2, e3, e4, e5⟩ := nx_mid (r := r) hc
  rw [if_pos (by omega)] at e4 e5
  have d := nx_c (r := r) hc
  have p := abs_prod f.c (nxF r f).c
  have eb : (nxF r f).b = nxM r f := by rw [e3]
  have ea : (nxF r f).a = f.c := by rw [e3]
  have r0 := hr.r0
  have k1 := sq_le_to hr (x := nxM r f) (by omega)
  have k2 := hn (nxM r f)
  have k3 := sq_gt_to hr (x := nxM r f + 2 * f.c.natAbs) (.inr (by omega))
  rw [eb]
  refine ⟨ea, ?_, ?_, by omega, by omega, by omega, by omega⟩
  · rcases Int.lt_or_gt_of_ne hc with z | z
    · right
      exact ⟨z, sign_of_neg z (by rw [Int.mul_comm]; omega)⟩
    · left
      refine ⟨z, ?_⟩
      have ee : -(nxF r f).c * -f.c = f.c * (nxF r f).c := by grind
      have := sign_of_neg (x := -(nxF r f).c) (c := -f.c) (by omega) (by omega)
      omega
  · apply Int.not_le.1
    intro z
    have := Int.mul_le_mul_of_nonneg_left z (show (0 : Int) ≤ f.c.natAbs by omega)
    have e : (f.c.natAbs : Int) * (f.c.natAbs + nxM r f) = f.c.natAbs * f.c.natAbs + f.c.natAbs * nxM r f := by grind
    have e' : (nxM r f + 2 * (f.c.natAbs : Int)) * (nxM r f + 2 * f.c.natAbs) = nxM r f * nxM r f + 4 * (f.c.natAbs * f.c.natAbs + f.c.natAbs * nxM r f) := by grind
    omega
theorem nx_last {f : Fm} {r : Int} (hr : Rt2 f.disc r) (hn : NSq f.disc) (h : 2 * f.c.natAbs ≤ r) : (nxF r f).RedM := by
  obtain ⟨s1, s2, s3, s4, s5, s6, s7⟩ := nx_small hr hn (by omega)
  have k1 := sq_le_to hr (x := 2 * f.c.natAbs - (nxF r f).b) (by omega)
  have k2 := hn (2 * f.c.natAbs - (nxF r f).b)
  have e' : (2 * (f.c.natAbs : Int) - (nxF r f).b) * (2 * f.c.natAbs - (nxF r f).b) = (nxF r f).b * (nxF r f).b + 4 * (f.c.natAbs * (f.c.natAbs - (nxF r f).b)) := by grind
  have : (f.c.natAbs : Int) - (nxF r f).b < (nxF r f).c.natAbs := by
    apply Int.not_le.1
    intro z
    have := Int.mul_le_mul_of_nonneg_left z (show (0 : Int) ≤ f.c.natAbs by omega)
    omega
  refine ⟨?_, ?_, ?_⟩ <;> rw [s1] <;> omega
theorem nx_mid2 {f : Fm} {r : Int} (hr : Rt2 f.disc r) (hn : NSq f.disc) (h : f.c.natAbs ≤ r) : (nxF r f).RedM ∨ 2 * (nxF r f).c.natAbs ≤ r := by
  obtain ⟨s1, s2, s3, s4, s5, s6, s7⟩ := nx_small hr hn h
  by_cases z : (f.c.natAbs : Int) - (nxF r f).c.natAbs < (nxF r f).b
  · left
    refine ⟨?_, ?_, ?_⟩ <;> rw [s1] <;> omega
  · right
    have := Int.mul_le_mul_of_nonneg_right (show ((nxF r f).c.natAbs : Int) ≤ f.c.natAbs by omega) (show (0 : Int) ≤ (nxF r f).c.natAbs by omega)
    have e : 2 * ((nxF r f).c.natAbs : Int) * (2 * (nxF r f).c.natAbs) = 4 * ((nxF r f).c.natAbs * (nxF r f).c.natAbs) := by grind
    have b0 : 0 ≤ (nxF r f).b * (nxF r f).b := by
      have := Int.mul_nonneg (show (0 : Int) ≤ ((nxF r f).b).natAbs by omega) (show (0 : Int) ≤ ((nxF r f).b).natAbs by omega)
      rw [Int.natAbs_mul_self'] at this
      exact this
    have := sq_le_of hr (x := 2 * (nxF r f).c.natAbs) (by omega)
    omega
open Classical in
/-- how far a form is from its cycle -/
noncomputable def muM (r : Int) (f : Fm) : Nat := if f.RedM then 0 else if 2 * (f.c.natAbs : Int) ≤ r then 1 else if (f.c.natAbs : Int) ≤ r then 2 else Nat.log2 f.c.natAbs + 3
theorem muM_dec {f : Fm} {r : Int} (hr : Rt2 f.disc r) (hn : NSq f.disc) (h : ¬ f.RedM) : muM r (nxF r f) < muM r f := by
  have hc := disc_c0 hn
  have hc' := disc_c0 (f := nxF r f) (by rw [nx_disc]; exact hn)
  by_cases c1 : 2 * (f.c.natAbs : Int) ≤ r
  · have : muM r f = 1 := by unfold muM; rw [if_neg h, if_pos c1]
    rw [this]
    unfold muM
    rw [if_pos (nx_last hr hn c1)]; omega
  · by_cases c2 : (f.c.natAbs : Int) ≤ r
    · have : muM r f = 2 := by unfold muM; rw [if_neg h, if_neg c1, if_pos c2]
      rw [this]
      unfold muM
      rcases nx_mid2 hr hn c2 with z | z
      · rw [if_pos z]; omega
      · split
        · omega
        · omega
    · have : muM r f = Nat.log2 f.c.natAbs + 3 := by unfold muM; rw [if_neg h, if_neg c1, if_neg c2]
      rw [this]
      have g := (nx_great hr hn (by omega)).1
      have lg : Nat.log2 (nxF r f).c.natAbs < Nat.log2 f.c.natAbs := by
        have h1 := Nat.log2_self_le (n := (nxF r f).c.natAbs) (by omega)
        have h2 : 2 ^ (Nat.log2 (nxF r f).c.natAbs + 1) ≤ f.c.natAbs := by rw [Nat.pow_succ]; omega
        have := (Nat.le_log2 (by omega)).2 h2
        omega
      unfold muM
      split
      · omega
      · split
        · omega
        · split <;> omega
theorem muM_le {f : Fm} {r : Int} {n : Nat} (h : f.c.natAbs < 2 ^ n) : muM r f ≤ n + 3 := by
  unfold muM
  have : Nat.log2 f.c.natAbs ≤ n := by
    by_cases z : f.c.natAbs = 0
    · rw [z]; exact Nat.zero_le _
    · exact Nat.le_of_lt ((Nat.log2_lt z).2 h)
  split
  · omega
  · split
    · omega
    · split <;> omega
/-- sizes on the way -/
theorem nx_size {f : Fm} {r : Int} (hr : Rt2 f.disc r) (hn : NSq f.disc) {B : Int} (hd : f.disc ≤ B) (hc : f.c.natAbs ≤ B) : (nxF r f).a.natAbs ≤ B ∧ (nxF r f).b.natAbs ≤ B ∧ (nxF r f).c.natAbs ≤ B := by
  have c0 := disc_c0 hn
  obtain ⟨q, e1, e2, e3, e4, e5⟩ := nx_mid (r := r) c0
  have ea : (nxF r f).a = f.c := by rw [e3]
  have eb : (nxF r f).b = nxM r f := by rw [e3]
  have r0 := hr.r0
  have rB : r ≤ B := by
    have := hr.lo
    rcases (show r = 0 ∨ 1 ≤ r by omega) with z | z
    · omega
    · have := Int.mul_le_mul_of_nonneg_left z r0; omega
  by_cases h : (f.c.natAbs : Int) ≤ r
  · obtain ⟨s1, s2, s3, s4, s5, s6, s7⟩ := nx_small hr hn h
    have b0 : 0 ≤ (nxF r f).b * (nxF r f).b := by
      have := Int.mul_nonneg (show (0 : Int) ≤ ((nxF r f).b).natAbs by omega) (show (0 : Int) ≤ ((nxF r f).b).natAbs by omega)
      rw [Int.natAbs_mul_self'] at this
      exact this
    have := Int.mul_le_mul_of_nonneg_right (show (1 : Int) ≤ f.c.natAbs by omega) (show (0 : Int) ≤ (nxF r f).c.natAbs by omega)
    refine ⟨by omega, by omega, by omega⟩
  · obtain ⟨g1, g2⟩ := nx_great hr hn (by omega)
    refine ⟨by omega, by omega, by omega⟩
end M

set_option Elab.async false
set_option linter.all false
set_option maxRecDepth 100000
set_option maxHeartbeats 4000000
namespace M
open PySem PySem.Spec PyProof.Rows L2
/-! ### index and in, by simp; pairs -/
def kIdx2 (ds : List D) : Res D → Res D
  | .ok b w => ofO (vIndex ds b) w
  | .exc e w => .exc e w
  | .bad => .bad
def kIdx (d2 : Ev → MM D) (ρ : Ev) : Res D → Res D
  | .ok (.list ds) w => kIdx2 ds (d2 ρ w)
  | .exc e w => .exc e w
  | _ => .bad
@[simp] theorem kIdx_ok (d2 : Ev → MM D) (ρ : Ev) (ds : List D) (w : Wd) : kIdx d2 ρ (.ok (.list ds) w) = kIdx2 ds (d2 ρ w) := (rfl)
@[simp] theorem kIdx2_ok (ds : List D) (b : D) (w : Wd) : kIdx2 ds (.ok b w) = ofO (vIndex ds b) w := (rfl)
@[simp] theorem eIndex_s (d1 d2 : Ev → MM D) (ρ : Ev) (ω : Wd) : eIndex d1 d2 ρ ω = kIdx d2 ρ (d1 ρ ω) := by
  unfold eIndex
  cases d1 ρ ω with
  | ok a w => cases a with
    | list ds => simp only [bind_ok, kIdx_ok]; cases d2 ρ w <;> rfl
    | _ => rfl
  | _ => rfl
def kInO (o : Option D) : Res D → Res Bool
  | .ok a w => match o with
    | some (.list ds) => ofO (vIn a (.list ds)) w
    | _ => .bad
  | .exc e w => .exc e w
  | .bad => .bad
@[simp] theorem kInO_ok (ds : List D) (a : D) (w : Wd) : kInO (some (.list ds)) (.ok a w) = ofO (vIn a (.list ds)) w := (rfl)
@[simp] theorem bInO_s (i : Nat) (d : Ev → MM D) (ρ : Ev) (ω : Wd) : bInO i d ρ ω = kInO (look ρ i) (d ρ ω) := by
  unfold bInO
  cases d ρ ω <;> rfl
def kNotInO (o : Option D) : Res D → Res Bool
  | .ok a w => match o with
    | some (.list ds) => ofO (vNotIn a (.list ds)) w
    | _ => .bad
  | .exc e w => .exc e w
  | .bad => .bad
@[simp] theorem kNotInO_ok (ds : List D) (a : D) (w : Wd) : kNotInO (some (.list ds)) (.ok a w) = ofO (vNotIn a (.list ds)) w := (rfl)
@[simp] theorem bNotInO_s (i : Nat) (d : Ev → MM D) (ρ : Ev) (ω : Wd) : bNotInO i d ρ ω = kNotInO (look ρ i) (d ρ ω) := by
  unfold bNotInO
  cases d ρ ω <;> rfl
theorem any_eqv {α : Type} [DecidableEq α] {enc : α → D} (he : ∀ a b, PyData.eqv (enc a) (enc b) = decide (a = b)) (f : α) : ∀ fs : List α, ((fs.map enc).any fun z => PyData.eqv z (enc f)) = decide (f ∈ fs)
  | [] => by simp
  | g :: fs => by
    simp only [List.map_cons, List.any_cons, any_eqv he f fs, he, List.mem_cons]
    by_cases h : g = f
    · subst h; simp
    · have : ¬ f = g := fun e => h e.symm
      simp [h, this]
theorem vIn_of {α : Type} [DecidableEq α] {enc : α → D} {n : Nat} (he : ∀ a b, PyData.eqv (enc a) (enc b) = decide (a = b)) (hl : ∀ a, Fl2 n (enc a)) (hn : n < 64) (f : α) (fs : List α) : vIn (enc f) (.list (fs.map enc)) = some (decide (f ∈ fs)) := by
  show (if _ then _ else _) = _
  rw [if_pos ⟨shaped_of (hl f) (by omega), shaped_of (fl_list (fl_map hl)) (by omega)⟩, any_eqv he]
theorem vNotIn_of {α : Type} [DecidableEq α] {enc : α → D} {n : Nat} (he : ∀ a b, PyData.eqv (enc a) (enc b) = decide (a = b)) (hl : ∀ a, Fl2 n (enc a)) (hn : n < 64) (f : α) (fs : List α) : vNotIn (enc f) (.list (fs.map enc)) = some (!decide (f ∈ fs)) := by
  show (if _ then _ else _) = _
  rw [if_pos ⟨shaped_of (hl f) (by omega), shaped_of (fl_list (fl_map hl)) (by omega)⟩, any_eqv he]
theorem find_eqv {α : Type} [DecidableEq α] {enc : α → D} (he : ∀ a b, PyData.eqv (enc a) (enc b) = decide (a = b)) (f : α) : ∀ fs : List α, ((fs.map enc).findIdx? fun z => PyData.eqv z (enc f)) = fs.findIdx? fun z => decide (z = f)
  | [] => rfl
  | g :: fs => by
    simp only [List.map_cons, List.findIdx?_cons, he, find_eqv he f fs]
theorem vIndex_of {α : Type} [DecidableEq α] {enc : α → D} {n : Nat} (he : ∀ a b, PyData.eqv (enc a) (enc b) = decide (a = b)) (hl : ∀ a, Fl2 n (enc a)) (hn : n < 64) (f : α) (fs : List α) {j : Nat} (hj : fs.findIdx? (fun z => decide (z = f)) = some j) : vIndex (fs.map enc) (enc f) = some (.int j) := by
  unfold vIndex
  rw [if_pos ⟨shaped_of (fl_list (fl_map hl)) (by omega), shaped_of (hl f) (by omega)⟩, find_eqv he, hj]
  rfl
theorem vIn_fms (f : Fm) (fs : List Fm) : vIn f.enc (.list (fs.map Fm.enc)) = some (decide (f ∈ fs)) := vIn_of eqv_fm fl_fm (by omega) f fs
theorem vIndex_fms (f : Fm) (fs : List Fm) {j : Nat} (hj : fs.findIdx? (fun z => decide (z = f)) = some j) : vIndex (fs.map Fm.enc) f.enc = some (.int j) := vIndex_of eqv_fm fl_fm (by omega) f fs hj
/-- pairs of numbers -/
theorem enc2 (a b : Int) : PyData.tuple [.int a, .int b] = encP (a, b) := (rfl)
theorem fl_encP (q : Int × Int) : Fl2 1 (encP q) := fl_tuple (fl_cons (fl_int 0 _) (fl_cons (fl_int 0 _) fl_nil))
theorem eqv_encP (a b : Int × Int) : PyData.eqv (encP a) (encP b) = decide (a = b) := by
  obtain ⟨a1, a2⟩ := a
  obtain ⟨b1, b2⟩ := b
  simp [encP, PyData.eqv, PyData.eqvAll]
  by_cases h1 : a1 = b1 <;> by_cases h2 : a2 = b2 <;> simp [h1, h2]
theorem vEq_encP (a b : Int × Int) : vEq (encP a) (encP b) = some (decide (a = b)) := by rw [vEq_of (fl_encP a) (fl_encP b) (by omega), eqv_encP]
theorem vNe_encP (a b : Int × Int) : vNe (encP a) (encP b) = some (!decide (a = b)) := by rw [vNe_of (fl_encP a) (fl_encP b) (by omega), eqv_encP]
theorem vEq_encPs (xs ys : List (Int × Int)) : vEq (.list (xs.map encP)) (.list (ys.map encP)) = some (decide (xs = ys)) := by
  rw [vEq_of (fl_list (fl_map fl_encP)) (fl_list (fl_map fl_encP)) (by omega)]
  exact congrArg some (eqvAll_map eqv_encP xs ys)
theorem vNe_encPs (xs ys : List (Int × Int)) : vNe (.list (xs.map encP)) (.list (ys.map encP)) = some (!decide (xs = ys)) := by
  rw [vNe_of (fl_list (fl_map fl_encP)) (fl_list (fl_map fl_encP)) (by omega)]
  exact congrArg (fun z => some (!z)) (eqvAll_map eqv_encP xs ys)
@[simp] theorem ix_encP0 (q : Int × Int) : vIx (encP q) (.int 0) = some (.int q.1) := vIx_t0 _ _
@[simp] theorem ix_encP1 (q : Int × Int) : vIx (encP q) (.int 1) = some (.int q.2) := vIx_t1 _ _ _
@[simp] theorem gT_encP (gs : List D → Ev → Option Ev) (q : Int × Int) (ρ : Ev) : gT gs (encP q) ρ = gs [.int q.1, .int q.2] ρ := (rfl)
@[simp] theorem vIsN_encP (q : Int × Int) : vIsN (encP q) .none = some false := (rfl)
@[simp] theorem vNotN_encP (q : Int × Int) : vNotN (encP q) .none = some true := (rfl)
theorem vNe_pn (q : Int × Int) : vNe (encP q) .none = some true := by rw [vNe_of (fl_encP q) (fl_none 1) (by omega)]; simp [encP, PyData.eqv]
theorem vNe_np (q : Int × Int) : vNe .none (encP q) = some true := by rw [vNe_of (fl_none 1) (fl_encP q) (by omega)]; simp [encP, PyData.eqv]
/-- a list ascending by a number is told by its members -/
theorem asc_ext2 {α : Type} (k : α → Int) : ∀ {l m : List α}, l.Pairwise (fun a b => k a < k b) → m.Pairwise (fun a b => k a < k b) → (∀ z, z ∈ l ↔ z ∈ m) → l = m
  | [], [], _, _, _ => rfl
  | [], y :: m, _, _, h => by have := (h y).2 (by simp); cases this
  | x :: l, [], _, _, h => by have := (h x).1 (by simp); cases this
  | x :: l, y :: m, h1, h2, h => by
    obtain ⟨a1, a2⟩ := List.pairwise_cons.1 h1
    obtain ⟨b1, b2⟩ := List.pairwise_cons.1 h2
    have e : x = y := by
      rcases List.mem_cons.1 ((h x).1 (by simp)) with e | hx
      · exact e
      · rcases List.mem_cons.1 ((h y).2 (by simp)) with e | hy
        · exact e.symm
        · have := a1 y hy; have := b1 x hx; omega
    subst e
    congr 1
    refine asc_ext2 k a2 b2 fun z => ⟨fun hz => ?_, fun hz => ?_⟩
    · rcases List.mem_cons.1 ((h z).1 (by simp [hz])) with rfl | hz'
      · have := a1 _ hz; omega
      · exact hz'
    · rcases List.mem_cons.1 ((h z).2 (by simp [hz])) with rfl | hz'
      · have := b1 _ hz; omega
      · exact hz'
@[simp] theorem atI_l1 (a : D) : atI [a] (-1) = some a := (rfl)
@[simp] theorem atI_l2 (a b : D) : atI [a, b] (-1) = some b := (rfl)
@[simp] theorem atI_l3 (a b c : D) : atI [a, b, c] (-1) = some c := (rfl)
@[simp] theorem atI_l4 (a b c d : D) : atI [a, b, c, d] (-1) = some d := (rfl)
@[simp] theorem atI_l5 (a b c d e : D) : atI [a, b, c, d, e] (-1) = some e := (rfl)
theorem ixN_last (n : Nat) : ixN (n + 1) (-1) = some n := by
  unfold ixN
  rw [if_neg (by omega), if_pos (by omega)]
  congr 1
  omega
theorem atI_last (xs : List D) (a : D) : atI (xs ++ [a]) (-1) = some a := by
  unfold atI
  rw [List.length_append]
  show (ixN (xs.length + 1) (-1)).bind _ = _
  rw [ixN_last]
  simp
@[simp] theorem cut_55 (a b c d e : D) : cutD [a, b, c, d, e] none (some 5) = [a, b, c, d, e] := (rfl)
theorem rng_cons {d : PyData} {ds : List PyData} {j N : Int} (h : d :: ds = rangeL j 1 (N - j).toNat) : j < N ∧ d = .int j ∧ ds = rangeL (j + 1) 1 (N - (j + 1)).toNat := by
  by_cases z : j < N
  · have e : (N - j).toNat = (N - (j + 1)).toNat + 1 := by omega
    rw [e] at h
    obtain ⟨h1, h2⟩ := List.cons.inj h
    exact ⟨z, h1, h2⟩
  · have e : (N - j).toNat = 0 := by omega
    rw [e] at h
    cases h
theorem rng_nil {j N : Int} (h : [] = rangeL j 1 (N - j).toNat) : N ≤ j := by
  apply Int.not_lt.1
  intro z
  have e : (N - j).toNat = (N - (j + 1)).toNat + 1 := by omega
  rw [e] at h
  cases h
end M

set_option Elab.async false
set_option linter.all false
set_option maxRecDepth 100000
set_option maxHeartbeats 4000000
namespace M
/-! ### the cycle as a list from its least form on -/
def Fm.row (f : Fm) : List Int := [f.a, f.b, f.c]
theorem Fm.row_inj {f g : Fm} (h : f.row = g.row) : f = g := by
  simp only [Fm.row, List.cons.injEq] at h
  exact Fm.ext h.1 h.2.1 h.2.2.1
theorem enc_row (f : Fm) : f.enc = encR f.row := rfl
theorem enc_rows (fs : List Fm) : fs.map Fm.enc = (fs.map Fm.row).map encR := by rw [List.map_map]; rfl
theorem minR_le : ∀ (r : List Int) (rs : List (List Int)), (minR r rs = r ∨ minR r rs ∈ rs) ∧ rLt r (minR r rs) = false ∧ ∀ y ∈ rs, rLt y (minR r rs) = false
  | r, [] => ⟨.inl rfl, rLt_irrefl _, fun y h => nomatch h⟩
  | r, y :: rs => by
    have e : minR r (y :: rs) = minR (if rLt y r then y else r) rs := rfl
    obtain ⟨h1, h2, h3⟩ := minR_le (if rLt y r then y else r) rs
    rw [e]
    have tr : ∀ {a b c : List Int}, rLt b a = false → rLt b c = false ∨ True → rLt a c = true → rLt b c = false → False ∨ True := fun _ _ _ _ => .inr trivial
    have nlt : ∀ {a b c : List Int}, rLt a b = false → rLt b c = false → rLt a c = false := by
      intro a b c p q
      cases h : rLt a c with
      | false => rfl
      | true =>
        cases h2 : rLt b a with
        | true => rw [rLt_trans h2 h] at q; cases q
        | false =>
          have := rLt_tri p h2
          subst this
          rw [h] at q; cases q
    by_cases c : rLt y r = true
    · rw [if_pos c] at h1 h2 h3 ⊢
      have ryl : rLt r y = false := by
        cases z : rLt r y with
        | false => rfl
        | true => have := rLt_trans c z; rw [rLt_irrefl] at this; cases this
      refine ⟨?_, nlt ryl h2, fun x hx => ?_⟩
      · rcases h1 with h1 | h1
        · right; rw [h1]; exact List.mem_cons_self
        · right; exact List.mem_cons_of_mem _ h1
      · rcases List.mem_cons.1 hx with z | z
        · subst z; exact h2
        · exact h3 x z
    · have c' : rLt y r = false := by simpa using c
      simp only [c', Bool.false_eq_true, if_false] at h1 h2 h3 ⊢
      refine ⟨?_, h2, fun x hx => ?_⟩
      · rcases h1 with h1 | h1
        · exact .inl h1
        · right; exact List.mem_cons_of_mem _ h1
      · rcases List.mem_cons.1 hx with z | z
        · subst z; exact nlt c' h2
        · exact h3 x z
/-- the least form of a cycle -/
structure LeastIn (r : Int) (f h : Fm) : Prop where
  mem : ∃ j, gs r j f = h
  le : ∀ i, rLt (gs r i f).row h.row = false
theorem LeastIn.uniq {r : Int} {f h h' : Fm} (p : LeastIn r f h) (q : LeastIn r f h') : h = h' := by
  obtain ⟨i, hi⟩ := p.mem
  obtain ⟨j, hj⟩ := q.mem
  have a := q.le i
  have b := p.le j
  rw [hi] at a
  rw [hj] at b
  exact Fm.row_inj (rLt_tri a b)
theorem LeastIn.move {r : Int} {f h : Fm} (hf : f.RedM) (hr : Rt2 f.disc r) (hn : NSq f.disc) (p : LeastIn r f h) (i : Nat) : LeastIn r (gs r i f) h := by
  obtain ⟨j, hj⟩ := back_by hf hr hn i
  obtain ⟨k, hk⟩ := p.mem
  refine ⟨⟨j + k, by rw [gs_add, hj]; exact hk⟩, fun i' => by rw [← gs_add]; exact p.le _⟩
/-- once round -/
structure Per (r : Int) (f : Fm) (n : Nat) : Prop where
  n1 : 1 ≤ n
  e : gs r n f = f
  no : ∀ j : Nat, 1 ≤ j → j < n → gs r j f ≠ f
theorem Per.uniq {r : Int} {f : Fm} {m n : Nat} (h : Per r f m) (g : Per r f n) : m = n := by
  rcases Nat.lt_trichotomy m n with z | z | z
  · exact absurd h.e (g.no m h.n1 z)
  · exact z
  · exact absurd g.e (h.no n g.n1 z)
theorem Per.move {r : Int} {f : Fm} {n : Nat} (hf : f.RedM) (hr : Rt2 f.disc r) (hn : NSq f.disc) (p : Per r f n) (i : Nat) : Per r (gs r i f) n := by
  refine ⟨p.n1, ?_, fun j j1 j2 e => p.no j j1 j2 ?_⟩
  · rw [← gs_add, Nat.add_comm, gs_add, p.e]
  · rw [← gs_add, Nat.add_comm, gs_add] at e
    exact (gs_inj i hf (gs_red j hf hr hn) hr hn (gs_disc r j f) e.symm).symm
/-- the forms of a cycle in order -/
def cyL (r : Int) (f : Fm) (n : Nat) : List Fm := (List.range n).map fun i => gs r i f
theorem cyL_succ (r : Int) (f : Fm) (n : Nat) : cyL r f n ++ [gs r n f] = cyL r f (n + 1) := by simp [cyL, List.range_succ]
theorem cyL_len (r : Int) (f : Fm) (n : Nat) : (cyL r f n).length = n := by simp [cyL]
theorem cyL_find {r : Int} {f g : Fm} {n h : Nat} (hn : h < n) (e : gs r h f = g) (no : ∀ j, j < h → gs r j f ≠ g) : (cyL r f n).findIdx? (fun z => decide (z = g)) = some h := by
  rw [List.findIdx?_eq_some_iff_getElem]
  have len : (cyL r f n).length = n := by simp [cyL]
  refine ⟨by omega, ?_, ?_⟩
  · simp [cyL, e]
  · intro j hj
    have := no j hj
    simp [cyL, this]
theorem cyL_mem {r : Int} {f g : Fm} {n : Nat} : g ∈ cyL r f n ↔ ∃ j, j < n ∧ gs r j f = g := by simp [cyL]
theorem Per.all {r : Int} {f : Fm} {n : Nat} (p : Per r f n) (i : Nat) : ∃ j, j < n ∧ gs r i f = gs r j f := by
  refine ⟨i % n, Nat.mod_lt _ p.n1, ?_⟩
  have e := Nat.div_add_mod i n
  rw [← e, gs_add, gs_mul p.e, e]
theorem cyL_mem' {r : Int} {f g : Fm} {n : Nat} (p : Per r f n) : g ∈ cyL r f n ↔ ∃ j, gs r j f = g := by
  rw [cyL_mem]
  constructor
  · intro ⟨j, _, h⟩; exact ⟨j, h⟩
  · intro ⟨j, h⟩
    obtain ⟨k, k1, k2⟩ := p.all j
    exact ⟨k, k1, by rw [← k2]; exact h⟩
theorem cyL_inj {r : Int} {f : Fm} {n : Nat} (hf : f.RedM) (hr : Rt2 f.disc r) (hn : NSq f.disc) (p : Per r f n) {i j : Nat} (hi : i < n) (hj : j < n) (e : gs r i f = gs r j f) : i = j := by
  have key : ∀ {i j : Nat}, i < j → j < n → gs r i f = gs r j f → False := by
    intro i j hij hj e
    obtain ⟨d, rfl⟩ := Nat.le.dest (Nat.le_of_lt hij)
    have : gs r d f = f := by
      refine (gs_inj i hf (gs_red d hf hr hn) hr hn (gs_disc r d f) ?_).symm
      rw [e, Nat.add_comm, gs_add]
    exact p.no d (by omega) (by omega) this
  rcases Nat.lt_trichotomy i j with z | z | z
  · exact (key z hj e).elim
  · exact z
  · exact (key z hi e.symm).elim
theorem cyL_nodup {r : Int} {f : Fm} {n : Nat} (hf : f.RedM) (hr : Rt2 f.disc r) (hn : NSq f.disc) (p : Per r f n) : (cyL r f n).Nodup := by
  unfold cyL List.Nodup
  rw [List.pairwise_map]
  refine List.Pairwise.imp_of_mem (fun {a b} ha hb hab e => ?_) List.pairwise_lt_range
  rw [List.mem_range] at ha hb
  have := cyL_inj hf hr hn p ha hb e
  omega
theorem cyL_rot {r : Int} {f : Fm} {n p : Nat} (hp : p < n) (e : gs r n f = f) : (cyL r f n).drop p ++ (cyL r f n).take p = cyL r (gs r p f) n := by
  refine List.ext_getElem (by simp [cyL]; omega) fun i h1 h2 => ?_
  have hi : i < n := by simpa [cyL] using h2
  rw [List.getElem_append]
  split
  · rename_i z
    simp only [cyL, List.length_drop, List.length_map, List.length_range] at z
    simp only [cyL, List.getElem_drop, List.getElem_map, List.getElem_range]
    rw [gs_add]
  · rename_i z
    simp only [cyL, List.length_drop, List.length_map, List.length_range] at z
    simp only [cyL, List.getElem_take, List.getElem_map, List.getElem_range, List.length_drop, List.length_map, List.length_range]
    rw [← gs_add]
    have : p + i = n + (i - (n - p)) := by omega
    rw [this, gs_add, e]
theorem least_ex_in {r : Int} {f : Fm} {n : Nat} (p : Per r f n) : ∃ j, j < n ∧ LeastIn r f (gs r j f) := by
  obtain ⟨m, rfl⟩ : ∃ m, n = m + 1 := ⟨n - 1, by have := p.n1; omega⟩
  have hc : (cyL r f (m + 1)).map Fm.row = f.row :: ((cyL r f (m + 1)).map Fm.row).tail := by
    have : cyL r f (m + 1) = f :: (cyL r f (m + 1)).tail := by
      unfold cyL
      rw [List.range_succ_eq_map]
      simp [gs]
    rw [this]; rfl
  obtain ⟨h1, h2, h3⟩ := minR_le f.row ((cyL r f (m + 1)).map Fm.row).tail
  generalize hM : minR f.row ((cyL r f (m + 1)).map Fm.row).tail = M at *
  have hm : M ∈ (cyL r f (m + 1)).map Fm.row := by
    rw [hc]
    rcases h1 with h1 | h1
    · rw [h1]; exact List.mem_cons_self
    · exact List.mem_cons_of_mem _ h1
  obtain ⟨h, hh, rfl⟩ := List.mem_map.1 hm
  obtain ⟨j, hj, rfl⟩ := cyL_mem.1 hh
  refine ⟨j, hj, ⟨j, rfl⟩, fun i => ?_⟩
  obtain ⟨k, k1, k2⟩ := p.all i
  rw [k2]
  have : (gs r k f).row ∈ (cyL r f (m + 1)).map Fm.row := List.mem_map.2 ⟨_, cyL_mem.2 ⟨k, k1, rfl⟩, rfl⟩
  rw [hc] at this
  rcases List.mem_cons.1 this with z | z
  · rw [z]; exact h2
  · exact h3 _ z
theorem least_min {r : Int} {f h : Fm} {n : Nat} (p : Per r f n) (l : LeastIn r f h) : fMinD [.list ((cyL r f n).map Fm.enc)] = some h.enc := by
  obtain ⟨m, rfl⟩ : ∃ m, n = m + 1 := ⟨n - 1, by have := p.n1; omega⟩
  have hc : (cyL r f (m + 1)).map Fm.row = f.row :: ((cyL r f (m + 1)).map Fm.row).tail := by
    have : cyL r f (m + 1) = f :: (cyL r f (m + 1)).tail := by
      unfold cyL
      rw [List.range_succ_eq_map]
      simp [gs]
    rw [this]; rfl
  rw [enc_rows, hc, fMinD_rows]
  obtain ⟨h1, h2, h3⟩ := minR_le f.row ((cyL r f (m + 1)).map Fm.row).tail
  generalize hM : minR f.row ((cyL r f (m + 1)).map Fm.row).tail = M at *
  have hm : M ∈ (cyL r f (m + 1)).map Fm.row := by
    rw [hc]
    rcases h1 with h1 | h1
    · rw [h1]; exact List.mem_cons_self
    · exact List.mem_cons_of_mem _ h1
  obtain ⟨g, hg, rfl⟩ := List.mem_map.1 hm
  have lg : LeastIn r f g := by
    obtain ⟨j, _, e⟩ := cyL_mem.1 hg
    refine ⟨⟨j, e⟩, fun i => ?_⟩
    obtain ⟨k, k1, k2⟩ := p.all i
    rw [k2]
    have : (gs r k f).row ∈ (cyL r f (m + 1)).map Fm.row := List.mem_map.2 ⟨_, cyL_mem.2 ⟨k, k1, rfl⟩, rfl⟩
    rw [hc] at this
    rcases List.mem_cons.1 this with z | z
    · rw [z]; exact h2
    · exact h3 _ z
  rw [lg.uniq l]
  rfl
end M

set_option Elab.async false
set_option linter.all false
set_option maxRecDepth 100000
set_option maxHeartbeats 4000000
namespace M
open PySem PySem.Spec PyProof.Rows L2
/-! ### mixed forms: the walks -/
theorem value_ok {f : Fm} {x y : Int} {n k : Nat} (hf : FB n f) (hx : Szc x k) (hy : Szc y k) (hn : n + k + k < 400000) : d_value_at_point [f.enc, .int x, .int y] = .ok (.int (f.at x y)) [] := by
  have := hf.a
  have := hf.b
  have := hf.c
  unfold d_value_at_point
  have e1 := vMul_le hf.a hx (by omega)
  have e2 := vMul_le (inferInstance : Szc (f.a * x) (n + k)) hx (by omega)
  have e3 := vMul_le hf.b hx (by omega)
  have e4 := vMul_le (inferInstance : Szc (f.b * x) (n + k)) hy (by omega)
  have e5 := vMul_le hf.c hy (by omega)
  have e6 := vMul_le (inferInstance : Szc (f.c * y) (n + k)) hy (by omega)
  simp [Fm.enc, Fm.at, e1, e2, e3, e4, e5, e6]
theorem turned_ok {f : Fm} {m : Mt} {n k : Nat} (hf : FB n f) (hm : MB4 k m) (hn : n + k + k < 400000) : d_turned_form [f.enc, m.enc] = .ok (f.turn m).enc [] := by
  have v1 := value_ok hf hm.p hm.r (by omega)
  have v2 := value_ok hf hm.q hm.s (by omega)
  obtain ⟨fa, fb, fc⟩ := hf
  obtain ⟨mp, mq, mr, ms⟩ := hm
  have t2 : Szc 2 2 := ⟨by decide⟩
  have e1 := vMul_le t2 fa (by omega)
  have e2 := vMul_le (inferInstance : Szc (2 * f.a) (2 + n)) mp (by omega)
  have e3 := vMul_le (inferInstance : Szc (2 * f.a * m.p) (2 + n + k)) mq (by omega)
  have e4 := vMul_le mp ms (by omega)
  have e5 := vMul_le mq mr (by omega)
  have e6 := vMul_le fb (inferInstance : Szc (m.p * m.s + m.q * m.r) (max (k + k) (k + k) + 1)) (by omega)
  have e7 := vMul_le t2 fc (by omega)
  have e8 := vMul_le (inferInstance : Szc (2 * f.c) (2 + n)) mr (by omega)
  have e9 := vMul_le (inferInstance : Szc (2 * f.c * m.r) (2 + n + k)) ms (by omega)
  unfold d_turned_form
  simp only [Fm.enc, Mt.enc] at *
  simp [v1, v2, e1, e2, e3, e4, e5, e6, e7, e8, e9, Fm.turn]
theorem disc_ok6 {f : Fm} {n : Nat} (hf : FB n f) (hn : n < 10000) : d_discriminant_of [f.enc] = .ok (.int f.disc) [] := by
  obtain ⟨fa, fb, fc⟩ := hf
  have t4 : Szc 4 3 := ⟨by decide⟩
  have e1 := vMul_le fb fb (by omega)
  have e2 := vMul_le t4 fa (by omega)
  have e3 := vMul_le (inferInstance : Szc (4 * f.a) (3 + n)) fc (by omega)
  unfold d_discriminant_of
  simp [Fm.enc, e1, e2, e3, Fm.disc]
theorem after_ok {x y : Mt} {n k : Nat} (hx : MB4 n x) (hy : MB4 k y) (h : n + k < 900000) : d_after_twist [x.enc, y.enc] = .ok (x.mul y).enc [] := by
  have g : ∀ {u v : Int}, Szc u n → Szc v k → vMul (.int u) (.int v) = some (.int (u * v)) := fun hu hv => vMul_le hu hv (by omega)
  obtain ⟨x1, x2, x3, x4⟩ := hx
  obtain ⟨y1, y2, y3, y4⟩ := hy
  unfold d_after_twist
  simp [enc4, Mt.mul, g x1 y1, g x2 y3, g x1 y2, g x2 y4, g x3 y1, g x4 y3, g x3 y2, g x4 y4]
/-- a mixed form on its way -/
structure Mix (D r : Int) (f : Fm) : Prop where
  d : f.disc = D
  r : Rt2 D r
  n : NSq D
  b : D < 2 ^ 60
  fb : FB 60 f
theorem Mix.hr {D r : Int} {f : Fm} (h : Mix D r f) : Rt2 f.disc r := by rw [h.d]; exact h.r
theorem Mix.hn {D r : Int} {f : Fm} (h : Mix D r f) : NSq f.disc := by rw [h.d]; exact h.n
theorem Mix.r1 {D r : Int} {f : Fm} (h : Mix D r f) : r < 2 ^ 60 := by
  have h2 := h.r.lo; have h3 := h.r.r0
  by_cases z : r = 0
  · subst z; omega
  · have := Int.mul_le_mul_of_nonneg_left (show 1 ≤ r by omega) h3
    have := h.b
    omega
theorem Mix.next {D r : Int} {f : Fm} (h : Mix D r f) : Mix D r (nxF r f) := by
  have hc := h.fb.c.h
  obtain ⟨s1, s2, s3⟩ := nx_size h.hr h.hn (B := 2 ^ 60 - 1) (by have := h.b; have := h.d; omega) (by omega)
  exact ⟨by rw [nx_disc]; exact h.d, h.r, h.n, h.b, ⟨by omega⟩, ⟨by omega⟩, ⟨by omega⟩⟩
theorem Mix.gs {D r : Int} : ∀ (k : Nat) {f : Fm}, Mix D r f → Mix D r (M.gs r k f)
  | 0, _, h => h
  | k + 1, f, h => Mix.gs k h.next
theorem Mix.pos {D r : Int} {f : Fm} (h : Mix D r f) : 0 < D := by
  have := h.r.lo
  have := h.n 0
  have z : 0 ≤ r * r := Int.mul_nonneg h.r.r0 h.r.r0
  omega
theorem Mix.qb {D r : Int} {f : Fm} (h : Mix D r f) : Szc (nxQ r f) 62 := by
  have c0 := disc_c0 h.hn
  obtain ⟨q, e1, e2, e3, e4, e5⟩ := nx_mid (r := r) c0
  have hm := h.next.fb.b.h
  have hb := h.fb.b.h
  rw [e3] at hm
  simp only at hm
  rw [e1]
  refine ⟨?_⟩
  have e : (2 * f.c * q).natAbs = 2 * f.c.natAbs * q.natAbs := by rw [Int.natAbs_mul, Int.natAbs_mul]; rfl
  have : q.natAbs ≤ (2 * f.c * q).natAbs := by
    rw [e]
    exact Nat.le_mul_of_pos_left _ (by omega)
  omega
theorem mb_nx {q : Int} {k : Nat} (h : Szc q k) (hk : 1 ≤ k) : MB4 k ⟨0, -1, 1, q⟩ :=
  ⟨szcMono (inferInstance : Szc 0 0) (by omega), szcMono (show Szc (-1) 1 from ⟨by decide⟩) hk, szcMono (show Szc 1 1 from ⟨by decide⟩) hk, h⟩
theorem Mix.tb {D r : Int} {f : Fm} (h : Mix D r f) : MB4 62 (nxT r f) := mb_nx h.qb (by omega)
theorem next_mixed_ok {D r : Int} {f : Fm} (h : Mix D r f) : d_next_mixed [f.enc] = .ok (.tuple [(nxF r f).enc, (nxT r f).enc]) [] := by
  have c0 := disc_c0 h.hn
  have dd := disc_ok6 h.fb (by omega)
  have D0 := h.pos
  have rr := root_is h.hr (by have := h.d; omega) (k := 60) (by have := h.d; have := h.b; exact ⟨by omega⟩) (by omega)
  have := h.fb.a; have := h.fb.b; have := h.fb.c
  have ab : (if f.c < 0 then -f.c else f.c) = (f.c.natAbs : Int) := by omega
  have cp : (0 : Int) < 2 * f.c.natAbs := by omega
  obtain ⟨tp, htp⟩ : ∃ tp, (if (f.c.natAbs : Int) ≤ r then r else f.c.natAbs) = tp := ⟨_, rfl⟩
  have md : vMod (.int (tp + f.b)) (.int (2 * (f.c.natAbs : Int))) = some (.int ((tp + f.b) % (2 * f.c.natAbs))) := modP cp
  have em : nxM r f = tp - (tp + f.b) % (2 * f.c.natAbs) := by unfold nxM; rw [htp]
  have qf : vFdiv (.int (nxM r f + f.b)) (.int (2 * f.c)) = some (.int (nxQ r f)) := vFdiv_c (n := 62) (hb := szcMono (inferInstance : Szc (2 * f.c) _) (by omega)) (by omega) (by omega)
  have tu := turned_ok (m := ⟨0, -1, 1, nxQ r f⟩) (h.fb) h.tb (by omega)
  have mt : PyData.tuple [.int 0, .int (-1), .int 1, .int (nxQ r f)] = (Mt.mk 0 (-1) 1 (nxQ r f)).enc := rfl
  have zC : Szc (f.c.natAbs : Int) 60 := ⟨by have := h.fb.c.h; omega⟩
  unfold d_next_mixed
  by_cases t : (f.c.natAbs : Int) ≤ r
  · rw [if_pos t] at htp
    subst htp
    simp [dd, rr, ab, t, md, ← em, qf, mt, tu]
    exact ⟨rfl, rfl⟩
  · rw [if_neg t] at htp
    rw [← htp] at md em
    simp [dd, rr, ab, t, md, ← em, qf, mt, tu]
    exact ⟨rfl, rfl⟩
theorem is_red_ok {f : Fm} (hf : FB 60 f) : d_is_reduced_mixed [f.enc] = .ok (.bool (redMB f.disc f)) [] := by
  have dd := disc_ok6 hf (by omega)
  have := hf.a; have := hf.b; have := hf.c
  have ab : (if f.a < 0 then -f.a else f.a) = (f.a.natAbs : Int) := by omega
  have zA : Szc (f.a.natAbs : Int) 60 := ⟨by have := hf.a.h; omega⟩
  unfold d_is_reduced_mixed redMB
  generalize f.disc = d at *
  by_cases c1 : f.b ≤ 0
  · simp [dd, c1]
  · by_cases c2 : d < f.b * f.b
    · simp [dd, c1, c2]
    · by_cases c3 : 2 * (f.a.natAbs : Int) - f.b < 0
      · simp [dd, c1, c2, ab, c3]
      · by_cases c4 : (2 * (f.a.natAbs : Int) - f.b) * (2 * (f.a.natAbs : Int) - f.b) < d
        · simp [dd, c1, c2, ab, c3, c4]
        · simp [dd, c1, c2, ab, c3, c4]
theorem Mix.last {D r : Int} {f : Fm} (h : Mix D r f) : vFdiv (.int (nxM r f * nxM r f - f.disc)) (.int (4 * f.c)) = some (.int (nxF r f).c) := by
  have c0 := disc_c0 h.hn
  have := h.fb.c
  have e := nx_c (r := r) c0
  rw [vFdiv_c (n := 64) (hb := szcMono (inferInstance : Szc (4 * f.c) _) (by omega)) (by omega) (by omega)]
  have e2 : nxM r f * nxM r f - f.disc = 4 * f.c * (nxF r f).c := by rw [← e]; grind
  rw [e2, Int.mul_fdiv_cancel_left _ (by omega)]
theorem nx_enc {D r : Int} {f : Fm} (h : Mix D r f) : (nxF r f).enc = .tuple [.int f.c, .int (nxM r f), .int (nxF r f).c] := by
  obtain ⟨q, e1, e2, e3, _, _⟩ := nx_mid (r := r) (disc_c0 h.hn)
  rw [e3]; rfl
theorem Mix.mb {D r : Int} {f : Fm} (h : Mix D r f) : Szc (nxM r f) 60 := by
  obtain ⟨q, e1, e2, e3, _, _⟩ := nx_mid (r := r) (disc_c0 h.hn)
  have := h.next.fb.b
  rw [e3] at this
  exact this
theorem gs_succ (r : Int) (k : Nat) (f : Fm) : gs r (k + 1) f = nxF r (gs r k f) := by rw [gs_add]; rfl
theorem gW_succ (r : Int) (k : Nat) (f : Fm) : gW r (k + 1) f = (gW r k f).mul (nxT r (gs r k f)) := by
  rw [gW_add]
  show (gW r k f).mul ((nxT r (gs r k f)).mul Mt.one) = _
  rw [Mt.mul_one]
theorem redMB_D {D r : Int} {f : Fm} (h : Mix D r f) : redMB f.disc f = true ↔ f.RedM := redMB_iff h.hn
/-- the first form that is reduced -/
structure FirstRed (r : Int) (f : Fm) (k : Nat) : Prop where
  red : (gs r k f).RedM
  no : ∀ j, j < k → ¬ (gs r j f).RedM
theorem first_ex {D r : Int} {f : Fm} (h : Mix D r f) : ∃ k, k ≤ muM r f ∧ FirstRed r f k := by
  have : ∀ n, ∀ {f : Fm}, Mix D r f → muM r f ≤ n → ∃ k, k ≤ n ∧ FirstRed r f k := by
    intro n
    induction n with
    | zero =>
      intro f h hk
      by_cases z : f.RedM
      · exact ⟨0, Nat.le_refl _, z, fun j hj => by omega⟩
      · have := muM_dec h.hr h.hn z; omega
    | succ n ih =>
      intro f h hk
      by_cases z : f.RedM
      · exact ⟨0, by omega, z, fun j hj => by omega⟩
      · have d := muM_dec h.hr h.hn z
        obtain ⟨k, k1, k2, k3⟩ := ih h.next (by omega)
        refine ⟨k + 1, by omega, k2, fun j hj => ?_⟩
        cases j with
        | zero => exact z
        | succ j => exact k3 j (by omega)
  exact this _ h (Nat.le_refl _)
theorem FirstRed.uniq {r : Int} {f : Fm} {j k : Nat} (h : FirstRed r f j) (g : FirstRed r f k) : j = k := by
  rcases Nat.lt_trichotomy j k with z | z | z
  · exact absurd h.red (g.no j z)
  · exact z
  · exact absurd g.red (h.no k z)
theorem gW_mb {D r : Int} {f : Fm} (h : Mix D r f) : ∀ k, MB4 (1 + 63 * k) (gW r k f)
  | 0 => mb_one
  | k + 1 => by
    rw [gW_succ]
    exact ((gW_mb h k).mul (Mix.tb (Mix.gs k h))).mono (by omega)
theorem muM_60 {D r : Int} {f : Fm} (h : Mix D r f) : muM r f ≤ 63 := muM_le h.fb.c.h
def RedInv (r : Int) (f : Fm) (k : Nat) : Nat → Ev → Prop := fun n ρ => ∃ j o, ρ = [some (gs r j f).enc, some (gW r j f).enc, o] ∧ j + n = k
theorem reduced_mixed_ok {D r : Int} {f : Fm} (h : Mix D r f) {k : Nat} (hk : FirstRed r f k) : d_reduced_mixed [f.enc] = .ok (.tuple [(gs r k f).enc, (gW r k f).enc]) [] := by
  have dd := disc_ok6 h.fb (by omega)
  have sq := is_square_is (n := f.disc) (k := 60) (by have := h.d; have := h.b; have := h.pos; exact ⟨by omega⟩) (by omega)
  rw [sqB_false.2 h.hn] at sq
  have D0 : ¬ f.disc ≤ 0 := by have := h.d; have := h.pos; omega
  have mu := muM_60 h
  have k63 : k ≤ 63 := by
    obtain ⟨k', k1, k2⟩ := first_ex h
    have := hk.uniq k2
    omega
  have lp := while_P (w := []) (t := bNot (bTru (eCall d_is_reduced_mixed (aCons (eVar 0) aNil)))) (db := sSeq (sAsg (eCall d_next_mixed (aCons (eVar 0) aNil)) (gT (gsCons (gN 0) (gsCons (gN 2) gsNil)))) (sAsg (eCall d_after_twist (aCons (eVar 1) (aCons (eVar 2) aNil))) (gN 1)))
    (RedInv r f k) (fun ρ => ∃ o, ρ = [some (gs r k f).enc, some (gW r k f).enc, o]) (by
      intro n ρ ⟨j, o, e, hj⟩
      subst e
      have mj := Mix.gs j h
      have ir := is_red_ok mj.fb
      have nx := next_mixed_ok mj
      have af := after_ok (gW_mb h j) mj.tb (by omega)
      by_cases z : j = k
      · subst z
        left
        rw [(redMB_D mj).2 hk.red] at ir
        exact ⟨by simp [ir], o, rfl⟩
      · right
        have : redMB (gs r j f).disc (gs r j f) = false := by
          rw [Bool.eq_false_iff]
          intro t
          exact hk.no j (by omega) ((redMB_D mj).1 t)
        rw [this] at ir
        refine ⟨by simp [ir], ?_⟩
        simp [nx, af]
        rw [← gs_succ, ← gW_succ]
        exact .next (m := n - 1) (by omega) ⟨j + 1, _, rfl, by omega⟩)
    k [some f.enc, some Mt.one.enc, none] ⟨0, none, rfl, by omega⟩
  obtain ⟨ρ', e1, o, e2⟩ := lp
  subst e2
  have e0 : PyData.tuple (List.map PyData.int [1, 0, 0, 1]) = Mt.one.enc := rfl
  unfold d_reduced_mixed
  rw [e0]
  simp [dd, D0, sq, e1]
theorem per_ex {D r : Int} {f : Fm} (h : Mix D r f) (hf : f.RedM) : ∃ n : Nat, (n : Int) ≤ (r + 1) * (2 * r + 1) ∧ Per r f n := by
  obtain ⟨n, n1, n2, n3, n4⟩ := period hf h.hr h.hn
  exact ⟨n, n2, n1, n3, n4⟩
theorem gs_red' {D r : Int} {f : Fm} (h : Mix D r f) (hf : f.RedM) (k : Nat) : (gs r k f).RedM := gs_red k hf h.hr h.hn
theorem red_q {D r : Int} {f : Fm} (h : Mix D r f) (hf : f.RedM) {k : Nat} (hk : Szc r k) (k1 : 1 ≤ k) : Szc (nxQ r f) k := by
  have c0 := disc_c0 h.hn
  obtain ⟨q, e1, e2, e3, e4, e5⟩ := nx_mid (r := r) c0
  obtain ⟨b1, b2, b3, b4, b5⟩ := hf.bounds h.hr
  rw [if_pos (by omega)] at e4 e5
  rw [e1]
  have hr := hk.h
  refine ⟨?_⟩
  have e : (2 * f.c * q).natAbs = 2 * f.c.natAbs * q.natAbs := by rw [Int.natAbs_mul, Int.natAbs_mul]; rfl
  have : 2 * q.natAbs ≤ (2 * f.c * q).natAbs := by
    rw [e]
    exact Nat.mul_le_mul_right _ (by omega)
  omega
theorem red_W {D r : Int} {f : Fm} (h : Mix D r f) (hf : f.RedM) {k : Nat} (hk : Szc r k) (k1 : 1 ≤ k) : ∀ n, MB4 (1 + (k + 1) * n) (gW r n f)
  | 0 => mb_one
  | n + 1 => by
    rw [gW_succ]
    have e : (k + 1) * (n + 1) = (k + 1) * n + (k + 1) := Nat.mul_succ _ _
    exact ((red_W h hf hk k1 n).mul (mb_nx (red_q (Mix.gs n h) (gs_red' h hf n) hk k1) k1)).mono (by omega)
def AlInv (r : Int) (f : Fm) (k : Nat) : Nat → Ev → Prop := fun n ρ => ∃ j x, ρ = [some f.enc, some (gW r j f).enc, some (gs r j f).enc, x] ∧ j + n = k ∧ 1 ≤ j
def AlEnd (r : Int) (f : Fm) (k : Nat) : Ev → Prop := fun ρ => ∃ x, ρ = [some f.enc, some (gW r k f).enc, some f.enc, x]
theorem twist_along_ok {D r : Int} {f : Fm} {k n : Nat} (h : Mix D r f) (hf : f.RedM) (hn : Per r f n) (hk : Szc r k) (k1 : 1 ≤ k) (hl : (k + 1) * n < 400000) : d_twist_along [f.enc] = .ok (gW r n f).enc [] := by
  have nx0 := next_mixed_ok h
  have af0 := after_ok (mb_one) h.tb (by omega)
  have sz : ∀ j, j ≤ n → (k + 1) * j ≤ (k + 1) * n := fun j hj => Nat.mul_le_mul_left _ hj
  have k8 : 0 ≤ (k + 1) * n := Nat.zero_le _
  have klt : k < 400000 := by
    have := Nat.mul_le_mul_left (k + 1) hn.n1
    omega
  have lp := while_P (w := []) (t := bBin vNe (eVar 2) (eVar 0)) (db := sSeq (sAsg (eCall d_next_mixed (aCons (eVar 2) aNil)) (gT (gsCons (gN 2) (gsCons (gN 3) gsNil)))) (sAsg (eCall d_after_twist (aCons (eVar 1) (aCons (eVar 3) aNil))) (gN 1)))
    (AlInv r f n) (AlEnd r f n) (by
      intro m ρ ⟨j, x, e, hj, j1⟩
      subst e
      have mj := Mix.gs j h
      by_cases z : j = n
      · subst z
        left
        refine ⟨by simp [hn.e], x, by rw [hn.e]⟩
      · right
        have ne : gs r j f ≠ f := hn.no j j1 (by omega)
        have nx := next_mixed_ok mj
        have af := after_ok (red_W h hf hk k1 j) (mb_nx (red_q mj (gs_red' h hf j) hk k1) k1) (by have := sz j (by omega); have := klt; omega)
        have af : d_after_twist [(gW r j f).enc, (nxT r (gs r j f)).enc] = .ok ((gW r j f).mul (nxT r (gs r j f))).enc [] := af
        refine ⟨by simp [ne], ?_⟩
        simp [nx, af]
        rw [← gs_succ, ← gW_succ]
        exact .next (m := m - 1) (by omega) ⟨j + 1, _, rfl, by omega, by omega⟩)
    (n - 1) [some f.enc, some (gW r 1 f).enc, some (gs r 1 f).enc, some (nxT r f).enc] ⟨1, _, rfl, by have := hn.n1; omega, by omega⟩
  obtain ⟨ρ', e1, x, e2⟩ := lp
  subst e2
  have e0 : PyData.tuple (List.map PyData.int [1, 0, 0, 1]) = Mt.one.enc := rfl
  have g1 : gs r 1 f = nxF r f := rfl
  have w1 : gW r 1 f = Mt.one.mul (nxT r f) := by
    show (nxT r f).mul Mt.one = _
    rw [Mt.mul_one, Mt.one_mul]
  rw [g1, w1] at e1
  unfold d_twist_along
  rw [e0]
  simp [nx0, af0, e1]
end M

set_option Elab.async false
set_option linter.all false
set_option maxRecDepth 100000
set_option maxHeartbeats 4000000
namespace M
open PySem PySem.Spec PyProof.Rows L2
/-! ### what laws about mixed forms draw -/
theorem L_turned_ok {f : Fm} {m : Mt} {n k : Nat} (hf : FB n f) (hm : MB4 k m) (hn : n + k + k < 400000) : d_L_turned [f.enc, m.enc] = .ok (f.turn m).enc [] := by
  obtain ⟨fa, fb, fc⟩ := hf
  obtain ⟨mp, mq, mr, ms⟩ := hm
  have t2 : Szc 2 2 := ⟨by decide⟩
  have q1 := vMul_le fa mp (by omega)
  have q2 := vMul_le (inferInstance : Szc (f.a * m.p) (n + k)) mp (by omega)
  have q3 := vMul_le fb mp (by omega)
  have q4 := vMul_le (inferInstance : Szc (f.b * m.p) (n + k)) mr (by omega)
  have q5 := vMul_le fc mr (by omega)
  have q6 := vMul_le (inferInstance : Szc (f.c * m.r) (n + k)) mr (by omega)
  have r1 := vMul_le fa mq (by omega)
  have r2 := vMul_le (inferInstance : Szc (f.a * m.q) (n + k)) mq (by omega)
  have r3 := vMul_le fb mq (by omega)
  have r4 := vMul_le (inferInstance : Szc (f.b * m.q) (n + k)) ms (by omega)
  have r5 := vMul_le fc ms (by omega)
  have r6 := vMul_le (inferInstance : Szc (f.c * m.s) (n + k)) ms (by omega)
  have e1 := vMul_le t2 fa (by omega)
  have e2 := vMul_le (inferInstance : Szc (2 * f.a) (2 + n)) mp (by omega)
  have e3 := vMul_le (inferInstance : Szc (2 * f.a * m.p) (2 + n + k)) mq (by omega)
  have e4 := vMul_le mp ms (by omega)
  have e5 := vMul_le mq mr (by omega)
  have e6 := vMul_le fb (inferInstance : Szc (m.p * m.s + m.q * m.r) (max (k + k) (k + k) + 1)) (by omega)
  have e7 := vMul_le t2 fc (by omega)
  have e8 := vMul_le (inferInstance : Szc (2 * f.c) (2 + n)) mr (by omega)
  have e9 := vMul_le (inferInstance : Szc (2 * f.c * m.r) (2 + n + k)) ms (by omega)
  unfold d_L_turned
  simp [q1, q2, q3, q4, q5, q6, r1, r2, r3, r4, r5, r6, e1, e2, e3, e4, e5, e6, e7, e8, e9]
  simp [Fm.enc, Fm.turn, Fm.at]
theorem no_two_sq {b k : Int} (hk : 1 ≤ k) (h : sqB (b * b + 4 * k) = true) : NSq ((b + 1) * (b + 1) + 4 * k) := by
  have key : ∀ {b x y : Int}, 0 ≤ b → 0 ≤ x → 0 ≤ y → x * x = b * b + 4 * k → y * y = (b + 1) * (b + 1) + 4 * k → False := by
    intro b x y hb hx hy h1 h2
    have e : (b + 1) * (b + 1) = b * b + 2 * b + 1 := by grind
    have xb : b < x := by
      apply Int.not_le.1
      intro z
      have := Int.mul_le_mul z z hx hb
      omega
    rcases (show y ≤ x ∨ x + 1 ≤ y by omega) with z | z
    · have := Int.mul_le_mul z z hy hx
      omega
    · have := Int.mul_le_mul z z (by omega) hy
      have e2 : (x + 1) * (x + 1) = x * x + 2 * x + 1 := by grind
      omega
  obtain ⟨x, hx⟩ := sqB_true.1 h
  intro y hy
  have ex : (x.natAbs : Int) * x.natAbs = x * x := Int.natAbs_mul_self' x
  have ey : (y.natAbs : Int) * y.natAbs = y * y := Int.natAbs_mul_self' y
  by_cases hb : 0 ≤ b
  · exact key hb (by omega) (by omega) (ex.trans hx) (ey.trans hy)
  · refine key (b := -b - 1) (x := y.natAbs) (y := x.natAbs) (by omega) (by omega) (by omega) ?_ ?_
    · rw [ey, hy]; grind
    · rw [ex, hx]; grind
theorem mb_t {t : Int} {n : Nat} (h : Szc t n) (hn : 1 ≤ n) : MB4 n ⟨t, -1, 1, 0⟩ := ⟨h, szcMono (show Szc (-1) 1 from ⟨by decide⟩) hn, szcMono (show Szc 1 1 from ⟨by decide⟩) hn, szcMono (show Szc 0 1 from ⟨by decide⟩) hn⟩
theorem mt_shift {t : Int} (ht : -2 ≤ t ∧ t ≤ 2) : MB4 2 ⟨t, -1, 1, 0⟩ := mb_t ⟨by omega⟩ (by omega)
theorem FB.shift {n : Nat} {f : Fm} {t : Int} (ht : -2 ≤ t ∧ t ≤ 2) (hf : FB n f) : FB (n + 3) (f.turn ⟨t, -1, 1, 0⟩) := by
  have ha := hf.a.h; have hb := hf.b.h; have hc := hf.c.h
  have p : 2 ^ (n + 3) = 8 * 2 ^ n := by rw [Nat.pow_add]; omega
  rcases (show t = -2 ∨ t = -1 ∨ t = 0 ∨ t = 1 ∨ t = 2 by omega) with z | z | z | z | z <;> subst z <;> refine ⟨⟨?_⟩, ⟨?_⟩, ⟨?_⟩⟩ <;> simp only [Fm.turn, Fm.at] <;> omega
def MixP (D : Int) (n : Nat) (a b c : Int) (most : Int) : List PyData → Ev → Wd → Prop := fun ds ρ w => StOk w ∧ ds.length ≤ 3 ∧ ∃ f x, f.disc = D ∧ FB (n - 3 * ds.length) f ∧ ρ = [none, some (.int most), some (.int a), some (.int c), some (.int b), some f.enc, x]
theorem L_mix_ok {ω : Wd} (h : StOk ω) {most : Int} (hm : 1 ≤ most) (hm2 : most ≤ 30) : ∃ f D r ω', d_L_mix [.int most] ω = .ok f.enc ω' ∧ f.disc = D ∧ Rt2 D r ∧ NSq D ∧ 0 < D ∧ D ≤ (most + 1) * (most + 1) + 4 * (most * most) ∧ FB 15 f ∧ StOk ω' := by
  obtain ⟨a', w1, h1, a0, a1, s1⟩ := L_draw_ok h (m := most) (by omega) (by omega)
  obtain ⟨c', w2, h2, c0, c1, s2⟩ := L_draw_ok s1 (m := most) (by omega) (by omega)
  obtain ⟨b', w3, h3, b0, b1, s3⟩ := L_draw_ok s2 (m := 2 * most + 1) (by omega) (by omega)
  have zm : Szc most 6 := ⟨by omega⟩
  obtain ⟨a, ha⟩ : ∃ a, 1 + a' = a := ⟨_, rfl⟩
  obtain ⟨c, hc⟩ : ∃ c, -1 - c' = c := ⟨_, rfl⟩
  obtain ⟨b, hb⟩ : ∃ b, b' - most = b := ⟨_, rfl⟩
  have za : Szc a 6 := ⟨by omega⟩
  have zc : Szc c 6 := ⟨by omega⟩
  have ac : a * c = -(a * -c) := by grind
  have k1 : 1 ≤ a * -c := by have := Int.mul_le_mul (show 1 ≤ a by omega) (show 1 ≤ -c by omega) (by omega) (by omega); omega
  have k2 : a * -c ≤ most * most := Int.mul_le_mul (by omega) (by omega) (by omega) (by omega)
  have ed : ∀ x : Int, x * x - 4 * a * c = x * x + 4 * (a * -c) := fun x => by grind
  have tst : ∀ {x : Int}, -31 ≤ x → x ≤ 31 → d_L_is_square [.int (x * x - 4 * a * c)] = .ok (.bool (sqB (x * x + 4 * (a * -c)))) [] ∧ vMul (.int x) (.int x) = some (.int (x * x)) := by
    intro x x0 x1
    have zx : Szc x 6 := ⟨by omega⟩
    rw [ed]
    exact ⟨L_is_square_is (k := 20) (szcMono (inferInstance : Szc (x * x + 4 * (a * -c)) (max (6 + 6) (3 + (6 + 6)) + 1)) (by omega)) (by omega), vMul_le zx zx (by omega)⟩
  have v1 := vMul_le (show Szc 4 3 from ⟨by decide⟩) za (by omega)
  have v2 := vMul_le (inferInstance : Szc (4 * a) (3 + 6)) zc (by omega)
  have v3 := vMul_le (show Szc 2 2 from ⟨by decide⟩) zm (by omega)
  -- b behind the while
  obtain ⟨x, x0, x1, nx, hw⟩ : ∃ x : Int, -most ≤ x ∧ x ≤ most + 1 ∧ NSq (x * x + 4 * (a * -c)) ∧ sWhile (bTru (eCall d_L_is_square (aCons (eBin vSub (eBin vMul (eVar 4) (eVar 4)) (eBin vMul (eBin vMul (eC (.int 4)) (eVar 2)) (eVar 3))) aNil))) (sAsg (eBin vAdd (eVar 4) (eC (.int 1))) (gN 4)) [none, some (.int most), some (.int a), some (.int c), some (.int b), none, none] w3 = .ok (.next [none, some (.int most), some (.int a), some (.int c), some (.int x), none, none]) w3 := by
    obtain ⟨t1, t2⟩ := tst (x := b) (by omega) (by omega)
    cases hs : sqB (b * b + 4 * (a * -c)) with
    | false =>
      rw [hs] at t1
      refine ⟨b, by omega, by omega, sqB_false.1 hs, ?_⟩
      rw [sWhile_ap]
      simp [t1, t2, v1, v2]
    | true =>
      rw [hs] at t1
      have nn := no_two_sq k1 hs
      obtain ⟨t3, t4⟩ := tst (x := b + 1) (by omega) (by omega)
      rw [sqB_false.2 nn] at t3
      refine ⟨b + 1, by omega, by omega, nn, ?_⟩
      rw [sWhile_ap]
      simp [t1, t2, v1, v2]
      rw [sWhile_ap]
      simp [t3, t4, v1, v2]
  have xx : x * x ≤ (most + 1) * (most + 1) := by
    have h1 := Int.mul_nonneg (show 0 ≤ most + 1 - x by omega) (show 0 ≤ most + 1 + x by omega)
    have e : (most + 1 - x) * (most + 1 + x) = (most + 1) * (most + 1) - x * x := by grind
    omega
  have x0' : 0 ≤ x * x := by
    have := Int.mul_nonneg (show (0 : Int) ≤ x.natAbs by omega) (show (0 : Int) ≤ x.natAbs by omega)
    rw [Int.natAbs_mul_self'] at this
    exact this
  have dd : (Fm.mk a x c).disc = x * x + 4 * (a * -c) := ed x
  obtain ⟨r, hr⟩ := rt2_ex (n := x * x + 4 * (a * -c)) (by omega)
  obtain ⟨n', w4, h4, n0, n1, s4⟩ := L_draw_ok s3 (m := 4) (by omega) (by omega)
  obtain ⟨n, hn⟩ : ∃ n : Nat, n' = n := ⟨n'.toNat, by omega⟩
  have rg : iRange [.int n'] = some (rangeL 0 1 n) := by rw [hn]; exact range1N (by omega)
  have lp := for_S (g := gN 6) (db := sAsg (eCall d_L_turned (aCons (eVar 5) (aCons (eTup (aCons (eBin vSub (eCallS d_L_draw (aCons (eC (.int 5)) aNil)) (eC (.int 2))) (aCons (eUn vNeg (eC (.int 1))) (aCons (eC (.int 1)) (aCons (eC (.int 0)) aNil))))) aNil))) (gN 5))
    (MixP (x * x + 4 * (a * -c)) 15 a x c most) (by
      intro d ds ρ w ⟨sw, dl, f, o, fd, fb, e⟩
      rw [List.length_cons] at dl fb
      subst e
      obtain ⟨t', w', ht, t0, t1, sw'⟩ := L_draw_ok sw (m := 5) (by omega) (by omega)
      have mb := mt_shift (t := t' - 2) (by omega)
      have tu := L_turned_ok fb mb (by omega)
      have me : PyData.tuple [.int (t' - 2), .int (-1), .int 1, .int 0] = (Mt.mk (t' - 2) (-1) 1 0).enc := rfl
      refine ⟨_, rfl, ?_⟩
      simp [ht, me, tu]
      refine ⟨_, _, rfl, sw', by omega, f.turn ⟨t' - 2, -1, 1, 0⟩, some d, ?_, ?_, rfl⟩
      · rw [Fm.disc_turn, fd]; simp [Mt.det]
      · exact (fb.shift (by omega)).mono (by omega))
    (rangeL 0 1 n) [none, some (.int most), some (.int a), some (.int c), some (.int x), some (Fm.mk a x c).enc, none] w4
    ⟨s4, by rw [rangeL_len]; omega, ⟨a, x, c⟩, none, dd, ⟨⟨by rw [rangeL_len]; have : 2 ^ (15 - 3 * n) ≥ 2 ^ 6 := Nat.pow_le_pow_right (by omega) (by omega); show a.natAbs < _; omega⟩, ⟨by rw [rangeL_len]; have : 2 ^ (15 - 3 * n) ≥ 2 ^ 6 := Nat.pow_le_pow_right (by omega) (by omega); show x.natAbs < _; omega⟩, ⟨by rw [rangeL_len]; have : 2 ^ (15 - 3 * n) ≥ 2 ^ 6 := Nat.pow_le_pow_right (by omega) (by omega); show c.natAbs < _; omega⟩⟩, rfl⟩
  obtain ⟨ρ5, w5, e5, s5, _, f, o, fd, fb, e6⟩ := lp
  subst e6
  refine ⟨f, _, r, w5, ?_, fd, hr, nx, by omega, by omega, fb.mono (by omega), s5⟩
  have e3 : PyData.tuple [.int a, .int x, .int c] = (Fm.mk a x c).enc := rfl
  unfold d_L_mix
  simp [h1, h2, h3, v3, ha, hc, hb, hw, e3, h4, rg, e5]
structure Bt (B : Nat) (m : Mt) : Prop where
  p : m.p.natAbs ≤ B
  q : m.q.natAbs ≤ B
  r : m.r.natAbs ≤ B
  s : m.s.natAbs ≤ B
theorem Bt.step {B : Nat} {m : Mt} (h : Bt B m) {t : Int} (ht : t.natAbs ≤ 3) : Bt (4 * B) (m.mul ⟨t, -1, 1, 0⟩) := by
  have hp := h.p; have hq := h.q; have hr := h.r; have hs := h.s
  have k : ∀ {x : Int}, x.natAbs ≤ B → (x * t).natAbs ≤ B * 3 := fun {x} hx => by rw [Int.natAbs_mul]; exact Nat.mul_le_mul hx ht
  have k1 := k hp
  have k2 := k hr
  refine ⟨?_, ?_, ?_, ?_⟩ <;> simp only [Mt.mul]
  · show (m.p * t + m.q * 1).natAbs ≤ _; omega
  · show (m.p * -1 + m.q * 0).natAbs ≤ _; omega
  · show (m.r * t + m.s * 1).natAbs ≤ _; omega
  · show (m.r * -1 + m.s * 0).natAbs ≤ _; omega
theorem Bt.mb {B : Nat} {m : Mt} (h : Bt B m) {n : Nat} (hB : B < 2 ^ n) : MB4 n m := ⟨⟨Nat.lt_of_le_of_lt h.p hB⟩, ⟨Nat.lt_of_le_of_lt h.q hB⟩, ⟨Nat.lt_of_le_of_lt h.r hB⟩, ⟨Nat.lt_of_le_of_lt h.s hB⟩⟩
def TwP : List PyData → Ev → Wd → Prop := fun ds ρ w => StOk w ∧ ds.length ≤ 4 ∧ ∃ B m x1 x2 x3 x4 x5 x6, m.det = 1 ∧ B * 4 ^ ds.length ≤ 256 ∧ Bt B m ∧ ρ = [none, some (Mt.enc m), x1, x2, x3, x4, x5, x6]
theorem L_twist_bt {ω : Wd} (h : StOk ω) : ∃ m ω', d_L_twist [] ω = .ok (Mt.enc m) ω' ∧ m.det = 1 ∧ Bt 256 m ∧ StOk ω' := by
  obtain ⟨n', w1, h1, n0, n1, s1⟩ := L_draw_ok h (m := 5) (by omega) (by omega)
  obtain ⟨n, hn⟩ : ∃ n : Nat, n' = n := ⟨n'.toNat, by omega⟩
  have rg : iRange [.int n'] = some (rangeL 0 1 n) := by rw [hn]; exact range1N (by omega)
  have lp := for_S (g := gN 2) (db := sSeq (sAsg (eBin vSub (eCallS d_L_draw (aCons (eC (.int 7)) aNil)) (eC (.int 3))) (gN 3))
     (sSeq (sAsg (eVar 1) (gT (gsCons (gN 4) (gsCons (gN 5) (gsCons (gN 6) (gsCons (gN 7) gsNil))))))
     (sAsg (eTup (aCons (eBin vAdd (eBin vMul (eVar 4) (eVar 3)) (eVar 5)) (aCons (eBin vSub (eC (.int 0)) (eVar 4)) (aCons (eBin vAdd (eBin vMul (eVar 6) (eVar 3)) (eVar 7)) (aCons (eBin vSub (eC (.int 0)) (eVar 6)) aNil))))) (gN 1))))
    TwP (by
      intro d ds ρ w ⟨sw, dl, B, m, x1, x2, x3, x4, x5, x6, md, hB, bt, e⟩
      rw [List.length_cons] at dl hB
      subst e
      obtain ⟨t', w', ht, t0, t1, sw'⟩ := L_draw_ok sw (m := 7) (by omega) (by omega)
      obtain ⟨t, et⟩ : ∃ t, t' - 3 = t := ⟨_, rfl⟩
      have zt : Szc t 3 := ⟨by omega⟩
      have B1 : B ≤ 256 := by
        have := Nat.mul_le_mul_left B (Nat.one_le_pow (ds.length + 1) 4 (by omega))
        omega
      have mb := bt.mb (n := 17) (by omega)
      have v1 := vMul_le mb.p zt (by omega)
      have v2 := vMul_le mb.r zt (by omega)
      have me : PyData.tuple [.int (m.p * t + m.q), .int (-m.p), .int (m.r * t + m.s), .int (-m.r)] = (m.mul ⟨t, -1, 1, 0⟩).enc := by
        simp [Mt.enc, Mt.mul]
      refine ⟨_, rfl, ?_⟩
      simp [ht, et, v1, v2, me]
      refine ⟨_, _, rfl, sw', by omega, 4 * B, m.mul ⟨t, -1, 1, 0⟩, _, _, _, _, _, _, ?_, ?_, bt.step (by omega), rfl⟩
      · rw [Mt.det_mul, md]; simp [Mt.det]
      · rw [Nat.pow_succ] at hB
        have : 4 * B * 4 ^ ds.length = B * (4 ^ ds.length * 4) := by grind
        omega)
    (rangeL 0 1 n) [none, some Mt.one.enc, none, none, none, none, none, none] w1
    ⟨s1, by rw [rangeL_len]; omega, 1, Mt.one, none, none, none, none, none, none, rfl, by
      rw [rangeL_len]
      rcases (show n = 0 ∨ n = 1 ∨ n = 2 ∨ n = 3 ∨ n = 4 by omega) with z | z | z | z | z <;> subst z <;> decide, ⟨by decide, by decide, by decide, by decide⟩, rfl⟩
  obtain ⟨ρ5, w5, e5, s5, _, B, m, x1, x2, x3, x4, x5, x6, md, hB, bt, e6⟩ := lp
  subst e6
  have hB : B * 1 ≤ 256 := hB
  refine ⟨m, w5, ?_, md, ⟨by have := bt.p; omega, by have := bt.q; omega, by have := bt.r; omega, by have := bt.s; omega⟩, s5⟩
  have e1 : PyData.tuple [.int 1, .int 0, .int 0, .int 1] = Mt.one.enc := rfl
  unfold d_L_twist
  simp [e1, h1, rg, e5]
theorem L_twist_ok {ω : Wd} (h : StOk ω) : ∃ m ω', d_L_twist [] ω = .ok (Mt.enc m) ω' ∧ m.det = 1 ∧ MB4 17 m ∧ StOk ω' := by
  obtain ⟨m, w, e, d, b, s⟩ := L_twist_bt h
  exact ⟨m, w, e, d, b.mb (by omega), s⟩
end M

set_option Elab.async false
set_option linter.all false
set_option maxRecDepth 100000
set_option maxHeartbeats 4000000
namespace M
open PySem PySem.Spec PyProof.Rows L2
theorem isred_ok (f : Fm) : d_is_reduced_positive [f.enc] = .ok (.bool f.isRed) [] := by
  unfold d_is_reduced_positive
  by_cases h1 : -f.a < f.b
  · by_cases h2 : f.b ≤ f.a
    · by_cases h3 : f.a ≤ f.c
      · by_cases h4 : f.a = f.c
        · simp [Fm.enc, Fm.isRed, h1, h2, h3, h4]
          rw [h4] at h1 h2
          simp [h1, h2]
        · simp [Fm.enc, Fm.isRed, h1, h2, h3, h4]
      · simp [Fm.enc, Fm.isRed, h1, h2, h3]
    · simp [Fm.enc, Fm.isRed, h1, h2]
  · simp [Fm.enc, Fm.isRed, h1]
theorem shift_ok (t : Int) : d_shift [.int t] = .ok (Mt.enc ⟨1, t, 0, 1⟩) [] := by
  unfold d_shift
  simp [enc4]
theorem step_count {d : Int} {f : Fm} (h : Nm d f) : vMul (.int 2) (.int f.a) = some (.int (2 * f.a)) ∧ vFdiv (.int (f.b + f.a - 1)) (.int (2 * f.a)) = some (.int ((f.b + f.a - 1) / (2 * f.a))) := by
  have := h.a0; have := h.a1
  exact ⟨mulSm (by omega) (by omega), divSm (by omega) (by omega)⟩
def rpP (d : Int) (f : Fm) (n : Nat) (ρ : Ev) : Prop := ∃ (g : Fm) (T : Mt) (j2 j3 j4 j5 j6 : Option D), ρ = [some g.enc, some T.enc, j2, j3, j4, j5, j6] ∧ Nm d g ∧ f.turn T = g ∧ T.det = 1 ∧ muF g = n
def rpQ (d : Int) (f : Fm) (ρ : Ev) : Prop := ∃ (g : Fm) (T : Mt) (j2 j3 j4 j5 j6 : Option D), ρ = [some g.enc, some T.enc, j2, j3, j4, j5, j6] ∧ Nm d g ∧ f.turn T = g ∧ T.det = 1 ∧ g.isRed = true
theorem red_pos_ok {d : Int} {f : Fm} (h : Nm d f) : ∃ m : Mt, d_reduced_positive [f.enc] = .ok (.tuple [(f.turn m).enc, m.enc]) [] ∧ m.det = 1 ∧ (f.turn m).Red ∧ Nm d (f.turn m) ∧ MB4 250 m := by
  unfold d_reduced_positive
  have hd := disc_ok6 h.fb (by omega)
  have hn : ¬ 0 ≤ f.disc := by have := h.dn; omega
  have ha : ¬ f.a ≤ 0 := by have := h.a0; omega
  simp [hd, hn, ha]
  generalize hW : sWhile _ _ _ _ = W
  have : WEnd (rpQ d f) [] W := by
    rw [← hW, show PyData.tuple [.int 1, .int 0, .int 0, .int 1] = Mt.one.enc from rfl]
    refine while_P (rpP d f) _ ?_ (muF f) _ ⟨f, Mt.one, none, none, none, none, none, rfl, h, Fm.turn_one f, rfl, rfl⟩
    rintro n ρ ⟨g, T, j2, j3, j4, j5, j6, rfl, p1, p2, p3, rfl⟩
    by_cases c : g.isRed = true
    · exact .inl ⟨by simp [isred_ok, c], g, T, j2, j3, j4, j5, j6, rfl, p1, p2, p3, c⟩
    right
    have c : g.isRed = false := by simpa using c
    refine ⟨by simp [isred_ok, c], ?_⟩
    have hT := h.tw (m := T) (by rw [p2]; exact p1)
    obtain ⟨c1, c2⟩ := step_count p1
    have hsh := mb_shift p1.sh (by omega)
    have t1 := turned_ok p1.fb hsh (by omega)
    have a1 := after_ok hT hsh (by omega)
    have en : g.turn ⟨1, g.sh, 0, 1⟩ = g.n1 := rfl
    rw [en] at t1
    have t2 := turned_ok p1.n1.fb mb_tn (by omega)
    have hT2 := MB4.mul hT hsh
    have a2 := after_ok hT2 mb_tn (by omega)
    have esh : -((g.b + g.a - 1) / (2 * g.a)) = g.sh := rfl
    rw [show Mt.tn.enc = .tuple [.int 0, .int (-1), .int 1, .int 0] from rfl] at a2 t2
    obtain ⟨s1, s2⟩ := stepF_turn (f := f) (x := (g, T)) p2 p3
    obtain ⟨m1, m2, m3⟩ := stepF_mu (x := (g, T)) p1.a0 p1.dn c
    by_cases hs : g.n1.sw = true
    · have hN := p1.next hs
      have es : stepF (g, T) = (g.next, (T.mul ⟨1, g.sh, 0, 1⟩).mul Mt.tn) := by simp [stepF, hs, Fm.next]
      rw [es] at s1 s2 m3
      have hs' := hs
      unfold Fm.sw at hs'
      by_cases z : g.n1.c < g.n1.a
      · simp [c1, c2, esh, shift_ok, a1, t1, a2, t2, z]
        exact .next m3 ⟨g.next, (T.mul ⟨1, g.sh, 0, 1⟩).mul Mt.tn, _, _, _, _, _, rfl, hN, s1, s2, rfl⟩
      · simp only [z, decide_false, Bool.false_or, Bool.and_eq_true, decide_eq_true_eq] at hs'
        simp [c1, c2, esh, shift_ok, a1, t1, a2, t2, z, hs'.1, hs'.2]
        exact .next m3 ⟨g.next, (T.mul ⟨1, g.sh, 0, 1⟩).mul Mt.tn, _, _, _, _, _, rfl, hN, s1, s2, rfl⟩
    · have hs : g.n1.sw = false := by simpa using hs
      have es : stepF (g, T) = (g.n1, T.mul ⟨1, g.sh, 0, 1⟩) := by simp [stepF, hs]
      rw [es] at s1 s2 m3
      unfold Fm.sw at hs
      simp only [Bool.or_eq_false_iff, decide_eq_false_iff_not] at hs
      by_cases z : g.n1.a = g.n1.c
      · have z2 : ¬ g.n1.b < 0 := by have := hs.2; simp [z] at this; omega
        simp [c1, c2, esh, shift_ok, a1, t1, hs.1, z, z2]
        exact .next m3 ⟨g.n1, T.mul ⟨1, g.sh, 0, 1⟩, _, _, _, _, _, rfl, p1.n1, s1, s2, rfl⟩
      · simp [c1, c2, esh, shift_ok, a1, t1, hs.1, z]
        exact .next m3 ⟨g.n1, T.mul ⟨1, g.sh, 0, 1⟩, _, _, _, _, _, rfl, p1.n1, s1, s2, rfl⟩
  obtain ⟨_, rfl, g, T, j2, j3, j4, j5, j6, rfl, p1, p2, p3, p4⟩ := this
  refine ⟨T, by simp [p2], p3, ?_, by rw [p2]; exact p1, h.tw (by rw [p2]; exact p1)⟩
  rw [p2]
  exact (Fm.isRed_iff g).1 p4
theorem sz10 {x : Int} (h : -1000 ≤ x ∧ x ≤ 1000) : Szc x 10 := sz_of (by omega) (by omega)
def bn : Nat → Int
  | 0 => 13720
  | 1 => 1960
  | 2 => 280
  | _ => 40
theorem bn_step {n : Nat} (h : n + 1 ≤ 3) : bn n = 7 * bn (n + 1) := by
  match n, h with
  | 0, _ => rfl
  | 1, _ => rfl
  | 2, _ => rfl
structure Bn (M : Int) (f : Fm) : Prop where
  a : -M ≤ f.a ∧ f.a ≤ M
  b : -M ≤ f.b ∧ f.b ≤ M
  c : -M ≤ f.c ∧ f.c ≤ M
theorem Bn.turn {M : Int} {f : Fm} (h : Bn M f) {t : Int} (ht : -2 ≤ t ∧ t ≤ 2) : Bn (7 * M) (f.turn ⟨t, -1, 1, 0⟩) := by
  have ⟨ha, hb, hc⟩ := h
  have e : f.turn ⟨t, -1, 1, 0⟩ = ⟨f.a * t * t + f.b * t + f.c, -2 * f.a * t - f.b, f.a⟩ := by ext <;> simp only [Fm.turn, Fm.at] <;> grind
  rw [e]
  rcases (show t = -2 ∨ t = -1 ∨ t = 0 ∨ t = 1 ∨ t = 2 by omega) with rfl | rfl | rfl | rfl | rfl <;> exact ⟨by simp only; omega, by simp only; omega, by simp only; omega⟩
theorem Bn.fb {M : Int} {f : Fm} (h : Bn M f) (hM : M ≤ 13720) : FB 14 f := by
  obtain ⟨ha, hb, hc⟩ := h
  exact ⟨sz_of (by omega) (by omega), sz_of (by omega) (by omega), sz_of (by omega) (by omega)⟩
theorem bn_le (n : Nat) : 40 ≤ bn n ∧ bn n ≤ 13720 := by
  match n with
  | 0 => decide
  | 1 => decide
  | 2 => decide
  | _ + 3 => simp [bn]
def poP (m a c : Int) (n : Nat) (ρ : Ev) : Prop := ∃ b : Int, ρ = [none, some (.int m), some (.int a), some (.int c), some (.int b), none, none] ∧ -m ≤ b ∧ b ≤ m ∧ b.natAbs = n
def poQ (m a c : Int) (ρ : Ev) : Prop := ∃ b : Int, ρ = [none, some (.int m), some (.int a), some (.int c), some (.int b), none, none] ∧ -m ≤ b ∧ b ≤ m ∧ b * b < 4 * a * c
def pfP (d : Int) (ds : List D) (ρ : Ev) (w : Wd) : Prop := ∃ (f : Fm) (j1 j2 j3 j4 j6 : Option D), ρ = [none, j1, j2, j3, j4, some f.enc, j6] ∧ StOk w ∧ 0 < f.a ∧ f.disc = d ∧ Bn (bn ds.length) f ∧ ds.length ≤ 3
theorem pos_at {f : Fm} (ha : 0 < f.a) (hd : f.disc < 0) {x y : Int} (h : x ≠ 0 ∨ y ≠ 0) : 0 < f.at x y := by
  have e1 : 4 * f.a * f.at x y = (2 * f.a * x + f.b * y) * (2 * f.a * x + f.b * y) - f.disc * (y * y) := by simp only [Fm.at, Fm.disc]; grind
  have key : 0 < 4 * f.a * f.at x y := by
    by_cases hy : y = 0
    · subst hy
      have e2 : 4 * f.a * f.at x 0 = 4 * (f.a * f.a) * (x * x) := by simp only [Fm.at]; grind
      rw [e2]
      have hx : x ≠ 0 := h.resolve_right (by simp)
      have h1 : 0 < x * x := by have := sq_nonneg' x; have : x * x ≠ 0 := Int.mul_ne_zero hx hx; omega
      have h2 := Int.mul_pos ha ha
      exact Int.mul_pos (by omega) h1
    · have h1 : 0 < y * y := by have := sq_nonneg' y; have : y * y ≠ 0 := Int.mul_ne_zero hy hy; omega
      have h2 := Int.mul_pos (show 0 < -f.disc by omega) h1
      have h3 := sq_nonneg' (2 * f.a * x + f.b * y)
      have h4 : -f.disc * (y * y) = -(f.disc * (y * y)) := Int.neg_mul _ _
      omega
  rcases (show 0 < f.at x y ∨ f.at x y ≤ 0 by omega) with z | z
  · exact z
  · have := Int.mul_nonneg (show 0 ≤ 4 * f.a by omega) (show 0 ≤ -f.at x y by omega)
    have e : 4 * f.a * -f.at x y = -(4 * f.a * f.at x y) := Int.mul_neg _ _
    omega
theorem turn_pos {f : Fm} (ha : 0 < f.a) (hd : f.disc < 0) {m : Mt} (hm : m.det = 1) : 0 < (f.turn m).a ∧ (f.turn m).disc = f.disc := by
  refine ⟨pos_at ha hd ?_, by rw [Fm.disc_turn, hm]; omega⟩
  by_cases z : m.p = 0
  · by_cases z2 : m.r = 0
    · unfold Mt.det at hm; rw [z, z2] at hm; omega
    · exact .inr z2
  · exact .inl z
theorem L_pos_ok {ω : Wd} (h : StOk ω) {m : Int} (hm : 0 < m) (hm2 : m ≤ 40) : ∃ (f : Fm) (ω' : Wd), d_L_pos [.int m] ω = .ok f.enc ω' ∧ StOk ω' ∧ 0 < f.a ∧ f.disc < 0 ∧ -6400 ≤ f.disc ∧ Bn 13720 f := by
  obtain ⟨r1, w1, e1, a1, b1, s1⟩ := L_draw_ok h (m := m) (by omega) (by omega)
  obtain ⟨r2, w2, e2, a2, b2, s2⟩ := L_draw_ok s1 (m := m) (by omega) (by omega)
  obtain ⟨r3, w3, e3, a3, b3, s3⟩ := L_draw_ok s2 (m := 2 * m + 1) (by omega) (by omega)
  have sm := sz10 (x := m) (by omega)
  unfold d_L_pos
  simp [e1, e2, e3]
  generalize ha : 1 + r1 = a at *
  generalize hc : 1 + r2 = c at *
  have sa := sz10 (x := a) (by omega)
  have sc := sz10 (x := c) (by omega)
  generalize hW : sWhile _ _ _ _ = W
  have : WEnd (poQ m a c) w3 W := by
    rw [← hW]
    clear hW
    refine while_P (poP m a c) _ ?_ (r3 - m).natAbs _ ⟨r3 - m, rfl, by omega, by omega, rfl⟩
    rintro n ρ ⟨b, rfl, h1, h2, rfl⟩
    have sb := sz10 (x := b) (by omega)
    by_cases z : 4 * a * c ≤ b * b
    · right
      refine ⟨by simp [z], ?_⟩
      have ac : 4 ≤ 4 * a * c := by have := Int.mul_le_mul (show 1 ≤ a by omega) (show 1 ≤ c by omega) (by omega) (by omega); have : 4 * a * c = 4 * (a * c) := by grind
                                    omega
      have hb : b ≤ -2 ∨ 2 ≤ b := by
        rcases (show b = -1 ∨ b = 0 ∨ b = 1 ∨ b ≤ -2 ∨ 2 ≤ b by omega) with z | z | z | z | z
        · rw [z] at ‹4 * a * c ≤ b * b›; omega
        · rw [z] at ‹4 * a * c ≤ b * b›; omega
        · rw [z] at ‹4 * a * c ≤ b * b›; omega
        · exact .inl z
        · exact .inr z
      have q := divSm (a := b) (b := 2) (by omega) (by omega)
      by_cases y : b < 0
      · simp [q, y]
        exact .next (m := (b / 2 + 1).natAbs) (by omega) ⟨b / 2 + 1, rfl, by omega, by omega, rfl⟩
      · simp [q, y]
        exact .next (m := (b / 2).natAbs) (by omega) ⟨b / 2, rfl, by omega, by omega, rfl⟩
    · left
      exact ⟨by simp [z], b, rfl, h1, h2, by omega⟩
  obtain ⟨_, rfl, b, rfl, h1, h2, h3⟩ := this
  obtain ⟨r4, w4, e4, a4, b4, s4⟩ := L_draw_ok s3 (m := 4) (by omega) (by omega)
  have hr := range1 (j := r4) (by omega)
  simp [e4, hr, enc3]
  generalize hW : sFor.go _ _ _ _ _ = W
  have hd0 : (Fm.mk a b c).disc = b * b - 4 * a * c := rfl
  have hbb := sq_nonneg' b
  have hac := Int.mul_le_mul (show a ≤ 40 by omega) (show c ≤ 40 by omega) (by omega) (by omega)
  have hac2 : 4 * a * c = 4 * (a * c) := by grind
  have hdd : (b * b - 4 * a * c) < 0 ∧ -6400 ≤ (b * b - 4 * a * c) := by omega
  generalize b * b - 4 * a * c = d at *
  have : SStep (pfP d []) W := by
    rw [← hW]
    clear hW
    refine for_S (pfP d) ?_ _ _ _ ⟨⟨a, b, c⟩, _, _, _, _, _, rfl, s4, by simp only; omega, hd0, ?_, by rw [rangeL_len]; omega⟩
    · rintro x ds ρ w ⟨f, j1, j2, j3, j4, j6, rfl, hs, f0, fd, fb, hl⟩
      refine ⟨_, rfl, ?_⟩
      simp only [List.length_cons] at hl fb
      obtain ⟨c, w2, e2, a2, b2, s2⟩ := L_draw_ok hs (m := 5) (by omega) (by omega)
      have ht : MB4 2 ⟨c - 2, -1, 1, 0⟩ := ⟨sz_of (by simp only; omega) (by simp only; omega), ⟨by simp⟩, ⟨by simp⟩, ⟨by simp⟩⟩
      have t := L_turned_ok (fb.fb (bn_le _).2) ht (by omega)
      rw [show (Mt.mk (c - 2) (-1) 1 0).enc = .tuple [.int (c - 2), .int (-1), .int 1, .int 0] from rfl] at t
      have tb := fb.turn (t := c - 2) (by omega)
      rw [← bn_step hl] at tb
      obtain ⟨p1, p2⟩ := turn_pos f0 (by rw [fd]; omega) (m := ⟨c - 2, -1, 1, 0⟩) (by simp [Mt.det])
      simp [e2, t]
      exact .next ⟨_, _, _, _, _, _, rfl, s2, p1, by rw [p2, fd], tb, by omega⟩
    · have := bn_le (rangeL 0 1 r4.toNat).length
      exact ⟨by simp only; omega, by simp only; omega, by simp only; omega⟩
  obtain ⟨_, w', rfl, f, j1, j2, j3, j4, j6, rfl, hs, f0, fd, fb, _⟩ := this
  exact ⟨f, w', by simp, hs, f0, by omega, by omega, fb⟩
theorem red_same {f : Fm} {m n : Mt} (hm : m.det = 1) (hn : n.det = 1) (h1 : (f.turn m).Red) (h2 : (f.turn n).Red) : f.turn m = f.turn n := by
  have e : f.turn n = (f.turn m).turn (m.inv.mul n) := by
    rw [← Fm.turn_mul, Fm.turn_back f hm]
  rw [e] at h2 ⊢
  exact (h1.uniq h2 (by rw [Mt.det_mul, Mt.det_inv, hm, hn]; rfl)).symm
theorem Bn.nm {f : Fm} (h : Bn 13720 f) (h0 : 0 < f.a) (h1 : f.disc < 0) (h2 : -6400 ≤ f.disc) : Nm f.disc f := by
  obtain ⟨ha, hb, hc⟩ := h
  exact ⟨h0, rfl, by omega, by omega, by omega, h1, by omega⟩
theorem szc_lt {x : Int} {n : Nat} (h : Szc x n) : -(2 ^ n : Nat) < x ∧ x < (2 ^ n : Nat) := by
  have := h.h
  omega
theorem made_nm {f : Fm} {m : Mt} (h0 : 0 < f.a) (h1 : f.disc < 0) (h2 : -6400 ≤ f.disc) (hf : FB 20 f) (hm : m.det = 1) (hb : MB4 13 m) : Nm f.disc (f.turn m) := by
  obtain ⟨p1, p2⟩ := turn_pos h0 h1 hm
  have fb := hf.turn hb
  have := szc_lt fb.a
  have := szc_lt fb.b
  exact ⟨p1, p2, by omega, by omega, by omega, h1, by omega⟩
/-- a small reduced form -/
theorem red_fb {f : Fm} (hr : f.Red) (h2 : -6400 ≤ f.disc) : FB 20 f := by
  have := hr.b1; have := hr.b2; have := hr.ac; have := hr.pos
  unfold Fm.disc at h2
  have h3 := Int.mul_le_mul_of_nonneg_left hr.ac (show 0 ≤ f.a by omega)
  have e := prod_abs f.b f.b
  have h4 : (f.b.natAbs : Int) ≤ f.a := by omega
  have h5 := Int.mul_le_mul h4 h4 (by omega) (by omega)
  have e2 : 4 * f.a * f.c = 4 * (f.a * f.c) := by grind
  have h6 := Int.mul_le_mul_of_nonneg_right (show 1 ≤ f.a by omega) (show 0 ≤ f.c by omega)
  have hc : f.c ≤ 6400 := by omega
  exact ⟨sz_of (by omega) (by omega), sz_of (by omega) (by omega), sz_of (by omega) (by omega)⟩
end M

set_option Elab.async false
set_option linter.all false
set_option maxRecDepth 100000
set_option maxHeartbeats 4000000
namespace M
open PySem PySem.Spec PyProof.Rows L2
/-! ### common divisors, truths -/
theorem gabs_if (a : Int) : (if a < 0 then -a else a) = (a.natAbs : Int) := by omega
theorem gcd_loop {t : Ev → MM Bool} {db : Ev → MM Fl} (ht : ∀ a b : Int, 0 ≤ b → t [some (.int a), some (.int b)] [] = .ok (!decide (b = 0)) [])
    (hb : ∀ a b : Int, 0 < b → db [some (.int a), some (.int b)] [] = .ok (.next [some (.int b), some (.int (a % b))]) []) (a b : Int) (ha0 : 0 ≤ a) (hb0 : 0 ≤ b) :
    ∃ z, sWhile t db [some (.int a), some (.int b)] [] = .ok (.next [some (.int (Int.gcd a b)), z]) [] := by
  obtain ⟨⟨c, d⟩, ⟨p1, p2, p3⟩, pc, pw⟩ := while_by (w := []) (t := t) (db := db) (fun x : Int × Int => [some (.int x.1), some (.int x.2)]) (fun x => 0 ≤ x.1 ∧ 0 ≤ x.2 ∧ Int.gcd x.1 x.2 = Int.gcd a b) (fun x => !decide (x.2 = 0)) (fun x => (x.2, x.1 % x.2)) (fun x => x.2.toNat)
    (fun x p => ht _ _ p.2.1)
    (fun x p c => by
      obtain ⟨u, v⟩ := x
      simp only [Bool.not_eq_true', decide_eq_false_iff_not] at c p ⊢
      have hv : 0 < v := by omega
      have m1 := Int.emod_nonneg u (show v ≠ 0 by omega)
      have m2 := Int.emod_lt_of_pos u hv
      refine ⟨hb u v hv, ⟨by omega, m1, ?_⟩, by omega⟩
      rw [← p.2.2, Int.gcd_comm u v]
      have e : u % v = u - u / v * v := by rw [Int.emod_def, Int.mul_comm]
      rw [e, Int.gcd_comm v, Int.gcd_sub_mul_right_left, Int.gcd_comm])
    (a, b) ⟨ha0, hb0, rfl⟩
  have e : d = 0 := by simpa using pc
  subst e
  have e : c = (Int.gcd a b : Int) := by rw [← p3]; simp only [Int.gcd_zero_right]; omega
  simp only at pw
  rw [e] at pw
  exact ⟨_, pw⟩
theorem common_divisor_ok (a b : Int) : d_common_divisor [.int a, .int b] = .ok (.int (Int.gcd a b)) [] := by
  unfold d_common_divisor
  obtain ⟨z, h⟩ := gcd_loop (t := bBin vNe (eVar 1) (eC (.int 0))) (db := sPar 0 1 (eVar 1) (eBin vMod (eVar 0) (eVar 1))) (fun a b _ => by simp) (fun a b h => by simp [modP h]) (a.natAbs : Int) (b.natAbs : Int) (by omega) (by omega)
  simp [gabs_if, h, Int.gcd]
theorem L_common_ok (a b : Int) : d_L_common [.int a, .int b] = .ok (.int (Int.gcd a b)) [] := by
  unfold d_L_common
  obtain ⟨z, h⟩ := gcd_loop (t := bBin vNe (eVar 1) (eC (.int 0))) (db := sPar 0 1 (eVar 1) (eBin vMod (eArgs fInt (aCons (eVar 0) aNil)) (eVar 1))) (fun a b _ => by simp) (fun a b h => by simp [modP h]) (a.natAbs : Int) (b.natAbs : Int) (by omega) (by omega)
  simp [gabs_if, h, Int.gcd]
theorem L_truth_t (b : Bool) : d_L_truth [.bool b, .bool b] = .ok (.bool true) [] := by
  unfold d_L_truth
  cases b <;> simp
def Fm.cont (f : Fm) : Int := (Int.gcd (Int.gcd f.a f.b) f.c : Int)
theorem divisor_of_form_ok (f : Fm) : d_divisor_of_all [f.enc] = .ok (.int f.cont) [] := by
  have e : f.enc = .tuple [.int f.a, .int f.b, .int f.c] := rfl
  rw [e]
  unfold d_divisor_of_all
  simp [go_cons, common_divisor_ok, Fm.cont]
  simp [Int.gcd]
theorem content_ok (f : Fm) : d_content_of [f.enc] = .ok (.int f.cont) [] := by
  unfold d_content_of
  simp [divisor_of_form_ok]
end M

set_option Elab.async false
set_option linter.all false
set_option maxRecDepth 100000
set_option maxHeartbeats 4000000
namespace M
open PySem PySem.Spec PyProof.Rows L2
/-! ### dicts, by simp -/
def kDc (g : D → Ev → Option Ev) (t : Ev → MM Bool) (dk dv : Ev → MM D) (ρ0 : Ev) : Res (List D) → Res (List (D × D))
  | .ok xs w => dcGo g t dk dv ρ0 xs [] w
  | .exc e w => .exc e w
  | .bad => .bad
@[simp] theorem kDc_ok (g : D → Ev → Option Ev) (t : Ev → MM Bool) (dk dv : Ev → MM D) (ρ0 : Ev) (xs : List D) (w : Wd) : kDc g t dk dv ρ0 (.ok xs w) = dcGo g t dk dv ρ0 xs [] w := (rfl)
@[simp] theorem dcD_ap (di : Ev → MM (List D)) (g : D → Ev → Option Ev) (t : Ev → MM Bool) (dk dv : Ev → MM D) (vs : List Nat) (ρ : Ev) (ω : Wd) : dcD di g t dk dv vs ρ ω = kDc g t dk dv (wipeD ρ vs) (di ρ ω) := by unfold dcD; cases di ρ ω <;> rfl
def kDicC (i : Nat) (ρ : Ev) : Res (List (D × D)) → Res Fl
  | .ok es w => .ok (.next (put ρ i (.dict es))) w
  | .exc e w => .exc e w
  | .bad => .bad
@[simp] theorem kDicC_ok (i : Nat) (ρ : Ev) (es : List (D × D)) (w : Wd) : kDicC i ρ (.ok es w) = .ok (.next (put ρ i (.dict es))) w := (rfl)
@[simp] theorem sDicC_s (i : Nat) (d : Ev → MM (List (D × D))) (ρ : Ev) (ω : Wd) : sDicC i d ρ ω = kDicC i ρ (d ρ ω) := by unfold sDicC; cases d ρ ω <;> rfl
@[simp] theorem sDic0_s (i : Nat) (ρ : Ev) (ω : Wd) : sDic0 i ρ ω = .ok (.next (put ρ i (.dict []))) ω := (rfl)
def kDicG : Option D → Res D → Res D
  | some (.dict es), .ok k w => ofO ((keyOf k).bind (dGetD es)) w
  | some (.dict _), .exc e w => .exc e w
  | _, _ => .bad
@[simp] theorem kDicG_ok (es : List (D × D)) (k : D) (w : Wd) : kDicG (some (.dict es)) (.ok k w) = ofO ((keyOf k).bind (dGetD es)) w := (rfl)
@[simp] theorem eDicG_s (i : Nat) (dk : Ev → MM D) (ρ : Ev) (ω : Wd) : eDicG i dk ρ ω = kDicG (look ρ i) (dk ρ ω) := by
  unfold eDicG
  cases look ρ i with
  | none => rfl
  | some v => cases v with
    | dict es => cases dk ρ ω <;> rfl
    | _ => rfl
def kDicS3 (i : Nat) (ρ : Ev) (v : D) (es : List (D × D)) (w : Wd) : Option (List Int) → Res Fl
  | some kk => if es.length < sizeLine then .ok (.next (put ρ i (.dict (dPutD es kk v)))) w else .bad
  | none => .bad
@[simp] theorem kDicS3_some (i : Nat) (ρ : Ev) (v : D) (es : List (D × D)) (w : Wd) (kk : List Int) : kDicS3 i ρ v es w (some kk) = if es.length < sizeLine then .ok (.next (put ρ i (.dict (dPutD es kk v)))) w else .bad := (rfl)
def kDicS2 (i : Nat) (ρ : Ev) (v : D) : Option D → Res D → Res Fl
  | some (.dict es), .ok k w => kDicS3 i ρ v es w (keyOf k)
  | some (.dict _), .exc e w => .exc e w
  | _, _ => .bad
@[simp] theorem kDicS2_ok (i : Nat) (ρ : Ev) (v : D) (es : List (D × D)) (k : D) (w : Wd) : kDicS2 i ρ v (some (.dict es)) (.ok k w) = kDicS3 i ρ v es w (keyOf k) := (rfl)
def kDicS (i : Nat) (dk : Ev → MM D) (ρ : Ev) : Res D → Res Fl
  | .ok v w => kDicS2 i ρ v (look ρ i) (dk ρ w)
  | .exc e w => .exc e w
  | .bad => .bad
@[simp] theorem kDicS_ok (i : Nat) (dk : Ev → MM D) (ρ : Ev) (v : D) (w : Wd) : kDicS i dk ρ (.ok v w) = kDicS2 i ρ v (look ρ i) (dk ρ w) := (rfl)
@[simp] theorem sDicS_s (i : Nat) (dv dk : Ev → MM D) (ρ : Ev) (ω : Wd) : sDicS i dv dk ρ ω = kDicS i dk ρ (dv ρ ω) := by
  unfold sDicS
  cases dv ρ ω with
  | ok v w =>
    simp only [bind_ok, kDicS_ok]
    cases look ρ i with
    | none => rfl
    | some u => cases u with
      | dict es =>
        cases dk ρ w with
        | ok k w2 =>
          simp only [bind_ok, kDicS2_ok]
          cases keyOf k <;> rfl
        | _ => rfl
      | _ => rfl
  | _ => rfl
def kDicL (w : Wd) : Option D → Res (List D)
  | some (.dict es) => .ok (es.map (·.1)) w
  | _ => .bad
@[simp] theorem kDicL_some (w : Wd) (es : List (D × D)) : kDicL w (some (.dict es)) = .ok (es.map (·.1)) w := (rfl)
@[simp] theorem fDicL_s (i : Nat) (ρ : Ev) (ω : Wd) : fDicL i ρ ω = kDicL ω (look ρ i) := by
  unfold fDicL
  cases look ρ i with
  | none => rfl
  | some v => cases v <;> rfl
@[simp] theorem keyOf_fm (f : Fm) : keyOf f.enc = some [f.a, f.b, f.c] := keyOf_ints [f.a, f.b, f.c]
/-- a dict of forms with marks -/
def dicE (E : List Fm) (mk : Fm → Bool) : List (D × D) := E.map fun f => (f.enc, .bool (mk f))
theorem key3 (f g : Fm) : decide (keyOf g.enc = some [f.a, f.b, f.c]) = decide (g = f) := by
  rw [keyOf_fm]
  congr 1
  simp [Fm.ext_iff]
theorem dicE_find (f : Fm) (mk : Fm → Bool) : ∀ {E : List Fm}, (f ∈ E → dGetD (dicE E mk) [f.a, f.b, f.c] = some (.bool (mk f))) ∧ (f ∉ E → dGetD (dicE E mk) [f.a, f.b, f.c] = none)
  | [] => ⟨(fun h => nomatch h), fun _ => rfl⟩
  | g :: E => by
    obtain ⟨h1, h2⟩ := dicE_find f mk (E := E)
    unfold dGetD dicE at h1 h2 ⊢
    simp only [List.map_cons, List.find?_cons, key3]
    by_cases c : g = f
    · subst c
      simp
    · have c' : ¬ f = g := fun e => c e.symm
      simp only [c, decide_false, List.mem_cons, c', false_or]
      exact ⟨h1, h2⟩
theorem dicE_get {f : Fm} {mk : Fm → Bool} {E : List Fm} (h : f ∈ E) : dGetD (dicE E mk) [f.a, f.b, f.c] = some (.bool (mk f)) := (dicE_find f mk).1 h
theorem dicE_put {f : Fm} {mk : Fm → Bool} {E : List Fm} (b : Bool) (h : f ∈ E) : dPutD (dicE E mk) [f.a, f.b, f.c] (.bool b) = dicE E (fun g => if g = f then b else mk g) := by
  unfold dPutD
  rw [dicE_get h]
  simp only [Option.isSome_some, if_true]
  unfold dicE
  rw [List.map_map]
  refine List.map_congr_left fun g _ => ?_
  simp only [Function.comp]
  have k := key3 f g
  by_cases c : g = f
  · subst c
    simp
  · have : ¬ keyOf g.enc = some [f.a, f.b, f.c] := fun e => by
      rw [e] at k
      simp [c] at k
    rw [if_neg this, if_neg c]
theorem dicE_new {f : Fm} {mk : Fm → Bool} {E : List Fm} (h : f ∉ E) (hm : ∀ g, mk g = true) : dPutD (dicE E mk) [f.a, f.b, f.c] (.bool true) = dicE (E ++ [f]) mk := by
  unfold dPutD
  rw [(dicE_find f mk).2 h]
  simp [dicE, hm, Fm.enc]
theorem dcGo_fms {i : Nat} {ρ0 : Ev} {w : Wd} (hi : ∀ d : D, look (put ρ0 i d) i = some d) : ∀ (suf pre : List Fm), (pre ++ suf).Nodup → (pre ++ suf).length ≤ 10000000 →
    dcGo (gN i) bYes (eVar i) (eC (.bool true)) ρ0 (suf.map Fm.enc) (dicE pre fun _ => true) w = .ok (dicE (pre ++ suf) fun _ => true) w
  | [], pre, _, _ => by rw [List.append_nil]; rfl
  | f :: suf, pre, nd, hl => by
    have fn : f ∉ pre := fun h => by
      have := (List.nodup_append.1 nd).2.2 f h f (by simp)
      exact this rfl
    have e : pre ++ f :: suf = (pre ++ [f]) ++ suf := by simp
    have hz : (dicE pre fun _ => true).length < sizeLine := by
      show _ < 16777216
      simp only [dicE, List.length_map]
      rw [List.length_append, List.length_cons] at hl
      omega
    rw [List.map_cons, dcGo]
    simp only [gN_ap, ofO_some, bind_ok, bYes_ap, noX_ok, eVar_ap, hi, eC_ap, keyOf_fm, hz, if_true]
    rw [dicE_new fn (fun _ => rfl), dcGo_fms hi suf (pre ++ [f]) (by rw [← e]; exact nd) (by rw [← e]; exact hl), ← e]
theorem dicE_keys (E : List Fm) (mk : Fm → Bool) : (dicE E mk).map (·.1) = E.map Fm.enc := by simp [dicE]
end M

set_option Elab.async false
set_option linter.all false
set_option maxRecDepth 100000
set_option maxHeartbeats 4000000
namespace M
open PySem PySem.Spec PyProof.Rows L2
/-! ### all reduced forms, and their cycles -/
structure RedList (D : Int) (E : List Fm) : Prop where
  asc : E.Pairwise (fun f g => rLt f.row g.row = true)
  mem : ∀ f, f ∈ E ↔ f.RedM ∧ f.disc = D
theorem rLt_ne {f g : Fm} (h : rLt f.row g.row = true) : f ≠ g := fun e => by rw [e, rLt_irrefl] at h; cases h
theorem RedList.nodup {D : Int} {E : List Fm} (h : RedList D E) : E.Nodup := h.asc.imp fun {a b} h => rLt_ne h
theorem rLt_leR {a b : List Int} (h : rLt a b = true) : leR a b = true := by
  unfold leR
  cases e : rLt b a with
  | false => rfl
  | true => have := rLt_trans h e; rw [rLt_irrefl] at this; cases this
theorem map_row_inj {f g : List Fm} (h : f.map Fm.row = g.map Fm.row) : f = g := List.map_inj_right (fun _ _ e => Fm.row_inj e) |>.1 h
/-- a list without doubles that holds the same forms is sorted to it -/
theorem sort_to {E l : List Fm} (h : E.Pairwise (fun f g => rLt f.row g.row = true)) (nd : l.Nodup) (hm : ∀ f, f ∈ l ↔ f ∈ E) : sortR (l.map Fm.row) = E.map Fm.row := by
  refine sortR_eq ?_ ?_
  · refine List.Perm.map _ ?_
    exact (List.perm_ext_iff_of_nodup nd (h.imp fun {a b} h => rLt_ne h)).2 hm
  · rw [List.pairwise_map]
    exact h.imp fun {a b} h => rLt_leR h
def toFm : List Int → Fm
  | [a, b, c] => ⟨a, b, c⟩
  | _ => ⟨0, 0, 0⟩
theorem toFm_row (f : Fm) : toFm f.row = f := rfl
theorem sorted_ex {l : List Fm} (nd : l.Nodup) : ∃ E : List Fm, E.Pairwise (fun f g => rLt f.row g.row = true) ∧ ∀ f, f ∈ E ↔ f ∈ l := by
  have hp := sortR_perm (l.map Fm.row)
  have hs := sortR_srt (l.map Fm.row)
  have nr : (sortR (l.map Fm.row)).Nodup := by
    rw [hp.nodup_iff]
    unfold List.Nodup
    rw [List.pairwise_map]
    exact nd.imp fun {a b} h e => h (Fm.row_inj e)
  have rows : ∀ r ∈ sortR (l.map Fm.row), (toFm r).row = r ∧ toFm r ∈ l := by
    intro r hr
    obtain ⟨f, hf, rfl⟩ := List.mem_map.1 (hp.mem_iff.1 hr)
    exact ⟨rfl, by rw [toFm_row]; exact hf⟩
  refine ⟨(sortR (l.map Fm.row)).map toFm, ?_, fun f => ?_⟩
  · rw [List.pairwise_map]
    have both := hs.and nr
    refine List.Pairwise.imp_of_mem (fun {a b} ha hb hab => ?_) both
    rw [(rows a ha).1, (rows b hb).1]
    have le := hab.1
    unfold leR at le
    cases e : rLt a b with
    | true => rfl
    | false => exact absurd (rLt_tri e (by simpa using le)) hab.2
  · rw [List.mem_map]
    constructor
    · intro ⟨r, hr, e⟩; rw [← e]; exact (rows r hr).2
    · intro hf
      exact ⟨f.row, hp.mem_iff.2 (List.mem_map.2 ⟨f, hf, rfl⟩), toFm_row f⟩
/-- a reduced form of a discriminant: what its first numbers keep to -/
theorem red_disc {D r : Int} (hr : Rt2 D r) {f : Fm} (hf : f.RedM) (hd : f.disc = D) : 1 ≤ f.b ∧ f.b ≤ r ∧ 1 ≤ f.a.natAbs ∧ (f.a.natAbs : Int) ≤ r ∧ D - f.b * f.b = -(4 * (f.a * f.c)) := by
  obtain ⟨b1, b2, b3, b4, b5⟩ := hf.bounds (r := r) (by rw [hd]; exact hr)
  have s := hf.sg
  refine ⟨by omega, b3, by omega, by omega, ?_⟩
  rw [← hd]; simp only [Fm.disc]; grind
/-- the cycles of a discriminant, as the program lists them -/
structure Parts (r D : Int) (E : List Fm) (ps : List (List Fm)) : Prop where
  cyc : ∀ p ∈ ps, ∃ h n, p = cyL r h n ∧ Per r h n ∧ LeastIn r h h ∧ h ∈ E
  asc : (ps.map fun p => p.headD ⟨0, 0, 0⟩).Pairwise (fun f g => rLt f.row g.row = true)
  mem : ∀ f, f ∈ ps.flatten ↔ f ∈ E
  nd : ps.flatten.Nodup
theorem cyL_head {r : Int} {h d : Fm} {n : Nat} (p : Per r h n) : (cyL r h n).headD d = h := by
  obtain ⟨m, rfl⟩ : ∃ m, n = m + 1 := ⟨n - 1, by have := p.n1; omega⟩
  unfold cyL
  rw [List.range_succ_eq_map]
  rfl
theorem cyL_cons {r : Int} {h : Fm} {n : Nat} (p : Per r h n) : cyL r h n = h :: (cyL r h n).tail := by
  obtain ⟨m, rfl⟩ : ∃ m, n = m + 1 := ⟨n - 1, by have := p.n1; omega⟩
  unfold cyL
  rw [List.range_succ_eq_map]
  rfl
/-- on the way through the list -/
structure PartsTo (r D : Int) (E pre : List Fm) (mk : Fm → Bool) (ps : List (List Fm)) : Prop where
  cyc : ∀ p ∈ ps, ∃ h n, p = cyL r h n ∧ Per r h n ∧ LeastIn r h h ∧ h ∈ pre
  asc : (ps.map fun p => p.headD ⟨0, 0, 0⟩).Pairwise (fun f g => rLt f.row g.row = true)
  nd : ps.flatten.Nodup
  all : ∀ f ∈ pre, f ∈ ps.flatten
  mrk : ∀ f ∈ E, mk f = false ↔ f ∈ ps.flatten
theorem PartsTo.skip {r D : Int} {E pre : List Fm} {mk : Fm → Bool} {ps : List (List Fm)} (h : PartsTo r D E pre mk ps) {f : Fm} (hf : f ∈ E) (hm : mk f = false) : PartsTo r D E (pre ++ [f]) mk ps := by
  refine ⟨fun p hp => ?_, h.asc, h.nd, fun g hg => ?_, h.mrk⟩
  · obtain ⟨a, n, h1, h2, h3, h4⟩ := h.cyc p hp
    exact ⟨a, n, h1, h2, h3, List.mem_append_left _ h4⟩
  · rcases List.mem_append.1 hg with hg | hg
    · exact h.all g hg
    · rw [List.mem_singleton] at hg
      subst hg
      exact (h.mrk g hf).1 hm
theorem cyc_same {r D : Int} (hr : Rt2 D r) (hn : NSq D) {f g h : Fm} {n : Nat} (hh : h.RedM) (hd : h.disc = D) (p : Per r h n) (hf : f ∈ cyL r h n) {i : Nat} (e : gs r i f = g) : g ∈ cyL r h n := by
  rw [cyL_mem' p] at hf ⊢
  obtain ⟨j, hj⟩ := hf
  exact ⟨j + i, by rw [gs_add, hj]; exact e⟩
theorem PartsTo.take {r D : Int} (hr : Rt2 D r) (hn : NSq D) {E pre suf : List Fm} {mk : Fm → Bool} {ps : List (List Fm)} {f : Fm} {n : Nat} (hE : RedList D E) (hs : E = pre ++ f :: suf) (h : PartsTo r D E pre mk ps) (hm : mk f = true) (p : Per r f n) :
    LeastIn r f f ∧ PartsTo r D E (pre ++ [f]) (fun g => mk g && !decide (g ∈ cyL r f n)) (ps ++ [cyL r f n]) := by
  have fE : f ∈ E := by rw [hs]; simp
  have fr := (hE.mem f).1 fE
  have hr' : Rt2 f.disc r := by rw [fr.2]; exact hr
  have hn' : NSq f.disc := by rw [fr.2]; exact hn
  have fn : f ∉ ps.flatten := fun z => by
    have := (h.mrk f fE).2 z
    rw [hm] at this; cases this
  have asc := hE.asc
  rw [hs, List.pairwise_append] at asc
  obtain ⟨_, as2, as3⟩ := asc
  have as4 := (List.pairwise_cons.1 as2).1
  -- forms of the cycle of f are of no part
  have apart : ∀ g, g ∈ cyL r f n → g ∉ ps.flatten := by
    intro g hg z
    obtain ⟨i, hi⟩ := (cyL_mem' p).1 hg
    obtain ⟨q, hq, gq⟩ := List.mem_flatten.1 z
    obtain ⟨a, m, e, pa, la, ha⟩ := h.cyc q hq
    subst e
    have ra := (hE.mem a).1 (by rw [hs]; exact List.mem_append_left _ ha)
    obtain ⟨j, hj⟩ := back_by (r := r) fr.1 hr' hn' i
    rw [hi] at hj
    exact fn (List.mem_flatten.2 ⟨_, hq, cyc_same hr hn ra.1 ra.2 pa gq hj⟩)
  have least : LeastIn r f f := by
    refine ⟨⟨0, rfl⟩, fun i => ?_⟩
    have gE : gs r i f ∈ E := (hE.mem _).2 ⟨gs_red i fr.1 hr' hn', by rw [gs_disc]; exact fr.2⟩
    have gn := apart (gs r i f) ((cyL_mem' p).2 ⟨i, rfl⟩)
    rw [hs] at gE
    rcases List.mem_append.1 gE with z | z
    · exact absurd (h.all _ z) gn
    · rcases List.mem_cons.1 z with z | z
      · rw [z, rLt_irrefl]
      · cases e : rLt (gs r i f).row f.row with
        | false => rfl
        | true => have := rLt_trans (as4 _ z) e; rw [rLt_irrefl] at this; cases this
  refine ⟨least, fun q hq => ?_, ?_, ?_, fun g hg => ?_, fun g hg => ?_⟩
  · rcases List.mem_append.1 hq with hq | hq
    · obtain ⟨a, m, h1, h2, h3, h4⟩ := h.cyc q hq
      exact ⟨a, m, h1, h2, h3, List.mem_append_left _ h4⟩
    · rw [List.mem_singleton] at hq
      subst hq
      exact ⟨f, n, rfl, p, least, by simp⟩
  · rw [List.map_append, List.pairwise_append]
    refine ⟨h.asc, List.pairwise_singleton _ _, fun a ha b hb => ?_⟩
    obtain ⟨q, hq, rfl⟩ := List.mem_map.1 ha
    obtain ⟨c, m, e, pc, lc, hc⟩ := h.cyc q hq
    subst e
    simp only [List.map_cons, List.map_nil, List.mem_singleton] at hb
    subst hb
    rw [cyL_head pc, cyL_head p]
    exact as3 c hc f List.mem_cons_self
  · rw [List.flatten_append]
    simp only [List.flatten_cons, List.flatten_nil, List.append_nil]
    refine List.nodup_append.2 ⟨h.nd, cyL_nodup fr.1 hr' hn' p, fun a ha b hb e => ?_⟩
    subst e
    exact apart a hb ha
  · rw [List.flatten_append]
    rcases List.mem_append.1 hg with hg | hg
    · exact List.mem_append_left _ (h.all g hg)
    · rw [List.mem_singleton] at hg
      subst hg
      refine List.mem_append_right _ ?_
      simp only [List.flatten_cons, List.flatten_nil, List.append_nil]
      exact (cyL_mem' p).2 ⟨0, rfl⟩
  · rw [List.flatten_append]
    simp only [List.flatten_cons, List.flatten_nil, List.append_nil, List.mem_append]
    have := h.mrk g hg
    cases e : mk g with
    | false =>
      rw [e] at this
      simp only [Bool.false_and, true_iff] at this ⊢
      exact .inl this
    | true =>
      rw [e] at this
      have n1 : g ∉ ps.flatten := fun z => by have := this.2 z; cases this
      simp [n1]
theorem PartsTo.done {r D : Int} {E : List Fm} {mk : Fm → Bool} {ps : List (List Fm)} (hr : Rt2 D r) (hn : NSq D) (hE : RedList D E) (h : PartsTo r D E E mk ps) : Parts r D E ps := by
  refine ⟨h.cyc, h.asc, fun f => ⟨fun hf => ?_, h.all f⟩, h.nd⟩
  obtain ⟨q, hq, fq⟩ := List.mem_flatten.1 hf
  obtain ⟨a, m, e, pa, la, ha⟩ := h.cyc q hq
  subst e
  have ra := (hE.mem a).1 ha
  obtain ⟨j, _, e⟩ := cyL_mem.1 fq
  rw [← e]
  exact (hE.mem _).2 ⟨gs_red j ra.1 (by rw [ra.2]; exact hr) (by rw [ra.2]; exact hn), by rw [gs_disc]; exact ra.2⟩
end M

set_option Elab.async false
set_option linter.all false
set_option maxRecDepth 100000
set_option maxHeartbeats 4000000
namespace M
open PySem PySem.Spec PyProof.Rows L2
def kList1 : Res (List D) → Res (List D)
  | .ok [.list xs] w => .ok xs w
  | .ok [.tuple xs] w => .ok xs w
  | .ok _ _ => .bad
  | .exc e w => .exc e w
  | .bad => .bad
@[simp] theorem fListF_s (d : Ev → MM (List D)) (ρ : Ev) (ω : Wd) : fListF d ρ ω = kList1 (d ρ ω) := by
  unfold fListF
  cases d ρ ω with
  | bad => rfl
  | exc e w => rfl
  | ok a w =>
    rw [bind_ok]
    match a with
    | [] => rfl
    | [.list _] => rfl
    | [.tuple _] => rfl
    | [.none] => rfl
    | [.bool _] => rfl
    | [.int _] => rfl
    | [.str _] => rfl
    | [.dict _] => rfl
    | .list _ :: _ :: _ => rfl
    | .tuple _ :: _ :: _ => rfl
    | .none :: _ :: _ => rfl
    | .bool _ :: _ :: _ => rfl
    | .int _ :: _ :: _ => rfl
    | .str _ :: _ :: _ => rfl
    | .dict _ :: _ :: _ => rfl
@[simp] theorem kList1_l (xs : List D) (w : Wd) : kList1 (.ok [.list xs] w) = .ok xs w := (rfl)
@[simp] theorem kList1_t (xs : List D) (w : Wd) : kList1 (.ok [.tuple xs] w) = .ok xs w := (rfl)
/-! comparing forms, matrices and lists of them -/
theorem vIn_mts (f : Mt) (fs : List Mt) : vIn f.enc (.list (fs.map Mt.enc)) = some (decide (f ∈ fs)) := vIn_of eqv_mt fl_mt (by omega) f fs
/-- a cycle as a value -/
def encC (p : List Fm) : PyData := .list (p.map Fm.enc)
theorem fl_encC (p : List Fm) : Fl2 2 (encC p) := fl_list (fl_map fl_fm)
theorem eqv_encC (p q : List Fm) : PyData.eqv (encC p) (encC q) = decide (p = q) := by
  simp only [encC, PyData.eqv]
  exact eqvAll_map eqv_fm p q
theorem vNe_encC (p q : List Fm) : vNe (encC p) (encC q) = some (!decide (p = q)) := by rw [vNe_of (fl_encC p) (fl_encC q) (by omega), eqv_encC]
theorem vNe_parts (p q : List (List Fm)) : vNe (.list (p.map encC)) (.list (q.map encC)) = some (!decide (p = q)) := by
  rw [vNe_of (fl_list (fl_map fl_encC)) (fl_list (fl_map fl_encC)) (by omega)]
  simp only [PyData.eqv]
  rw [eqvAll_map eqv_encC]
theorem vNotIn_int (x : Int) (xs : List Int) : vNotIn (.int x) (.list (xs.map .int)) = some (!decide (x ∈ xs)) := vNotIn_of eqv_int (fun i => fl_int 0 i) (by omega) x xs
theorem fSortD_fms {E l : List Fm} (h : E.Pairwise (fun f g => rLt f.row g.row = true)) (nd : l.Nodup) (hm : ∀ f, f ∈ l ↔ f ∈ E) (hl : l.length ≤ 10000000) : fSortD [.list (l.map Fm.enc)] = some (.list (E.map Fm.enc)) := by
  rw [enc_rows, enc_rows, fSortD_rows (fun r hr => by obtain ⟨f, _, rfl⟩ := List.mem_map.1 hr; exact (fun z => by cases z)) (by rw [List.length_map]; show _ ≤ 16777216; omega), sort_to h nd hm]
theorem vIx_prev {xs : List D} {n k : Nat} {v : D} (hl : xs.length = n) (hk : k < n) (h : xs[(k + n - 1) % n]? = some v) : vIx (.list xs) (.int ((k : Int) - 1)) = some v := by
  by_cases z : k = 0
  · subst z
    rw [show (0 + n - 1) % n = n - 1 by rw [show 0 + n - 1 = n - 1 by omega]; exact Nat.mod_eq_of_lt (by omega)] at h
    obtain ⟨ys, a, e⟩ : ∃ ys a, xs = ys ++ [a] := ⟨xs.dropLast, xs.getLast (by intro e; subst e; simp at hl; omega), (List.dropLast_concat_getLast _).symm⟩
    subst e
    rw [List.length_append] at hl
    have hl : ys.length + 1 = n := hl
    rw [show n - 1 = ys.length by omega] at h
    simp at h
    subst h
    exact atI_last ys a
  · have e : (k : Int) - 1 = ((k - 1 : Nat) : Int) := by omega
    rw [e]
    rw [show k + n - 1 = (k - 1) + n by omega, Nat.add_mod_right, Nat.mod_eq_of_lt (by omega)] at h
    exact vIx_list h
end M

set_option Elab.async false
set_option linter.all false
set_option maxRecDepth 100000
set_option maxHeartbeats 4000000
namespace M
/-! ### what keeps a form, and units -/
structure IsAu (f : Fm) (m : Mt) (t u : Int) : Prop where
  t : m.p + m.s = t
  b : m.s - m.p = f.b * u
  q : m.q = -(f.c * u)
  r : m.r = f.a * u
theorem self_lin {f : Fm} {m : Mt} (h : f.turn m = f) (hd : m.det = 1) : f.b * m.r = f.a * (m.s - m.p) ∧ f.a * m.q = -(f.c * m.r) := by
  have e1 : f.at m.p m.r = f.a := congrArg Fm.a h
  have e2 : 2 * f.a * m.p * m.q + f.b * (m.p * m.s + m.q * m.r) + 2 * f.c * m.r * m.s = f.b := congrArg Fm.b h
  simp only [Fm.at] at e1
  simp only [Mt.det] at hd
  obtain ⟨a, b, c⟩ := f
  obtain ⟨p, q, r, s⟩ := m
  simp only at *
  have k1 : 2 * (b * r - a * (s - p)) = 0 := by
    have : 2 * (b * r - a * (s - p)) = 2 * s * ((a * p * p + b * p * r + c * r * r) - a) - r * ((2 * a * p * q + b * (p * s + q * r) + 2 * c * r * s) - b) - (2 * a * p + b * r) * ((p * s - q * r) - 1) := by grind
    rw [e1, e2, hd] at this
    simpa using this
  have k2 : 2 * (a * q + c * r) = 0 := by
    have : 2 * (a * q + c * r) = p * ((2 * a * p * q + b * (p * s + q * r) + 2 * c * r * s) - b) - 2 * q * ((a * p * p + b * p * r + c * r * r) - a) - (b * p + 2 * c * r) * ((p * s - q * r) - 1) := by grind
    rw [e1, e2, hd] at this
    simpa using this
  omega
theorem au_of_self {f : Fm} {m : Mt} (h : f.turn m = f) (hd : m.det = 1) (h0 : f.a ≠ 0) {x y z : Int} (hp : f.a * x + f.b * y + f.c * z = 1) : ∃ t u, IsAu f m t u ∧ t * t - f.disc * u * u = 4 := by
  obtain ⟨l1, l2⟩ := self_lin h hd
  have er : m.r = f.a * (m.r * x + (m.s - m.p) * y - m.q * z) := by
    have : m.r = m.r * (f.a * x + f.b * y + f.c * z) := by rw [hp]; omega
    have e : m.r * (f.a * x + f.b * y + f.c * z) = f.a * (m.r * x) + (f.b * m.r) * y + (f.c * m.r) * z := by grind
    have e2 : f.c * m.r = -(f.a * m.q) := by omega
    rw [e, l1, e2] at this
    grind
  generalize m.r * x + (m.s - m.p) * y - m.q * z = u at er
  have c1 : m.s - m.p = f.b * u := by
    have : f.a * ((m.s - m.p) - f.b * u) = 0 := by rw [er] at l1; grind
    rcases Int.mul_eq_zero.1 this with z | z
    · exact absurd z h0
    · omega
  have c2 : m.q = -(f.c * u) := by
    have : f.a * (m.q + f.c * u) = 0 := by rw [er] at l2; grind
    rcases Int.mul_eq_zero.1 this with z | z
    · exact absurd z h0
    · omega
  refine ⟨_, u, ⟨rfl, c1, c2, er⟩, ?_⟩
  simp only [Mt.det] at hd
  have e : (m.p + m.s) * (m.p + m.s) = (m.s - m.p) * (m.s - m.p) + 4 * (m.p * m.s) := by grind
  have e2 : m.p * m.s = 1 + m.q * m.r := by omega
  rw [e, e2, c1, c2, er]
  simp only [Fm.disc]; grind
theorem self_of_au {f : Fm} {m : Mt} {t u : Int} (h : IsAu f m t u) (hu : t * t - f.disc * u * u = 4) : f.turn m = f ∧ m.det = 1 := by
  obtain ⟨h1, h2, h3, h4⟩ := h
  have det : m.det = 1 := by
    have e : 4 * m.det = (m.p + m.s) * (m.p + m.s) - (m.s - m.p) * (m.s - m.p) - 4 * (m.q * m.r) := by simp only [Mt.det]; grind
    rw [h1, h2, h3, h4] at e
    have e2 : t * t - f.b * u * (f.b * u) - 4 * (-(f.c * u) * (f.a * u)) = t * t - f.disc * u * u := by simp only [Fm.disc]; grind
    omega
  refine ⟨?_, det⟩
  have k : f.b * m.r = f.a * (m.s - m.p) ∧ f.a * m.q = -(f.c * m.r) ∧ f.b * m.q = -(f.c * (m.s - m.p)) := by
    rw [h2, h3, h4]; refine ⟨by grind, by grind, by grind⟩
  obtain ⟨k1, k2, k3⟩ := k
  simp only [Mt.det] at det
  obtain ⟨a, b, c⟩ := f
  obtain ⟨p, q, r, s⟩ := m
  simp only at *
  have x1 : a * p * p + b * p * r + c * r * r = a := by
    have : a * p * p + b * p * r + c * r * r = a * (p * s - q * r) + p * (b * r - a * (s - p)) + r * (c * r + a * q) := by grind
    rw [this, det, k1, k2]; grind
  have x2 : 2 * a * p * q + b * (p * s + q * r) + 2 * c * r * s = b := by
    have : 2 * a * p * q + b * (p * s + q * r) + 2 * c * r * s = b * (p * s - q * r) + 2 * q * (b * r - a * (s - p)) + 2 * s * (a * q + c * r) := by grind
    rw [this, det, k1, k2]; grind
  have x3 : a * q * q + b * q * s + c * s * s = c := by
    have : a * q * q + b * q * s + c * s * s = c * (p * s - q * r) + q * (a * q + c * r) + s * (b * q + c * (s - p)) := by grind
    rw [this, det, k2, k3]; grind
  ext
  · exact x1
  · exact x2
  · exact x3
theorem unit_par {f : Fm} {t u : Int} (hu : t * t - f.disc * u * u = 4) : (t - f.b * u) % 2 = 0 := by
  have e : (t - f.b * u) * (t + f.b * u) = 4 * (1 - f.a * f.c * u * u) := by simp only [Fm.disc] at hu; grind
  rcases Int.emod_two_eq (t - f.b * u) with z | z
  · exact z
  · exfalso
    have z2 : (t + f.b * u) % 2 = 1 := by omega
    have := Int.mul_emod (t - f.b * u) (t + f.b * u) 2
    rw [z, z2, e] at this
    omega
theorem au_ex {f : Fm} {t u : Int} (hu : t * t - f.disc * u * u = 4) : ∃ m, IsAu f m t u := by
  have := unit_par hu
  exact ⟨⟨(t - f.b * u) / 2, -(f.c * u), f.a * u, t - (t - f.b * u) / 2⟩, by simp only; omega, by simp only; omega, rfl, rfl⟩
theorem au_mul {f : Fm} {m m' : Mt} {t u t' u' : Int} (h : IsAu f m t u) (h' : IsAu f m' t' u') (h0 : f.a ≠ 0) :
    ∃ T U, IsAu f (m.mul m') T U ∧ 2 * T = t * t' + f.disc * u * u' ∧ 2 * U = t * u' + u * t' := by
  obtain ⟨a1, a2, a3, a4⟩ := h
  obtain ⟨b1, b2, b3, b4⟩ := h'
  have ep : 2 * m.p = t - f.b * u := by omega
  have es : 2 * m.s = t + f.b * u := by omega
  have ep' : 2 * m'.p = t' - f.b * u' := by omega
  have es' : 2 * m'.s = t' + f.b * u' := by omega
  have hU : 2 * (u * m'.p + m.s * u') = t * u' + u * t' := by
    have : 2 * (u * m'.p + m.s * u') = u * (2 * m'.p) + (2 * m.s) * u' := by grind
    rw [this, ep', es]; grind
  refine ⟨_, u * m'.p + m.s * u', ⟨rfl, ?_, ?_, ?_⟩, ?_, hU⟩
  · have g1 : 2 * ((m.mul m').s - (m.mul m').p) = 2 * (f.b * (u * m'.p + m.s * u')) := by
      have e : 4 * ((m.mul m').s - (m.mul m').p) = (2 * m.s) * (2 * m'.s) - (2 * m.p) * (2 * m'.p) + 4 * (m.r * m'.q - m.q * m'.r) := by simp only [Mt.mul]; grind
      rw [ep, es, ep', es', a3, a4, b3, b4] at e
      have e2 : f.b * (2 * (u * m'.p + m.s * u')) = f.b * (t * u' + u * t') := by rw [hU]
      grind
    omega
  · have e : 2 * (m.mul m').q = (2 * m.p) * m'.q + m.q * (2 * m'.s) := by simp only [Mt.mul]; grind
    rw [ep, es', a3, b3] at e
    have e2 : f.c * (2 * (u * m'.p + m.s * u')) = f.c * (t * u' + u * t') := by rw [hU]
    grind
  · simp only [Mt.mul]; rw [a4, b4]; grind
  · have e : 4 * ((m.mul m').p + (m.mul m').s) = (2 * m.s) * (2 * m'.s) + (2 * m.p) * (2 * m'.p) + 4 * (m.r * m'.q + m.q * m'.r) := by simp only [Mt.mul]; grind
    rw [ep, es, ep', es', a3, a4, b3, b4] at e
    simp only [Fm.disc]; grind
theorem au_inv {f : Fm} {m : Mt} {t u : Int} (h : IsAu f m t u) : IsAu f m.inv t (-u) := by
  obtain ⟨h1, h2, h3, h4⟩ := h
  refine ⟨?_, ?_, ?_, ?_⟩ <;> simp only [Mt.inv]
  · omega
  · have : f.b * -u = -(f.b * u) := by grind
    omega
  · rw [h3]; grind
  · rw [h4]; grind
theorem au_neg {f : Fm} {m : Mt} {t u : Int} (h : IsAu f m t u) : IsAu f m.neg (-t) (-u) := by
  obtain ⟨h1, h2, h3, h4⟩ := h
  refine ⟨?_, ?_, ?_, ?_⟩ <;> simp only [Mt.neg]
  · omega
  · have : f.b * -u = -(f.b * u) := by grind
    omega
  · rw [h3]; grind
  · rw [h4]; grind
theorem au_uniq {f : Fm} {m : Mt} {t u t' u' : Int} (h : IsAu f m t u) (h' : IsAu f m t' u') (h0 : f.a ≠ 0) : t = t' ∧ u = u' := by
  refine ⟨by rw [← h.t, h'.t], ?_⟩
  have : f.a * (u - u') = 0 := by
    have e1 := h.r
    have e2 := h'.r
    grind
  rcases Int.mul_eq_zero.1 this with z | z
  · exact absurd z h0
  · omega
def Mt.pw (m : Mt) : Nat → Mt
  | 0 => Mt.one
  | n + 1 => m.mul (Mt.pw m n)
/-- powers of a unit -/
def uP (D T U : Int) : Nat → Int × Int
  | 0 => (2, 0)
  | n + 1 => ((T * (uP D T U n).1 + D * U * (uP D T U n).2) / 2, (T * (uP D T U n).2 + U * (uP D T U n).1) / 2)
theorem gs_div {r : Int} {f : Fm} {n : Nat} (h : f.RedM) (hr : Rt2 f.disc r) (hn : NSq f.disc) (n1 : 1 ≤ n) (hp : gs r n f = f) (hm : ∀ j, 1 ≤ j → j < n → gs r j f ≠ f) {k : Nat} (hk : gs r k f = f) : ∃ j, k = n * j := by
  refine ⟨k / n, ?_⟩
  have e := Nat.div_add_mod k n
  have lt := Nat.mod_lt k n1
  have : gs r (k % n) f = f := by
    have : gs r (n * (k / n) + k % n) f = f := by rw [e]; exact hk
    rw [gs_add, gs_mul hp] at this
    exact this
  rcases Nat.eq_zero_or_pos (k % n) with z | z
  · omega
  · exact absurd this (hm _ z lt)
theorem gW_pw {r : Int} {f : Fm} {n : Nat} (hp : gs r n f = f) : ∀ k, gW r (n * k) f = (gW r n f).pw k
  | 0 => rfl
  | k + 1 => by
    have : n * (k + 1) = n + n * k := by rw [Nat.mul_succ, Nat.add_comm]
    rw [this, gW_add, hp, gW_pw hp k, Mt.pw]
theorem pw_au {f : Fm} {m : Mt} {t u : Int} (h : IsAu f m t u) (hu : t * t - f.disc * u * u = 4) (h0 : f.a ≠ 0) : ∀ k, IsAu f (m.pw k) (uP f.disc t u k).1 (uP f.disc t u k).2 ∧ (uP f.disc t u k).1 * (uP f.disc t u k).1 - f.disc * (uP f.disc t u k).2 * (uP f.disc t u k).2 = 4 ∧
    2 * (uP f.disc t u (k + 1)).1 = t * (uP f.disc t u k).1 + f.disc * u * (uP f.disc t u k).2 ∧ 2 * (uP f.disc t u (k + 1)).2 = t * (uP f.disc t u k).2 + u * (uP f.disc t u k).1 := by
  intro k
  have step : ∀ k, IsAu f (m.pw k) (uP f.disc t u k).1 (uP f.disc t u k).2 → (IsAu f (m.pw (k + 1)) (uP f.disc t u (k + 1)).1 (uP f.disc t u (k + 1)).2 ∧ 2 * (uP f.disc t u (k + 1)).1 = t * (uP f.disc t u k).1 + f.disc * u * (uP f.disc t u k).2 ∧ 2 * (uP f.disc t u (k + 1)).2 = t * (uP f.disc t u k).2 + u * (uP f.disc t u k).1) := by
    intro k ih
    obtain ⟨T, U, e1, e2, e3⟩ := au_mul h ih h0
    have q1 : (uP f.disc t u (k + 1)).1 = T := by show (t * (uP f.disc t u k).1 + f.disc * u * (uP f.disc t u k).2) / 2 = T; omega
    have q2 : (uP f.disc t u (k + 1)).2 = U := by show (t * (uP f.disc t u k).2 + u * (uP f.disc t u k).1) / 2 = U; omega
    rw [q1, q2]
    exact ⟨e1, e2, e3⟩
  have nm : ∀ k, IsAu f (m.pw k) (uP f.disc t u k).1 (uP f.disc t u k).2 ∧ (uP f.disc t u k).1 * (uP f.disc t u k).1 - f.disc * (uP f.disc t u k).2 * (uP f.disc t u k).2 = 4 := by
    intro k
    induction k with
    | zero => exact ⟨⟨rfl, by simp [uP, Mt.pw, Mt.one], by simp [uP, Mt.pw, Mt.one], by simp [uP, Mt.pw, Mt.one]⟩, by simp [uP]⟩
    | succ k ih =>
      obtain ⟨s1, s2, s3⟩ := step k ih.1
      refine ⟨s1, ?_⟩
      have i2 := ih.2
      generalize (uP f.disc t u (k + 1)).1 = X at *
      generalize (uP f.disc t u (k + 1)).2 = Y at *
      generalize (uP f.disc t u k).1 = x at *
      generalize (uP f.disc t u k).2 = y at *
      have e : 4 * (X * X - f.disc * Y * Y) = (2 * X) * (2 * X) - f.disc * (2 * Y) * (2 * Y) := by grind
      rw [s2, s3] at e
      have e2 : (t * x + f.disc * u * y) * (t * x + f.disc * u * y) - f.disc * (t * y + u * x) * (t * y + u * x) = (t * t - f.disc * u * u) * (x * x - f.disc * y * y) := by grind
      rw [e2, hu, i2] at e
      omega
  exact ⟨(nm k).1, (nm k).2, (step k (nm k).1).2⟩
end M

set_option Elab.async false
set_option linter.all false
set_option maxRecDepth 100000
set_option maxHeartbeats 4000000
namespace M
/-! ### the least unit, and all others -/
theorem sq_nonneg (x : Int) : 0 ≤ x * x := by
  have := Int.mul_nonneg (show (0 : Int) ≤ x.natAbs by omega) (show (0 : Int) ≤ x.natAbs by omega)
  rw [Int.natAbs_mul_self'] at this
  exact this
theorem stW_pos : ∀ (n : Nat) (f : Fm), 1 ≤ (Fm.stW n f).p ∧ 0 ≤ (Fm.stW n f).q ∧ 0 ≤ (Fm.stW n f).r ∧ 1 ≤ (Fm.stW n f).s ∧ (1 ≤ n → 1 ≤ (Fm.stW n f).q + (Fm.stW n f).r)
  | 0, _ => by simp [Fm.stW, Mt.one]
  | n + 1, f => by
    obtain ⟨h1, h2, h3, h4, _⟩ := stW_pos n f.st
    rw [Fm.stW]
    unfold Fm.stM
    split <;> simp only [Mt.mul, Mt.Lm, Mt.Rm] <;> omega
theorem gs_sign {r : Int} : ∀ (k : Nat) {f : Fm}, f.RedM → Rt2 f.disc r → NSq f.disc → (0 < (gs r k f).a ↔ (0 < f.a ↔ k % 2 = 0))
  | 0, f, _, _, _ => by simp [gs]
  | k + 1, f, h, hr, hn => by
    obtain ⟨g1, g2⟩ := nx_red h hr hn
    have := gs_sign k g1 (by rw [nx_disc]; exact hr) (by rw [nx_disc]; exact hn)
    rw [gs, this, g2]
    have := h.sg
    omega
theorem gs_even {r : Int} {f : Fm} (h : f.RedM) (hr : Rt2 f.disc r) (hn : NSq f.disc) {k : Nat} (hk : gs r k f = f) : k % 2 = 0 := by
  have := gs_sign k h hr hn
  rw [hk] at this
  have := h.sg
  omega
theorem gW_st {r : Int} : ∀ (i : Nat) {f : Fm}, f.RedM → 0 < f.a → Rt2 f.disc r → NSq f.disc → ∃ N, 2 * i ≤ N ∧ gs r (2 * i) f = Fm.sts N f ∧ PmEq (gW r (2 * i) f) (Fm.stW N f)
  | 0, f, _, _, _, _ => ⟨0, Nat.le_refl _, rfl, .inl rfl⟩
  | i + 1, f, h, ha, hr, hn => by
    obtain ⟨n, n2, e, w, _⟩ := runTwo h ha hr hn
    have hr2 : Rt2 (nxF r f).disc r := by rw [nx_disc]; exact hr
    have hn2 : NSq (nxF r f).disc := by rw [nx_disc]; exact hn
    obtain ⟨g1, g2⟩ := nx_red h hr hn
    obtain ⟨g3, g4⟩ := nx_red g1 hr2 hn2
    have ga : 0 < (nxF r (nxF r f)).a := by have := g1.sg; have := h.sg; omega
    obtain ⟨N, N1, N2, N3⟩ := gW_st i g3 ga (by rw [nx_disc]; exact hr2) (by rw [nx_disc]; exact hn2)
    have t : 2 * (i + 1) = 2 + 2 * i := by omega
    have e2 : gs r 2 f = nxF r (nxF r f) := rfl
    refine ⟨n + N, by omega, ?_, ?_⟩
    · rw [t, gs_add, e2, N2, e, Fm.sts_add]
    · have w2 : gW r 2 f = (Fm.stW n f).neg := by
        rw [← w]
        show (nxT r f).mul ((nxT r (nxF r f)).mul Mt.one) = _
        rw [Mt.mul_one]; rfl
      rw [t, gW_add, e2, w2, Fm.stW_add, ← e]
      rcases N3 with N3 | N3 <;> rw [N3]
      · right; ext <;> simp only [Mt.mul, Mt.neg] <;> grind
      · left; ext <;> simp only [Mt.mul, Mt.neg] <;> grind
theorem PmEq.symm {m w : Mt} (h : PmEq m w) : PmEq w m := by
  rcases h with rfl | rfl
  · exact .inl rfl
  · exact .inr (Mt.neg_neg _).symm
theorem gW_ne {r : Int} {f : Fm} {i : Nat} (h : f.RedM) (hr : Rt2 f.disc r) (hn : NSq f.disc) (hi : 1 ≤ i) : ¬ PmEq (gW r (2 * i) f) Mt.one := by
  have pos : ∀ {f : Fm}, f.RedM → 0 < f.a → Rt2 f.disc r → NSq f.disc → ¬ PmEq (gW r (2 * i) f) Mt.one := by
    intro f h ha hr hn z
    obtain ⟨N, N1, _, N2⟩ := gW_st i h ha hr hn
    have s := stW_pos N f
    have := z.symm.trans N2
    rcases this with e | e
    · have e1 := congrArg Mt.q e
      have e2 := congrArg Mt.r e
      simp only [Mt.one] at e1 e2
      omega
    · have e1 := congrArg Mt.q e
      have e2 := congrArg Mt.r e
      simp only [Mt.one, Mt.neg] at e1 e2
      omega
  by_cases ha : 0 < f.a
  · exact pos h ha hr hn
  · intro z
    have s0 := h.sg
    refine pos (f := f.star) h.star (by simp only [Fm.star]; omega) (by rw [Fm.star_disc]; exact hr) (by rw [Fm.star_disc]; exact hn) ?_
    exact (star_gs (2 * i) h hr hn).2.trans z.op
structure Fund (D T U : Int) : Prop where
  T3 : 3 ≤ T
  U1 : 1 ≤ U
  n : T * T - D * U * U = 4
  all : ∀ t u : Int, t * t - D * u * u = 4 → ∃ k, (t.natAbs : Int) = (uP D T U k).1 ∧ (u.natAbs : Int) = (uP D T U k).2
theorem uP_sign {D T U : Int} (t u : Int) (ht : t = T ∨ t = -T) (hu : u = U ∨ u = -U) (ex : ∀ k, 2 * (uP D T U (k + 1)).1 = T * (uP D T U k).1 + D * U * (uP D T U k).2 ∧ 2 * (uP D T U (k + 1)).2 = T * (uP D T U k).2 + U * (uP D T U k).1) :
    ∀ k, ((uP D t u k).1 = (uP D T U k).1 ∨ (uP D t u k).1 = -(uP D T U k).1) ∧ ((uP D t u k).2 = (uP D T U k).2 ∨ (uP D t u k).2 = -(uP D T U k).2) := by
  have key : ∀ k, ∃ s c : Int, (s = 1 ∨ s = -1) ∧ t * c * U = u * T ∧ (c = 1 ∨ c = -1) ∧ (u * T = t * U * c) ∧ (uP D t u k).1 = s * (uP D T U k).1 ∧ (uP D t u k).2 = s * c * (uP D T U k).2 := by
    intro k
    obtain ⟨e, he, rfl⟩ : ∃ e : Int, (e = 1 ∨ e = -1) ∧ t = e * T := by
      rcases ht with h | h
      · exact ⟨1, .inl rfl, by omega⟩
      · exact ⟨-1, .inr rfl, by omega⟩
    obtain ⟨d, hd, rfl⟩ : ∃ d : Int, (d = 1 ∨ d = -1) ∧ u = d * U := by
      rcases hu with h | h
      · exact ⟨1, .inl rfl, by omega⟩
      · exact ⟨-1, .inr rfl, by omega⟩
    have ee : e * e = 1 := by rcases he with rfl | rfl <;> rfl
    have dd : d * d = 1 := by rcases hd with rfl | rfl <;> rfl
    have main : ∃ s : Int, (s = 1 ∨ s = -1) ∧ (uP D (e * T) (d * U) k).1 = s * (uP D T U k).1 ∧ (uP D (e * T) (d * U) k).2 = s * (e * d) * (uP D T U k).2 := by
      induction k with
      | zero => exact ⟨1, .inl rfl, by simp [uP], by simp [uP]⟩
      | succ k ih =>
        obtain ⟨s, hs, i1, i2⟩ := ih
        obtain ⟨x1, x2⟩ := ex k
        refine ⟨s * e, by rcases hs with rfl | rfl <;> rcases he with rfl | rfl <;> simp, ?_, ?_⟩
        · show (e * T * (uP D (e * T) (d * U) k).1 + D * (d * U) * (uP D (e * T) (d * U) k).2) / 2 = _
          rw [i1, i2]
          have : e * T * (s * (uP D T U k).1) + D * (d * U) * (s * (e * d) * (uP D T U k).2) = s * e * (T * (uP D T U k).1 + D * U * (uP D T U k).2) := by
            have : D * (d * U) * (s * (e * d) * (uP D T U k).2) = (d * d) * (s * e * (D * U * (uP D T U k).2)) := by grind
            rw [this, dd]; grind
          rw [this, ← x1]
          have : s * e * (2 * (uP D T U (k + 1)).1) = 2 * (s * e * (uP D T U (k + 1)).1) := by grind
          omega
        · show (e * T * (uP D (e * T) (d * U) k).2 + d * U * (uP D (e * T) (d * U) k).1) / 2 = _
          rw [i1, i2]
          have : e * T * (s * (e * d) * (uP D T U k).2) + d * U * (s * (uP D T U k).1) = s * d * (T * (uP D T U k).2 + U * (uP D T U k).1) := by
            have : e * T * (s * (e * d) * (uP D T U k).2) = (e * e) * (s * d * (T * (uP D T U k).2)) := by grind
            rw [this, ee]; grind
          rw [this, ← x2]
          have e1 : s * d * (2 * (uP D T U (k + 1)).2) = 2 * (s * d * (uP D T U (k + 1)).2) := by grind
          have e2 : s * e * (e * d) = s * d := by
            have : s * e * (e * d) = (e * e) * (s * d) := by grind
            rw [this, ee]; omega
          rw [e2]
          omega
    obtain ⟨s, hs, m1, m2⟩ := main
    refine ⟨s, e * d, hs, ?_, by rcases he with rfl | rfl <;> rcases hd with rfl | rfl <;> simp, ?_, m1, m2⟩
    · have : e * T * (e * d) * U = (e * e) * (d * U * T) := by grind
      rw [this, ee]; omega
    · have : e * T * U * (e * d) = (e * e) * (d * U * T) := by grind
      rw [this, ee]; omega
  intro k
  obtain ⟨s, c, hs, _, hc, _, h1, h2⟩ := key k
  rw [h1, h2]
  constructor
  · rcases hs with rfl | rfl
    · left; omega
    · right; omega
  · rcases hs with rfl | rfl <;> rcases hc with rfl | rfl
    · left; simp
    · right; simp
    · right; simp
    · left; simp
theorem prinF_disc {D : Int} (h : D % 4 = 0 ∨ D % 4 = 1) : (prinF D).disc = D := by
  unfold prinF Fm.disc
  simp only
  have e : (D % 2 - D).fdiv 4 = (D % 2 - D) / 4 := Int.fdiv_eq_ediv_of_nonneg _ (by omega)
  rw [e]
  rcases h with z | z
  · have : D % 2 = 0 := by omega
    rw [this]; omega
  · have : D % 2 = 1 := by omega
    rw [this]; omega
theorem uP_ex {D T U : Int} (hD : D % 4 = 0 ∨ D % 4 = 1) (h : T * T - D * U * U = 4) (k : Nat) : ((uP D T U k).1 * (uP D T U k).1 - D * (uP D T U k).2 * (uP D T U k).2 = 4) ∧ 2 * (uP D T U (k + 1)).1 = T * (uP D T U k).1 + D * U * (uP D T U k).2 ∧ 2 * (uP D T U (k + 1)).2 = T * (uP D T U k).2 + U * (uP D T U k).1 := by
  have d := prinF_disc hD
  obtain ⟨m, hm⟩ := au_ex (f := prinF D) (t := T) (u := U) (by rw [d]; exact h)
  have := pw_au hm (by rw [d]; exact h) (by simp [prinF]) k
  rw [d] at this
  exact this.2
theorem nsq_pos {D r : Int} (hr : Rt2 D r) (hn : NSq D) : 0 < D := by
  have := hr.lo
  have := sq_nonneg r
  have := hn 0
  omega
theorem uP_mono {D T U : Int} (hD : D % 4 = 0 ∨ D % 4 = 1) (h : T * T - D * U * U = 4) (hD0 : 0 < D) (hT : 3 ≤ T) (hU : 1 ≤ U) : ∀ k, 2 ≤ (uP D T U k).1 ∧ 0 ≤ (uP D T U k).2 ∧ (uP D T U k).1 < (uP D T U (k + 1)).1 ∧ (uP D T U k).2 < (uP D T U (k + 1)).2 := by
  have lift : ∀ k, 2 ≤ (uP D T U k).1 → 0 ≤ (uP D T U k).2 → (uP D T U k).1 < (uP D T U (k + 1)).1 ∧ (uP D T U k).2 < (uP D T U (k + 1)).2 := by
    intro k k1 k2
    obtain ⟨_, x1, x2⟩ := uP_ex hD h k
    have a1 := Int.mul_le_mul_of_nonneg_right hT (show 0 ≤ (uP D T U k).1 by omega)
    have a2 := Int.mul_nonneg (Int.mul_nonneg (show 0 ≤ D by omega) (show 0 ≤ U by omega)) k2
    have a3 := Int.mul_le_mul_of_nonneg_right hT k2
    have a4 := Int.mul_le_mul_of_nonneg_right hU (show 0 ≤ (uP D T U k).1 by omega)
    omega
  intro k
  induction k with
  | zero => exact ⟨by simp [uP], by simp [uP], lift 0 (by simp [uP]) (by simp [uP])⟩
  | succ k ih =>
    obtain ⟨i1, i2, i3, i4⟩ := ih
    exact ⟨by omega, by omega, lift (k + 1) (by omega) (by omega)⟩
theorem uP_lt {D T U : Int} (hD : D % 4 = 0 ∨ D % 4 = 1) (h : T * T - D * U * U = 4) (hD0 : 0 < D) (hT : 3 ≤ T) (hU : 1 ≤ U) {i : Nat} : ∀ {j : Nat}, i < j → (uP D T U i).1 < (uP D T U j).1 ∧ (uP D T U i).2 < (uP D T U j).2 := by
  intro j hij
  obtain ⟨d, rfl⟩ := Nat.le.dest hij
  induction d with
  | zero => have := uP_mono hD h hD0 hT hU i; exact ⟨this.2.2.1, this.2.2.2⟩
  | succ d ih =>
    have := uP_mono hD h hD0 hT hU (i.succ + d)
    have ih := ih (by omega)
    have e : i.succ + (d + 1) = i.succ + d + 1 := rfl
    rw [e]
    omega
theorem uP_one {D T U : Int} : (uP D T U 1).1 = T ∧ (uP D T U 1).2 = U := by
  constructor
  · show (T * 2 + D * U * 0) / 2 = T; omega
  · show (T * 0 + U * 2) / 2 = U; omega
theorem Fund.le {D T U : Int} (F : Fund D T U) (hD : D % 4 = 0 ∨ D % 4 = 1) (hD0 : 0 < D) {t u : Int} (h : t * t - D * u * u = 4) (hu : u ≠ 0) : U ≤ u.natAbs := by
  obtain ⟨k, k1, k2⟩ := F.all t u h
  rcases Nat.eq_zero_or_pos k with z | z
  · subst z
    simp only [uP] at k2
    omega
  · rcases (show k = 1 ∨ 1 < k by omega) with y | y
    · subst y; rw [k2, uP_one.2]; exact Int.le_refl _
    · have := (uP_lt hD F.n hD0 F.T3 F.U1 y).2
      rw [uP_one.2] at this
      omega
theorem nat_mul_eq_one_form {f : Fm} {m : Mt} (h : (f.turn m).a = 1) : ∃ x y z, f.a * x + f.b * y + f.c * z = 1 := by
  refine ⟨m.p * m.p, m.p * m.r, m.r * m.r, ?_⟩
  rw [← h]
  simp only [Fm.turn, Fm.at]; grind
/-- the matrix once round tells the least unit -/
theorem fund_of {f : Fm} {r t u : Int} {n : Nat} (h : f.RedM) (hr : Rt2 f.disc r) (hn : NSq f.disc) (hD : f.disc % 4 = 0 ∨ f.disc % 4 = 1) (n1 : 1 ≤ n) (hp : gs r n f = f) (hm : ∀ j : Nat, 1 ≤ j → j < n → gs r j f ≠ f) (ha : IsAu f (gW r n f) t u) :
    Fund f.disc t.natAbs u.natAbs ∧ t * t - f.disc * u * u = 4 := by
  have a0 := disc_a0 hn
  have D0 := nsq_pos hr hn
  have en := gs_even h hr hn hp
  obtain ⟨i, rfl⟩ : ∃ i, n = 2 * i := ⟨n / 2, by omega⟩
  have det := gW_det r (2 * i) f
  have norm : t * t - f.disc * u * u = 4 := by
    have e : 4 * (gW r (2 * i) f).det = ((gW r (2 * i) f).p + (gW r (2 * i) f).s) * ((gW r (2 * i) f).p + (gW r (2 * i) f).s) - ((gW r (2 * i) f).s - (gW r (2 * i) f).p) * ((gW r (2 * i) f).s - (gW r (2 * i) f).p) - 4 * ((gW r (2 * i) f).q * (gW r (2 * i) f).r) := by simp only [Mt.det]; grind
    rw [det, ha.t, ha.b, ha.q, ha.r] at e
    have e2 : t * t - f.b * u * (f.b * u) - 4 * (-(f.c * u) * (f.a * u)) = t * t - f.disc * u * u := by simp only [Fm.disc]; grind
    omega
  have u0 : u ≠ 0 := by
    intro z
    subst z
    refine gW_ne (i := i) h hr hn (by omega) ?_
    have tt : t * t = 2 * 2 := by omega
    have h1 := ha.t
    have h2 := ha.b
    have h3 := ha.q
    have h4 := ha.r
    have : t = 2 ∨ t = -2 := by
      rcases (show 0 ≤ t ∨ t < 0 by omega) with y | y
      · exact .inl (sq_inj y (by omega) tt)
      · right
        have := sq_inj (x := -t) (y := 2) (by omega) (by omega) (by rw [← tt]; grind)
        omega
    rcases this with y | y
    · left; ext <;> simp only [Mt.one] <;> omega
    · right; ext <;> simp only [Mt.one, Mt.neg] <;> omega
  have un : ((t.natAbs : Int)) * t.natAbs - f.disc * u.natAbs * u.natAbs = 4 := by
    have e1 : (t.natAbs : Int) * t.natAbs = t * t := Int.natAbs_mul_self' t
    have e2 : (u.natAbs : Int) * u.natAbs = u * u := Int.natAbs_mul_self' u
    have e3 : f.disc * u.natAbs * u.natAbs = f.disc * (u.natAbs * u.natAbs) := by grind
    rw [e3, e1, e2, ← norm]; grind
  have T3 : (3 : Int) ≤ t.natAbs := by
    apply Int.not_lt.1
    intro z
    have h1 := Int.mul_le_mul (show (t.natAbs : Int) ≤ 2 by omega) (show (t.natAbs : Int) ≤ 2 by omega) (by omega) (by omega)
    have h2 := Int.mul_pos (Int.mul_pos D0 (show (0 : Int) < u.natAbs by omega)) (show (0 : Int) < u.natAbs by omega)
    omega
  refine ⟨⟨T3, by omega, un, ?_⟩, norm⟩
  intro t' u' hu'
  obtain ⟨m, hm'⟩ := au_ex hu'
  obtain ⟨s1, s2⟩ := self_of_au hm' hu'
  obtain ⟨j, j1, j2⟩ := self_eq h hr hn s2 s1
  obtain ⟨k, hk⟩ := gs_div h hr hn n1 hp hm j1
  rw [hk, gW_pw hp] at j2
  have pk := (pw_au ha norm a0 k).1
  have sg := uP_sign (D := f.disc) (T := t.natAbs) (U := u.natAbs) t u (by omega) (by omega) (fun k => (uP_ex hD un k).2) k
  have mono := uP_mono hD un D0 T3 (by omega) k
  refine ⟨k, ?_⟩
  have fin : ∀ {a b : Int}, IsAu f m a b → t' = a ∧ u' = b := fun g => au_uniq hm' g a0
  rcases j2 with (j2 | j2) | (j2 | j2)
  · rw [← j2] at pk
    have := fin pk
    omega
  · have q := au_neg pk
    rw [← j2] at q
    have := fin q
    omega
  · have q := au_inv pk
    rw [← j2, inv_inv] at q
    have := fin q
    omega
  · have q := au_inv (au_neg pk)
    rw [← j2, inv_inv] at q
    have := fin q
    omega
/-- all that keep a form -/
theorem selfs_of {f : Fm} {r : Int} {n : Nat} {m : Mt} (h : f.RedM) (hr : Rt2 f.disc r) (hn : NSq f.disc) (n1 : 1 ≤ n) (hp : gs r n f = f) (hm : ∀ j : Nat, 1 ≤ j → j < n → gs r j f ≠ f) (hd : m.det = 1) (k : f.turn m = f) :
    ∃ k, PmEq m ((gW r n f).pw k) ∨ PmEq m.inv ((gW r n f).pw k) := by
  obtain ⟨j, j1, j2⟩ := self_eq h hr hn hd k
  obtain ⟨k, hk⟩ := gs_div h hr hn n1 hp hm j1
  rw [hk, gW_pw hp] at j2
  exact ⟨k, j2⟩
end M

set_option Elab.async false
set_option linter.all false
set_option maxRecDepth 100000
set_option maxHeartbeats 4000000
namespace M
/-! ### all that keep a positive form -/
def Fm.scl (c : Int) (f : Fm) : Fm := ⟨c * f.a, c * f.b, c * f.c⟩
theorem Fm.scl_turn (c : Int) (f : Fm) (m : Mt) : (f.scl c).turn m = (f.turn m).scl c := by ext <;> simp only [Fm.turn, Fm.at, Fm.scl] <;> grind
theorem Fm.scl_disc (c : Int) (f : Fm) : (f.scl c).disc = c * c * f.disc := by simp only [Fm.disc, Fm.scl]; grind
theorem Fm.scl_inj {c : Int} (hc : c ≠ 0) {f g : Fm} (h : f.scl c = g.scl c) : f = g := by
  have e := h
  simp only [Fm.scl, Fm.mk.injEq] at e
  have k : ∀ {x y : Int}, c * x = c * y → x = y := fun {x y} h => Int.eq_of_mul_eq_mul_left hc h
  exact Fm.ext (k e.1) (k e.2.1) (k e.2.2)
theorem Fm.scl_self {c : Int} (hc : c ≠ 0) (f : Fm) (m : Mt) : (f.scl c).turn m = f.scl c ↔ f.turn m = f := by
  rw [Fm.scl_turn]
  exact ⟨fun h => Fm.scl_inj hc h, fun h => by rw [h]⟩
/-- the rows that the program takes for a plain reduced form -/
def selL (p : Fm) : List Mt := [⟨-1, 0, 0, -1⟩, ⟨1, 0, 0, 1⟩] ++ (if p = ⟨1, 0, 1⟩ then [⟨0, -1, 1, 0⟩, ⟨0, 1, -1, 0⟩] else []) ++ (if p = ⟨1, 1, 1⟩ then [⟨-1, -1, 1, 0⟩, ⟨0, -1, 1, 1⟩, ⟨0, 1, -1, -1⟩, ⟨1, 1, -1, 0⟩] else [])
theorem selL_nodup (p : Fm) : (selL p).Nodup := by
  unfold selL
  by_cases h1 : p = ⟨1, 0, 1⟩
  · subst h1; decide
  · by_cases h2 : p = ⟨1, 1, 1⟩
    · subst h2; decide
    · rw [if_neg h1, if_neg h2]; decide
theorem red34 {p : Fm} (h : p.Red) (hd : p.disc = -3 ∨ p.disc = -4) : p = ⟨1, 0, 1⟩ ∨ p = ⟨1, 1, 1⟩ := by
  have b1 := h.b1; have b2 := h.b2; have ac := h.ac; have ps := h.pos
  have e : p.disc = p.b * p.b - 4 * (p.a * p.c) := by simp only [Fm.disc]; grind
  have h1 := Int.mul_le_mul_of_nonneg_left ac (show 0 ≤ p.a by omega)
  have h2 : p.b * p.b ≤ p.a * p.a := by
    have := Int.mul_nonneg (show 0 ≤ p.a - p.b by omega) (show 0 ≤ p.a + p.b by omega)
    have e : (p.a - p.b) * (p.a + p.b) = p.a * p.a - p.b * p.b := by grind
    omega
  have a1 : p.a = 1 := by
    have : p.a < 2 := by
      apply Int.not_le.1
      intro z
      have := Int.mul_le_mul z z (by omega) (by omega)
      omega
    omega
  rw [a1] at e h1 h2 b1 b2
  have c1 := (show 0 ≤ p.b * p.b from sq_nonneg _)
  have hc : p.c = 1 := by omega
  rw [hc] at e
  rcases (show p.b = 0 ∨ p.b = 1 by omega) with z | z
  · left; exact Fm.ext a1 z hc
  · right; exact Fm.ext a1 z hc
theorem selL_mem {p : Fm} (h : p.Red) {x y z : Int} (hp : p.a * x + p.b * y + p.c * z = 1) (hd : p.disc < 0) (m : Mt) : m ∈ selL p ↔ m.det = 1 ∧ p.turn m = p := by
  have a0 : p.a ≠ 0 := by have := h.pos; omega
  constructor
  · intro hm
    have one : ∀ {m : Mt}, m = ⟨-1, 0, 0, -1⟩ ∨ m = ⟨1, 0, 0, 1⟩ → m.det = 1 ∧ p.turn m = p := by
      intro m hm
      rcases hm with rfl | rfl
      · refine ⟨by decide, ?_⟩
        ext <;> simp only [Fm.turn, Fm.at] <;> grind
      · refine ⟨by decide, ?_⟩
        ext <;> simp only [Fm.turn, Fm.at] <;> grind
    unfold selL at hm
    by_cases h1 : p = ⟨1, 0, 1⟩
    · rw [if_pos h1, if_neg (by rw [h1]; decide)] at hm
      simp at hm
      rcases hm with k | k | k | k
      · exact one (.inl k)
      · exact one (.inr k)
      · subst k; subst h1; decide
      · subst k; subst h1; decide
    · by_cases h2 : p = ⟨1, 1, 1⟩
      · rw [if_neg h1, if_pos h2] at hm
        simp at hm
        rcases hm with k | k | k | k | k | k
        · exact one (.inl k)
        · exact one (.inr k)
        · subst k; subst h2; decide
        · subst k; subst h2; decide
        · subst k; subst h2; decide
        · subst k; subst h2; decide
      · rw [if_neg h1, if_neg h2] at hm
        simp at hm
        exact one hm
  · intro ⟨hdet, hs⟩
    obtain ⟨t, u, au, tu⟩ := au_of_self hs hdet a0 hp
    have p4 : p.disc % 4 = 0 ∨ p.disc % 4 = 1 := by
      have e : p.disc = p.b * p.b - 4 * (p.a * p.c) := by simp only [Fm.disc]; grind
      have : p.b * p.b % 4 = 0 ∨ p.b * p.b % 4 = 1 := by
        rcases Int.emod_two_eq p.b with z | z
        · obtain ⟨k, hk⟩ : ∃ k, p.b = 2 * k := ⟨p.b / 2, by omega⟩
          have : p.b * p.b = 4 * (k * k) := by rw [hk]; grind
          omega
        · obtain ⟨k, hk⟩ : ∃ k, p.b = 2 * k + 1 := ⟨p.b / 2, by omega⟩
          have : p.b * p.b = 4 * (k * k + k) + 1 := by rw [hk]; grind
          omega
      omega
    have d3 : p.disc ≤ -3 := by omega
    have tt := sq_nonneg t
    have a1 := au.t; have a2 := au.b; have a3 := au.q; have a4 := au.r
    have eu : t * t + -p.disc * (u * u) = 4 := by rw [← tu]; grind
    have tb : ∀ {n : Int}, t * t = n * n → 0 ≤ n → t = n ∨ t = -n := by
      intro n h h0
      rcases (show 0 ≤ t ∨ t < 0 by omega) with y | y
      · exact .inl (sq_inj y h0 h)
      · right
        have := sq_inj (x := -t) (y := n) (by omega) h0 (by rw [← h]; grind)
        omega
    by_cases u0 : u = 0
    · subst u0
      have : t = 2 ∨ t = -2 := tb (by omega) (by omega)
      unfold selL
      rw [List.mem_append, List.mem_append]
      refine .inl (.inl ?_)
      rcases this with z | z
      · have : m = ⟨1, 0, 0, 1⟩ := by ext <;> simp only <;> omega
        rw [this]; simp
      · have : m = ⟨-1, 0, 0, -1⟩ := by ext <;> simp only <;> omega
        rw [this]; simp
    · have uu : 1 ≤ u * u := by
        have := Int.mul_pos (show (0 : Int) < u.natAbs by omega) (show (0 : Int) < u.natAbs by omega)
        rw [Int.natAbs_mul_self'] at this
        omega
      have k1 := Int.mul_le_mul_of_nonneg_left uu (show 0 ≤ -p.disc by omega)
      have k2 := Int.mul_le_mul_of_nonneg_right (show 3 ≤ -p.disc by omega) (show 0 ≤ u * u by omega)
      have u1 : u * u = 1 := by omega
      rw [u1] at eu
      have us : u = 1 ∨ u = -1 := by
        rcases (show 0 ≤ u ∨ u < 0 by omega) with y | y
        · exact .inl (sq_inj y (by omega) (by omega))
        · right
          have := sq_inj (x := -u) (y := 1) (by omega) (by omega) (by rw [show -u * -u = u * u by grind, u1]; rfl)
          omega
      have dd : p.disc = -3 ∨ p.disc = -4 := by omega
      rcases red34 h dd with z | z
      · subst z
        have e4 : (Fm.mk 1 0 1).disc = -4 := by decide
        rw [e4] at eu
        have t0 : t = 0 := by
          rcases tb (n := 0) (by omega) (by omega) with y | y <;> omega
        simp only at a1 a2 a3 a4
        rcases us with y | y
        · have : m = ⟨0, -1, 1, 0⟩ := by ext <;> simp only <;> omega
          rw [this]; decide
        · have : m = ⟨0, 1, -1, 0⟩ := by ext <;> simp only <;> omega
          rw [this]; decide
      · subst z
        have e4 : (Fm.mk 1 1 1).disc = -3 := by decide
        rw [e4] at eu
        have t1 := tb (n := 1) (by omega) (by omega)
        simp only at a1 a2 a3 a4
        rcases us with y | y <;> rcases t1 with x | x
        · have : m = ⟨0, -1, 1, 1⟩ := by ext <;> simp only <;> omega
          rw [this]; decide
        · have : m = ⟨-1, -1, 1, 0⟩ := by ext <;> simp only <;> omega
          rw [this]; decide
        · have : m = ⟨1, 1, -1, 0⟩ := by ext <;> simp only <;> omega
          rw [this]; decide
        · have : m = ⟨0, 1, -1, -1⟩ := by ext <;> simp only <;> omega
          rw [this]; decide
/-- carried over to another form of the class -/
theorem conj_mem {f : Fm} {T : Mt} (hT : T.det = 1) {L : List Mt} (hL : ∀ m, m ∈ L ↔ m.det = 1 ∧ (f.turn T).turn m = f.turn T) (m : Mt) : m ∈ L.map (fun k => (T.mul k).mul T.inv) ↔ m.det = 1 ∧ f.turn m = f := by
  have iT : T.inv.det = 1 := by rw [← hT]; simp only [Mt.inv, Mt.det]; grind
  rw [List.mem_map]
  constructor
  · intro ⟨k, hk, e⟩
    obtain ⟨k1, k2⟩ := (hL k).1 hk
    subst e
    refine ⟨by rw [Mt.det_mul, Mt.det_mul, hT, k1, iT]; rfl, ?_⟩
    rw [← Fm.turn_mul, ← Fm.turn_mul, k2, Fm.turn_back f hT]
  · intro ⟨h1, h2⟩
    refine ⟨(T.inv.mul m).mul T, (hL _).2 ⟨by rw [Mt.det_mul, Mt.det_mul, hT, h1, iT]; rfl, ?_⟩, ?_⟩
    · rw [← Fm.turn_mul, ← Fm.turn_mul, Fm.turn_back f hT, h2]
    · rw [Mt.mul_assoc, Mt.mul_assoc, Mt.mul_inv hT, Mt.mul_one, ← Mt.mul_assoc, Mt.mul_inv hT, Mt.one_mul]
theorem conj_inj {T : Mt} (hT : T.det = 1) {k l : Mt} (h : (T.mul k).mul T.inv = (T.mul l).mul T.inv) : k = l := by
  have inv_mul : T.inv.mul T = Mt.one := by
    have iT : T.inv.det = 1 := by rw [← hT]; simp only [Mt.inv, Mt.det]; grind
    have := Mt.mul_inv iT
    rwa [inv_inv] at this
  have key : ∀ k : Mt, (T.inv.mul ((T.mul k).mul T.inv)).mul T = k := fun k => by
    rw [Mt.mul_assoc T k, ← Mt.mul_assoc T.inv, inv_mul, Mt.one_mul, Mt.mul_assoc, inv_mul, Mt.mul_one]
  rw [← key k, h, key]
theorem conj_nodup {T : Mt} (hT : T.det = 1) {L : List Mt} (h : L.Nodup) : (L.map fun k => (T.mul k).mul T.inv).Nodup := by
  unfold List.Nodup
  rw [List.pairwise_map]
  exact h.imp fun {a b} hab e => hab (conj_inj hT e)
end M

set_option Elab.async false
set_option linter.all false
set_option maxRecDepth 100000
set_option maxHeartbeats 4000000
namespace M
/-! ### lattices of pairs -/
structure Lat (L : Int → Int → Prop) : Prop where
  z : L 0 0
  sub : ∀ {p q r s}, L p q → L r s → L (p - r) (q - s)
theorem Lat.neg {L : Int → Int → Prop} (h : Lat L) {p q : Int} (h1 : L p q) : L (-p) (-q) := by
  have := h.sub h.z h1
  rwa [Int.zero_sub, Int.zero_sub] at this
theorem Lat.add {L : Int → Int → Prop} (h : Lat L) {p q r s : Int} (h1 : L p q) (h2 : L r s) : L (p + r) (q + s) := by
  have := h.sub h1 (h.neg h2)
  rwa [Int.sub_neg, Int.sub_neg] at this
theorem Lat.nmul {L : Int → Int → Prop} (h : Lat L) {p q : Int} (h1 : L p q) : ∀ n : Nat, L (n * p) (n * q)
  | 0 => by simpa using h.z
  | n + 1 => by
    have := h.add (h.nmul h1 n) h1
    have e : ∀ x : Int, ((n + 1 : Nat) : Int) * x = n * x + x := by intro x; rw [Int.natCast_add]; grind
    rw [e, e]
    exact this
theorem Lat.mul {L : Int → Int → Prop} (h : Lat L) {p q : Int} (h1 : L p q) (n : Int) : L (n * p) (n * q) := by
  rcases Int.eq_nat_or_neg n with ⟨k, rfl | rfl⟩
  · exact h.nmul h1 k
  · have := h.neg (h.nmul h1 k)
    rwa [Int.neg_mul, Int.neg_mul]
theorem Lat.lin {L : Int → Int → Prop} (h : Lat L) {p q r s : Int} (h1 : L p q) (h2 : L r s) (m n : Int) : L (m * p + n * r) (m * q + n * s) := h.add (h.mul h1 m) (h.mul h2 n)
/-- one step of the reduction of rows -/
theorem red_step {L : Int → Int → Prop} (h : Lat L) {X Y r s g u v : Int} (hg : g ≠ 0) (e : Y * u + s * v = g) (d1 : g ∣ Y) (d2 : g ∣ s) :
    (L X Y ∧ L r s) ↔ (L (u * X + v * r) g ∧ L (X - Y / g * (u * X + v * r)) 0 ∧ L (r - s / g * (u * X + v * r)) 0) := by
  have e1 : Y / g * g = Y := Int.ediv_mul_cancel d1
  have e2 : s / g * g = s := Int.ediv_mul_cancel d2
  have eg : u * Y + v * s = g := by rw [← e, Int.mul_comm u, Int.mul_comm v]
  constructor
  · rintro ⟨h1, h2⟩
    have hf := h.lin h1 h2 u v
    rw [eg] at hf
    refine ⟨hf, ?_, ?_⟩
    · have := h.sub h1 (h.mul hf (Y / g))
      rwa [e1, Int.sub_self] at this
    · have := h.sub h2 (h.mul hf (s / g))
      rwa [e2, Int.sub_self] at this
  · rintro ⟨hf, h1, h2⟩
    constructor
    · have := h.add h1 (h.mul hf (Y / g))
      rwa [e1, Int.zero_add, Int.sub_add_cancel] at this
    · have := h.add h2 (h.mul hf (s / g))
      rwa [e2, Int.zero_add, Int.sub_add_cancel] at this
theorem gcd_flat {L : Int → Int → Prop} (h : Lat L) {a b g u v : Int} (e : a * u + b * v = g) (d1 : g ∣ a) (d2 : g ∣ b) : (L a 0 ∧ L b 0) ↔ L g 0 := by
  constructor
  · rintro ⟨h1, h2⟩
    have := h.lin h1 h2 u v
    rwa [Int.mul_zero, Int.mul_zero, Int.add_zero, Int.mul_comm u, Int.mul_comm v, e] at this
  · intro hg
    obtain ⟨c, rfl⟩ := d1
    obtain ⟨d, rfl⟩ := d2
    have h1 := h.mul hg c
    have h2 := h.mul hg d
    rw [Int.mul_zero] at h1 h2
    exact ⟨by rwa [Int.mul_comm], by rwa [Int.mul_comm]⟩
/-- closed under the generator w, w w = s w + t -/
def Om (s t : Int) (L : Int → Int → Prop) : Prop := ∀ p q, L p q → L (t * q) (p + s * q)
structure Rg where
  s : Int
  t : Int
abbrev El := Int × Int
def Rg.mul (R : Rg) (u v : El) : El := (u.1 * v.1 + R.t * u.2 * v.2, u.1 * v.2 + u.2 * v.1 + R.s * u.2 * v.2)
theorem Rg.comm (R : Rg) (u v : El) : R.mul u v = R.mul v u := by
  simp only [Rg.mul, Prod.mk.injEq]
  constructor <;> grind
theorem Rg.assoc (R : Rg) (u v w : El) : R.mul (R.mul u v) w = R.mul u (R.mul v w) := by
  simp only [Rg.mul, Prod.mk.injEq]
  constructor <;> grind
structure Id3 where
  k : Int
  a : Int
  β : Int
/-- the members of (k, a, β) -/
def Id3.has (I : Id3) (p q : Int) : Prop := I.k ∣ q ∧ I.k * I.a ∣ p - I.β * q
structure Id3.Ok (R : Rg) (I : Id3) : Prop where
  k : 0 < I.k
  a : 0 < I.a
  d : I.a ∣ I.β * I.β + R.s * I.β - R.t
theorem Id3.lat (I : Id3) : Lat I.has := by
  refine ⟨⟨Int.dvd_zero _, by simp⟩, fun {p q r s} h1 h2 => ⟨Int.dvd_sub h1.1 h2.1, ?_⟩⟩
  have := Int.dvd_sub h1.2 h2.2
  have e : p - r - I.β * (q - s) = p - I.β * q - (r - I.β * s) := by grind
  rw [e]
  exact this
theorem Id3.gen1 (I : Id3) : I.has (I.k * I.a) 0 := ⟨Int.dvd_zero _, by simp⟩
theorem Id3.gen2 (I : Id3) : I.has (I.k * I.β) I.k := ⟨Int.dvd_refl _, by rw [Int.mul_comm I.β, Int.sub_self]; exact Int.dvd_zero _⟩
theorem Id3.om {R : Rg} {I : Id3} (h : I.Ok R) : Om R.s R.t I.has := by
  rintro p q ⟨⟨n, hn⟩, ⟨m, hm⟩⟩
  obtain ⟨c, hc⟩ := h.d
  have ep : p = I.β * q + I.k * I.a * m := by omega
  refine ⟨⟨I.β * n + I.a * m + R.s * n, by rw [ep, hn]; grind⟩, ⟨-(I.β * m) - R.s * 0 - n * c, ?_⟩⟩
  rw [ep, hn]
  have : R.t * (I.k * n) - I.β * (I.β * (I.k * n) + I.k * I.a * m + R.s * (I.k * n)) = -(I.k * n * (I.β * I.β + R.s * I.β - R.t)) - I.k * I.a * (I.β * m) := by grind
  rw [this, hc]
  grind
/-- the least lattice that has the generators -/
theorem Id3.least {I : Id3} {L : Int → Int → Prop} (h : Lat L) (h1 : L (I.k * I.a) 0) (h2 : L (I.k * I.β) I.k) {p q : Int} (hp : I.has p q) : L p q := by
  obtain ⟨⟨n, hn⟩, ⟨m, hm⟩⟩ := hp
  have := h.lin h1 h2 m n
  have e1 : m * (I.k * I.a) + n * (I.k * I.β) = p := by
    have ep : p = I.β * q + I.k * I.a * m := by omega
    rw [ep, hn]; grind
  have e2 : m * 0 + n * I.k = q := by rw [hn]; grind
  rwa [e1, e2] at this
theorem Id3.same {R : Rg} {I J : Id3} (hI : I.Ok R) (hJ : J.Ok R) (h1 : ∀ p q, I.has p q → J.has p q) (h2 : ∀ p q, J.has p q → I.has p q) : I.k = J.k ∧ I.a = J.a ∧ I.a ∣ I.β - J.β := by
  have k1 := (h1 _ _ I.gen2).1
  have k2 := (h2 _ _ J.gen2).1
  have ek : I.k = J.k := Int.dvd_antisymm (Int.le_of_lt hI.k) (Int.le_of_lt hJ.k) k2 k1
  have a1 := (h1 _ _ I.gen1).2
  have a2 := (h2 _ _ J.gen1).2
  rw [Int.mul_zero, Int.sub_zero] at a1 a2
  have ea : I.k * I.a = J.k * J.a := Int.dvd_antisymm (Int.le_of_lt (Int.mul_pos hI.k hI.a)) (Int.le_of_lt (Int.mul_pos hJ.k hJ.a)) a2 a1
  have ea2 : I.a = J.a := by rw [ek] at ea; exact Int.eq_of_mul_eq_mul_left (by have := hJ.k; omega) ea
  refine ⟨ek, ea2, ?_⟩
  have b := (h1 _ _ I.gen2).2
  rw [← ek, ← ea2] at b
  have e : I.k * I.β - J.β * I.k = I.k * (I.β - J.β) := by grind
  rw [e] at b
  exact Int.dvd_of_mul_dvd_mul_left (by have := hI.k; omega) b
def Id3.nm (I : Id3) : Int := I.k * I.k * I.a
/-- the wedge of two members is a multiple of the norm -/
theorem Id3.wedge {I : Id3} {p q r s : Int} (h1 : I.has p q) (h2 : I.has r s) : I.nm ∣ p * s - r * q := by
  obtain ⟨⟨n, hn⟩, ⟨m, hm⟩⟩ := h1
  obtain ⟨⟨n2, hn2⟩, ⟨m2, hm2⟩⟩ := h2
  have ep : p = I.β * q + I.k * I.a * m := by omega
  have er : r = I.β * s + I.k * I.a * m2 := by omega
  refine ⟨m * n2 - m2 * n, ?_⟩
  rw [ep, er, hn, hn2]
  unfold Id3.nm
  grind
theorem Id3.sub_nm {I J : Id3} (h : ∀ p q, I.has p q → J.has p q) : J.nm ∣ I.nm := by
  have := J.wedge (h _ _ I.gen1) (h _ _ I.gen2)
  have e : I.k * I.a * I.k - I.k * I.β * 0 = I.nm := by unfold Id3.nm; grind
  rwa [e] at this
theorem Id3.nm_pos {R : Rg} {I : Id3} (h : I.Ok R) : 0 < I.nm := Int.mul_pos (Int.mul_pos h.k h.k) h.a
theorem Id3.sub_eq {R : Rg} {I J : Id3} (hI : I.Ok R) (hJ : J.Ok R) (h : ∀ p q, I.has p q → J.has p q) (e : I.nm = J.nm) : ∀ p q, J.has p q → I.has p q := by
  have k1 := (h _ _ I.gen2).1
  have a1 := (h _ _ I.gen1).2
  rw [Int.mul_zero, Int.sub_zero] at a1
  obtain ⟨c, hc⟩ := k1
  obtain ⟨d, hd⟩ := a1
  have kp := hI.k
  have jp := hJ.k
  have Ap := Int.mul_pos hI.k hI.a
  have Bp := Int.mul_pos hJ.k hJ.a
  have cp : 0 < c := by
    rcases (show c ≤ 0 ∨ 0 < c by omega) with z | z
    · have := Int.mul_nonpos_of_nonneg_of_nonpos (Int.le_of_lt jp) z; omega
    · exact z
  have dp : 0 < d := by
    rcases (show d ≤ 0 ∨ 0 < d by omega) with z | z
    · have := Int.mul_nonpos_of_nonneg_of_nonpos (Int.le_of_lt Bp) z; omega
    · exact z
  have e3 : I.nm = J.nm * (c * d) := by
    have : I.nm = I.k * (I.k * I.a) := by unfold Id3.nm; grind
    rw [this, hd, hc]
    unfold Id3.nm
    grind
  have e2 : J.nm * (c * d) = J.nm * 1 := by rw [← e3, e, Int.mul_one]
  have cd := Int.eq_of_mul_eq_mul_left (by have := Id3.nm_pos hJ; omega) e2
  have c1 : c = 1 := Int.le_antisymm (by
    have := Int.mul_le_mul_of_nonneg_left (show 1 ≤ d by omega) (Int.le_of_lt cp); omega) cp
  have d1 : d = 1 := by rw [c1, Int.one_mul] at cd; exact cd
  rw [c1, Int.mul_one] at hc
  rw [d1, Int.mul_one] at hd
  intro p q hp
  refine Id3.least I.lat ?_ ?_ hp
  · rw [← hd]; exact I.gen1
  · have g := (h _ _ I.gen2).2
    refine ⟨by rw [hc]; exact Int.dvd_refl _, ?_⟩
    rw [hd, ← hc]
    rw [← hc] at g
    have g' : J.k * J.a ∣ I.k * I.β - J.β * I.k := by rw [← hc] at *; exact g
    have := Int.dvd_neg.2 g'
    rw [← hc] at this
    have e3 : -(I.k * I.β - J.β * I.k) = I.k * J.β - I.β * I.k := by grind
    rwa [e3] at this
end M

set_option Elab.async false
set_option linter.all false
set_option maxRecDepth 100000
set_option maxHeartbeats 4000000
namespace M
/-! ### spans -/
def OS (R : Rg) (ms : List El) (p q : Int) : Prop := ∀ L : Int → Int → Prop, Lat L → Om R.s R.t L → (∀ m ∈ ms, L m.1 m.2) → L p q
theorem OS.lat {R : Rg} {ms : List El} : Lat (OS R ms) := ⟨fun L h _ _ => h.z, fun h1 h2 L h o m => h.sub (h1 L h o m) (h2 L h o m)⟩
theorem OS.om {R : Rg} {ms : List El} : Om R.s R.t (OS R ms) := fun p q h1 L h o m => o p q (h1 L h o m)
theorem OS.mem {R : Rg} {ms : List El} {m : El} (h : m ∈ ms) : OS R ms m.1 m.2 := fun L _ _ hm => hm m h
theorem om_mul {R : Rg} {L : Int → Int → Prop} (h : Lat L) (o : Om R.s R.t L) {u : El} (hu : L u.1 u.2) (v : El) : L (R.mul u v).1 (R.mul u v).2 := by
  have := h.lin hu (o _ _ hu) v.1 v.2
  have e1 : v.1 * u.1 + v.2 * (R.t * u.2) = (R.mul u v).1 := by simp only [Rg.mul]; grind
  have e2 : v.1 * u.2 + v.2 * (u.1 + R.s * u.2) = (R.mul u v).2 := by simp only [Rg.mul]; grind
  rwa [e1, e2] at this
/-- the form (C; A, B) of a lattice that is closed under w -/
theorem hnf_of {R : Rg} {L : Int → Int → Prop} (h : Lat L) (o : Om R.s R.t L) {A B C n : Int} (hA : 0 ≤ A) (hC : 0 ≤ C) (hn : n ≠ 0) (ln : L n 0) (gA : L A 0) (gB : L B C)
    (gen : ∀ p q, L p q → ∃ x y, p = x * A + y * B ∧ q = y * C) : 0 < C ∧ 0 < A ∧ C ∣ A ∧ C ∣ B ∧ (Id3.mk C (A / C) (B / C)).Ok R ∧ ∀ p q, (Id3.mk C (A / C) (B / C)).has p q ↔ L p q := by
  have C0 : C ≠ 0 := by
    rintro rfl
    obtain ⟨x, y, _, e⟩ := gen _ _ (o _ _ ln)
    simp at e
    exact hn e
  have Cp : 0 < C := by omega
  have flat : ∀ p, L p 0 → A ∣ p := by
    intro p hp
    obtain ⟨x, y, e1, e2⟩ := gen _ _ hp
    have : y = 0 := (Int.mul_eq_zero.1 e2.symm).resolve_right C0
    exact ⟨x, by rw [e1, this]; grind⟩
  have A0 : A ≠ 0 := by
    rintro rfl
    have := flat n ln
    exact hn (Int.zero_dvd.1 this)
  have Ap : 0 < A := by omega
  have cq : ∀ p q, L p q → C ∣ q := by
    intro p q hp
    obtain ⟨x, y, _, e2⟩ := gen _ _ hp
    exact ⟨y, by rw [e2, Int.mul_comm]⟩
  have CA : C ∣ A := by
    have := cq _ _ (o _ _ gA)
    rwa [Int.mul_zero, Int.add_zero] at this
  obtain ⟨a, ha⟩ := CA
  have CB : C ∣ B := by
    have h1 := o _ _ gA
    rw [Int.mul_zero, Int.mul_zero, Int.add_zero] at h1
    have h2 := h.sub h1 (h.mul gB a)
    have e : A - a * C = 0 := by rw [ha]; grind
    rw [e] at h2
    have h3 := flat _ h2
    rw [ha, Int.zero_sub] at h3
    have h3 := Int.dvd_neg.1 h3
    have a0 : a ≠ 0 := by rintro rfl; simp at ha; exact A0 ha
    rw [Int.mul_comm C a] at h3
    exact Int.dvd_of_mul_dvd_mul_left a0 h3
  obtain ⟨β, hβ⟩ := CB
  have ea : A / C = a := by rw [ha]; exact Int.mul_ediv_cancel_left _ C0
  have eb : B / C = β := by rw [hβ]; exact Int.mul_ediv_cancel_left _ C0
  rw [ea, eb]
  refine ⟨Cp, Ap, ⟨a, ha⟩, ⟨β, hβ⟩, ⟨Cp, ?_, ?_⟩, fun p q => ⟨fun hp => ?_, fun hp => ?_⟩⟩
  · rcases (show a ≤ 0 ∨ 0 < a by omega) with z | z
    · have := Int.mul_nonpos_of_nonneg_of_nonpos (Int.le_of_lt Cp) z; omega
    · exact z
  · have h1 := o _ _ gB
    have h2 := h.sub h1 (h.mul gB (β + R.s))
    have e : B + R.s * C - (β + R.s) * C = 0 := by rw [hβ]; grind
    rw [e] at h2
    have h3 := flat _ h2
    have e2 : R.t * C - (β + R.s) * B = C * -(β * β + R.s * β - R.t) := by rw [hβ]; grind
    rw [e2, ha] at h3
    have h4 := Int.dvd_of_mul_dvd_mul_left C0 h3
    exact Int.dvd_neg.1 h4
  · refine Id3.least h ?_ ?_ hp
    · show L (C * a) 0
      rw [← ha]; exact gA
    · show L (C * β) C
      rw [← hβ]; exact gB
  · obtain ⟨x, y, e1, e2⟩ := gen _ _ hp
    refine ⟨⟨y, by rw [e2, Int.mul_comm]⟩, ⟨x, ?_⟩⟩
    rw [e1, e2, ha, hβ]
    show _ = C * a * x
    simp only
    grind
theorem Id3.shift {I : Id3} {γ : Int} (h : I.a ∣ I.β - γ) (p q : Int) : (Id3.mk I.k I.a γ).has p q ↔ I.has p q := by
  obtain ⟨c, hc⟩ := h
  have key : I.k ∣ q → (I.k * I.a ∣ p - γ * q ↔ I.k * I.a ∣ p - I.β * q) := by
    rintro ⟨n, hn⟩
    have e : p - γ * q = p - I.β * q + I.k * I.a * (c * n) := by
      have : p - γ * q = p - I.β * q + (I.β - γ) * q := by grind
      rw [this, hc, hn]; grind
    rw [e]
    exact ⟨fun z => by have := Int.dvd_sub z (Int.dvd_mul_right (I.k * I.a) (c * n)); rwa [Int.add_sub_cancel] at this, fun z => Int.dvd_add z (Int.dvd_mul_right _ _)⟩
  exact ⟨fun ⟨h1, h2⟩ => ⟨h1, (key h1).1 h2⟩, fun ⟨h1, h2⟩ => ⟨h1, (key h1).2 h2⟩⟩
theorem Id3.shift_ok {R : Rg} {I : Id3} (h : I.Ok R) {γ : Int} (hd : I.a ∣ I.β - γ) : (Id3.mk I.k I.a γ).Ok R := by
  refine ⟨h.k, h.a, ?_⟩
  obtain ⟨c, hc⟩ := hd
  obtain ⟨d, hd⟩ := h.d
  refine ⟨d - c * (I.β + γ + R.s), ?_⟩
  have e : γ * γ + R.s * γ - R.t = (I.β * I.β + R.s * I.β - R.t) - (I.β - γ) * (I.β + γ + R.s) := by grind
  show γ * γ + R.s * γ - R.t = _
  rw [e, hd, hc]
  show _ = I.a * _
  grind
/-! ### products -/
def PZ (R : Rg) (I J : Id3) (p q : Int) : Prop := ∀ L : Int → Int → Prop, Lat L → (∀ u v : El, I.has u.1 u.2 → J.has v.1 v.2 → L (R.mul u v).1 (R.mul u v).2) → L p q
theorem PZ.lat {R : Rg} {I J : Id3} : Lat (PZ R I J) := ⟨fun L h _ => h.z, fun h1 h2 L h m => h.sub (h1 L h m) (h2 L h m)⟩
theorem PZ.mem {R : Rg} {I J : Id3} {u v : El} (hu : I.has u.1 u.2) (hv : J.has v.1 v.2) : PZ R I J (R.mul u v).1 (R.mul u v).2 := fun L _ m => m u v hu hv
theorem om_lat {R : Rg} {L : Int → Int → Prop} (h : Lat L) : Lat fun p q => L (R.t * q) (p + R.s * q) := by
  refine ⟨by simpa using h.z, fun {p q r s} h1 h2 => ?_⟩
  have := h.sub h1 h2
  have e1 : R.t * q - R.t * s = R.t * (q - s) := by grind
  have e2 : p + R.s * q - (r + R.s * s) = p - r + R.s * (q - s) := by grind
  rwa [e1, e2] at this
theorem mul_lat {R : Rg} {L : Int → Int → Prop} (h : Lat L) (v : El) : Lat fun p q => L (R.mul (p, q) v).1 (R.mul (p, q) v).2 := by
  refine ⟨?_, fun {p q r s} h1 h2 => ?_⟩
  · have e1 : (R.mul (0, 0) v).1 = 0 := by simp [Rg.mul]
    have e2 : (R.mul (0, 0) v).2 = 0 := by simp [Rg.mul]
    rw [e1, e2]; exact h.z
  · have := h.sub h1 h2
    have e1 : (R.mul (p, q) v).1 - (R.mul (r, s) v).1 = (R.mul (p - r, q - s) v).1 := by simp only [Rg.mul]; grind
    have e2 : (R.mul (p, q) v).2 - (R.mul (r, s) v).2 = (R.mul (p - r, q - s) v).2 := by simp only [Rg.mul]; grind
    rwa [e1, e2] at this
theorem PZ.om {R : Rg} {I J : Id3} (hI : I.Ok R) : Om R.s R.t (PZ R I J) := by
  intro p q h
  refine h (fun p q => PZ R I J (R.t * q) (p + R.s * q)) (om_lat PZ.lat) fun u v hu hv => ?_
  have hw := Id3.om hI _ _ hu
  have := PZ.mem (R := R) (u := (R.t * u.2, u.1 + R.s * u.2)) hw hv
  have e1 : (R.mul (R.t * u.2, u.1 + R.s * u.2) v).1 = R.t * (R.mul u v).2 := by simp only [Rg.mul]; grind
  have e2 : (R.mul (R.t * u.2, u.1 + R.s * u.2) v).2 = (R.mul u v).1 + R.s * (R.mul u v).2 := by simp only [Rg.mul]; grind
  rwa [e1, e2] at this
theorem PZ.comm {R : Rg} {I J : Id3} {p q : Int} (h : PZ R I J p q) : PZ R J I p q := by
  intro L hL m
  refine h L hL fun u v hu hv => ?_
  rw [Rg.comm]
  exact m v u hv hu
def Id3.e1 (I : Id3) : El := (I.k * I.a, 0)
def Id3.e2 (I : Id3) : El := (I.k * I.β, I.k)
/-- it is enough to look at the four products of the generators -/
theorem PZ.of_gens {R : Rg} {I J : Id3} {L : Int → Int → Prop} (h : Lat L) (h11 : L (R.mul I.e1 J.e1).1 (R.mul I.e1 J.e1).2) (h12 : L (R.mul I.e1 J.e2).1 (R.mul I.e1 J.e2).2) (h21 : L (R.mul I.e2 J.e1).1 (R.mul I.e2 J.e1).2) (h22 : L (R.mul I.e2 J.e2).1 (R.mul I.e2 J.e2).2)
    {p q : Int} (hp : PZ R I J p q) : L p q := by
  refine hp L h fun u v hu hv => ?_
  have s1 : ∀ v : El, J.has v.1 v.2 → L (R.mul I.e1 v).1 (R.mul I.e1 v).2 := by
    intro v hv
    rw [Rg.comm]
    refine Id3.least (I := J) (L := fun p q => L (R.mul (p, q) I.e1).1 (R.mul (p, q) I.e1).2) (mul_lat h _) ?_ ?_ hv
    · show L (R.mul J.e1 I.e1).1 (R.mul J.e1 I.e1).2
      rw [Rg.comm]; exact h11
    · show L (R.mul J.e2 I.e1).1 (R.mul J.e2 I.e1).2
      rw [Rg.comm]; exact h12
  have s2 : ∀ v : El, J.has v.1 v.2 → L (R.mul I.e2 v).1 (R.mul I.e2 v).2 := by
    intro v hv
    rw [Rg.comm]
    refine Id3.least (I := J) (L := fun p q => L (R.mul (p, q) I.e2).1 (R.mul (p, q) I.e2).2) (mul_lat h _) ?_ ?_ hv
    · show L (R.mul J.e1 I.e2).1 (R.mul J.e1 I.e2).2
      rw [Rg.comm]; exact h21
    · show L (R.mul J.e2 I.e2).1 (R.mul J.e2 I.e2).2
      rw [Rg.comm]; exact h22
  exact Id3.least (I := I) (L := fun p q => L (R.mul (p, q) v).1 (R.mul (p, q) v).2) (mul_lat h v) (s1 v hv) (s2 v hv) hu
theorem Id3.has_e1 (I : Id3) : I.has I.e1.1 I.e1.2 := I.gen1
theorem Id3.has_e2 (I : Id3) : I.has I.e2.1 I.e2.2 := I.gen2
theorem PZ.within {R : Rg} {I J : Id3} (hI : I.Ok R) {p q : Int} (h : PZ R I J p q) : I.has p q :=
  h I.has I.lat fun u v hu _ => om_mul I.lat (Id3.om hI) hu v
theorem PZ.os {R : Rg} {I J : Id3} (hI : I.Ok R) (p q : Int) : OS R [R.mul I.e1 J.e1, R.mul I.e1 J.e2, R.mul I.e2 J.e1, R.mul I.e2 J.e2] p q ↔ PZ R I J p q := by
  constructor
  · intro h
    refine h _ PZ.lat (PZ.om hI) fun m hm => ?_
    simp only [List.mem_cons, List.not_mem_nil, or_false] at hm
    rcases hm with rfl | rfl | rfl | rfl
    · exact PZ.mem I.has_e1 J.has_e1
    · exact PZ.mem I.has_e1 J.has_e2
    · exact PZ.mem I.has_e2 J.has_e1
    · exact PZ.mem I.has_e2 J.has_e2
  · intro h
    exact PZ.of_gens OS.lat (OS.mem (by simp)) (OS.mem (by simp)) (OS.mem (by simp)) (OS.mem (by simp)) h
end M

set_option Elab.async false
set_option linter.all false
set_option maxRecDepth 100000
set_option maxHeartbeats 4000000
namespace M
theorem bez_nat (m n : Nat) : ∃ x y : Int, m * x + n * y = Nat.gcd m n := by
  induction m, n using Nat.gcd.induction with
  | H0 n => exact ⟨0, 1, by simp⟩
  | H1 m n h ih =>
    obtain ⟨x, y, e⟩ := ih
    rw [Nat.gcd_rec, ← e]
    refine ⟨y - (n / m : Nat) * x, x, ?_⟩
    have : (n : Int) = m * (n / m : Nat) + (n % m : Nat) := by
      rw [← Int.natCast_mul, ← Int.natCast_add, Nat.div_add_mod]
    generalize ((n / m : Nat) : Int) = a at *
    generalize ((n % m : Nat) : Int) = b at *
    rw [this]; grind
theorem bez (a b : Int) : ∃ x y : Int, a * x + b * y = Int.gcd a b := by
  obtain ⟨x, y, e⟩ := bez_nat a.natAbs b.natAbs
  have s : ∀ z : Int, ∃ t : Int, (z.natAbs : Int) = z * t := by
    intro z
    rcases Int.natAbs_eq z with h | h
    · exact ⟨1, by omega⟩
    · exact ⟨-1, by omega⟩
  obtain ⟨t, ht⟩ := s a
  obtain ⟨u, hu⟩ := s b
  refine ⟨t * x, u * y, ?_⟩
  show _ = ((Nat.gcd a.natAbs b.natAbs : Nat) : Int)
  rw [← e, ht, hu]; grind
def Id3.cj (R : Rg) (I : Id3) : Id3 := ⟨I.k, I.a, -(I.β + R.s)⟩
theorem Id3.cj_ok {R : Rg} {I : Id3} (h : I.Ok R) : (I.cj R).Ok R := by
  refine ⟨h.k, h.a, ?_⟩
  have e : -(I.β + R.s) * -(I.β + R.s) + R.s * -(I.β + R.s) - R.t = I.β * I.β + R.s * I.β - R.t := by grind
  show I.a ∣ _
  simp only [Id3.cj]
  rw [e]; exact h.d
/-- the divisor of a, b and c -/
structure Gd (R : Rg) (I : Id3) (c g : Int) : Prop where
  hc : I.β * I.β + R.s * I.β - R.t = I.a * c
  ha : g ∣ I.a
  hb : g ∣ 2 * I.β + R.s
  hd : g ∣ c
  he : ∃ x y z, I.a * x + (2 * I.β + R.s) * y + c * z = g
theorem conj_prod {R : Rg} {I : Id3} {c g : Int} (h : I.Ok R) (G : Gd R I c g) (p q : Int) : PZ R I (I.cj R) p q ↔ (Id3.mk (I.k * I.k * I.a) g I.β).has p q := by
  obtain ⟨a', ha⟩ := G.ha
  obtain ⟨b', hb⟩ := G.hb
  obtain ⟨c', hc⟩ := G.hd
  have hn := G.hc
  have m11 : R.mul I.e1 (I.cj R).e1 = (I.k * I.k * I.a * I.a, 0) := by simp only [Rg.mul, Id3.e1, Id3.cj, Prod.mk.injEq]; constructor <;> grind
  have m12 : R.mul I.e1 (I.cj R).e2 = (I.k * I.k * I.a * -(I.β + R.s), I.k * I.k * I.a) := by simp only [Rg.mul, Id3.e1, Id3.e2, Id3.cj, Prod.mk.injEq]; constructor <;> grind
  have m21 : R.mul I.e2 (I.cj R).e1 = (I.k * I.k * I.a * I.β, I.k * I.k * I.a) := by simp only [Rg.mul, Id3.e1, Id3.e2, Id3.cj, Prod.mk.injEq]; constructor <;> grind
  have m22 : R.mul I.e2 (I.cj R).e2 = (-(I.k * I.k * I.a * c), 0) := by
    have : I.k * I.k * I.a * c = I.k * I.k * (I.β * I.β + R.s * I.β - R.t) := by rw [hn]; grind
    rw [this]
    simp only [Rg.mul, Id3.e2, Id3.cj, Prod.mk.injEq]; constructor <;> grind
  obtain ⟨K, hK⟩ : ∃ K, K = I.k * I.k * I.a := ⟨_, rfl⟩
  rw [← hK] at m11 m12 m21 m22 ⊢
  constructor
  · refine PZ.of_gens (Id3.lat _) ?_ ?_ ?_ ?_
    · rw [m11]
      exact ⟨Int.dvd_zero _, ⟨a', by simp only; rw [ha]; grind⟩⟩
    · rw [m12]
      exact ⟨Int.dvd_refl _, ⟨-b', by
        have : K * -(I.β + R.s) - I.β * K = -(K * (2 * I.β + R.s)) := by grind
        simp only
        rw [this, hb]; grind⟩⟩
    · rw [m21]
      exact ⟨Int.dvd_refl _, ⟨0, by simp only; grind⟩⟩
    · rw [m22]
      exact ⟨Int.dvd_zero _, ⟨-c', by simp only; rw [hc]; grind⟩⟩
  · have l := @PZ.lat R I (I.cj R)
    have h11 := PZ.mem (R := R) I.has_e1 (I.cj R).has_e1
    have h12 := PZ.mem (R := R) I.has_e1 (I.cj R).has_e2
    have h21 := PZ.mem (R := R) I.has_e2 (I.cj R).has_e1
    have h22 := PZ.mem (R := R) I.has_e2 (I.cj R).has_e2
    rw [m11] at h11
    rw [m12] at h12
    rw [m21] at h21
    rw [m22] at h22
    refine Id3.least l ?_ h21
    obtain ⟨x, y, z, e⟩ := G.he
    have t1 := l.lin (l.mul h11 x) (l.lin h21 h12 y (-y)) 1 1
    have t2 := l.lin t1 h22 1 (-z)
    simp only at t2
    have e1 : 1 * (1 * (x * (K * I.a)) + 1 * (y * (K * I.β) + -y * (K * -(I.β + R.s)))) + -z * -(K * c) = K * g := by rw [← e]; grind
    have e2 : 1 * (1 * (x * 0) + 1 * (y * K + -y * K)) + -z * 0 = 0 := by grind
    rw [e1, e2] at t2
    exact t2
/-! ### the norm of a product -/
def wd (u v : El) : Int := u.1 * v.2 - v.1 * u.2
theorem wd_lat (N : Int) (v : El) : Lat fun p q => N ∣ wd (p, q) v := by
  refine ⟨by simp [wd], fun {p q r s} h1 h2 => ?_⟩
  have := Int.dvd_sub h1 h2
  have e : wd (p, q) v - wd (r, s) v = wd (p - r, q - s) v := by simp only [wd]; grind
  rwa [e] at this
theorem wd_swap (u v : El) : wd u v = -wd v u := by simp only [wd]; grind
theorem wd_gens {R : Rg} {I J : Id3} {N : Int} {G : El → Prop} (hG : ∀ v, G v → N ∣ wd (R.mul I.e1 J.e1) v ∧ N ∣ wd (R.mul I.e1 J.e2) v ∧ N ∣ wd (R.mul I.e2 J.e1) v ∧ N ∣ wd (R.mul I.e2 J.e2) v) {u v : El} (hu : PZ R I J u.1 u.2) (hv : G v) : N ∣ wd u v :=
  PZ.of_gens (L := fun p q => N ∣ wd (p, q) v) (wd_lat N v) (hG v hv).1 (hG v hv).2.1 (hG v hv).2.2.1 (hG v hv).2.2.2 hu
structure Minors (R : Rg) (I J : Id3) (c d : Int) : Prop where
  ma : wd (R.mul I.e1 J.e1) (R.mul I.e1 J.e2) = I.nm * J.nm * I.a
  mb : wd (R.mul I.e1 J.e1) (R.mul I.e2 J.e1) = I.nm * J.nm * J.a
  mc : wd (R.mul I.e1 J.e1) (R.mul I.e2 J.e2) = I.nm * J.nm * (I.β + J.β + R.s)
  md : wd (R.mul I.e1 J.e2) (R.mul I.e2 J.e1) = I.nm * J.nm * (J.β - I.β)
  me : wd (R.mul I.e1 J.e2) (R.mul I.e2 J.e2) = I.nm * J.nm * d
  mf : wd (R.mul I.e2 J.e1) (R.mul I.e2 J.e2) = I.nm * J.nm * c
theorem minors {R : Rg} {I J : Id3} {c d : Int} (hc : I.β * I.β + R.s * I.β - R.t = I.a * c) (hd : J.β * J.β + R.s * J.β - R.t = J.a * d) : Minors R I J c d := by
  have ht : R.t = I.β * I.β + R.s * I.β - I.a * c := by omega
  have ht2 : R.t = J.β * J.β + R.s * J.β - J.a * d := by omega
  refine ⟨?_, ?_, ?_, ?_, ?_, ?_⟩
  · simp only [wd, Rg.mul, Id3.e1, Id3.e2, Id3.nm]; grind
  · simp only [wd, Rg.mul, Id3.e1, Id3.e2, Id3.nm]; grind
  · simp only [wd, Rg.mul, Id3.e1, Id3.e2, Id3.nm]; grind
  · simp only [wd, Rg.mul, Id3.e1, Id3.e2, Id3.nm]; grind
  · simp only [wd, Rg.mul, Id3.e1, Id3.e2, Id3.nm]; rw [ht2]; grind
  · simp only [wd, Rg.mul, Id3.e1, Id3.e2, Id3.nm]; rw [ht]; grind
theorem nm_dvd {R : Rg} {I J X : Id3} (hI : I.Ok R) (hJ : J.Ok R) (hX : ∀ p q, X.has p q ↔ PZ R I J p q) : I.nm * J.nm ∣ X.nm := by
  obtain ⟨c, hc⟩ := hI.d
  obtain ⟨d, hd⟩ := hJ.d
  have m := minors hc hd
  have z : ∀ u : El, wd u u = 0 := fun u => by simp only [wd]; omega
  have sw : ∀ {u v : El} {x : Int}, wd u v = I.nm * J.nm * x → I.nm * J.nm ∣ wd v u := fun {u v x} h => by rw [wd_swap, h]; exact Int.dvd_neg.2 ⟨x, rfl⟩
  have st : ∀ {u v : El} {x : Int}, wd u v = I.nm * J.nm * x → I.nm * J.nm ∣ wd u v := fun {u v x} h => ⟨x, h⟩
  have g : ∀ v : El, (v = R.mul I.e1 J.e1 ∨ v = R.mul I.e1 J.e2 ∨ v = R.mul I.e2 J.e1 ∨ v = R.mul I.e2 J.e2) → I.nm * J.nm ∣ wd (R.mul I.e1 J.e1) v ∧ I.nm * J.nm ∣ wd (R.mul I.e1 J.e2) v ∧ I.nm * J.nm ∣ wd (R.mul I.e2 J.e1) v ∧ I.nm * J.nm ∣ wd (R.mul I.e2 J.e2) v := by
    rintro v (rfl | rfl | rfl | rfl)
    · exact ⟨by rw [z]; exact Int.dvd_zero _, sw m.ma, sw m.mb, sw m.mc⟩
    · exact ⟨st m.ma, by rw [z]; exact Int.dvd_zero _, sw m.md, sw m.me⟩
    · exact ⟨st m.mb, st m.md, by rw [z]; exact Int.dvd_zero _, sw m.mf⟩
    · exact ⟨st m.mc, st m.me, st m.mf, by rw [z]; exact Int.dvd_zero _⟩
  have all : ∀ u v : El, PZ R I J u.1 u.2 → PZ R I J v.1 v.2 → I.nm * J.nm ∣ wd u v := by
    intro u v hu hv
    refine wd_gens (G := fun v => PZ R I J v.1 v.2) (fun v hv => ?_) hu hv
    have f : ∀ w : El, (w = R.mul I.e1 J.e1 ∨ w = R.mul I.e1 J.e2 ∨ w = R.mul I.e2 J.e1 ∨ w = R.mul I.e2 J.e2) → I.nm * J.nm ∣ wd w v := by
      intro w hw
      rw [wd_swap]
      exact Int.dvd_neg.2 (wd_gens g hv hw)
    exact ⟨f _ (.inl rfl), f _ (.inr (.inl rfl)), f _ (.inr (.inr (.inl rfl))), f _ (.inr (.inr (.inr rfl)))⟩
  have := all (X.k * X.a, 0) (X.k * X.β, X.k) ((hX _ _).1 X.gen1) ((hX _ _).1 X.gen2)
  have e : wd (X.k * X.a, 0) (X.k * X.β, X.k) = X.nm := by simp only [wd, Id3.nm]; grind
  rwa [e] at this
theorem nm_inv {R : Rg} {I J X : Id3} {c : Int} (hI : I.Ok R) (hJ : J.Ok R) (hXo : X.Ok R) (hX : ∀ p q, X.has p q ↔ PZ R I J p q) (G : Gd R I c 1) : X.nm = I.nm * J.nm := by
  obtain ⟨d, hd⟩ := hJ.d
  have m := minors G.hc hd
  have mem : ∀ u v : El, I.has u.1 u.2 → J.has v.1 v.2 → X.has (R.mul u v).1 (R.mul u v).2 := fun u v hu hv => (hX _ _).2 (PZ.mem hu hv)
  have w : ∀ u v : El, X.has u.1 u.2 → X.has v.1 v.2 → X.nm ∣ wd u v := fun u v hu hv => X.wedge hu hv
  have k1 := w _ _ (mem _ _ I.has_e1 J.has_e1) (mem _ _ I.has_e1 J.has_e2)
  have k3 := w _ _ (mem _ _ I.has_e1 J.has_e1) (mem _ _ I.has_e2 J.has_e2)
  have k4 := w _ _ (mem _ _ I.has_e1 J.has_e2) (mem _ _ I.has_e2 J.has_e1)
  have k6 := w _ _ (mem _ _ I.has_e2 J.has_e1) (mem _ _ I.has_e2 J.has_e2)
  rw [m.ma] at k1
  rw [m.mc] at k3
  rw [m.md] at k4
  rw [m.mf] at k6
  obtain ⟨x, y, z, e⟩ := G.he
  have kb : X.nm ∣ I.nm * J.nm * (2 * I.β + R.s) := by
    have := Int.dvd_sub k3 k4
    have e : I.nm * J.nm * (I.β + J.β + R.s) - I.nm * J.nm * (J.β - I.β) = I.nm * J.nm * (2 * I.β + R.s) := by grind
    rwa [e] at this
  have : X.nm ∣ I.nm * J.nm := by
    have t := Int.dvd_add (Int.dvd_add (Int.dvd_trans k1 ⟨x, rfl⟩) (Int.dvd_trans kb ⟨y, rfl⟩)) (Int.dvd_trans k6 ⟨z, rfl⟩)
    have e2 : I.nm * J.nm * I.a * x + I.nm * J.nm * (2 * I.β + R.s) * y + I.nm * J.nm * c * z = I.nm * J.nm := by
      have : I.nm * J.nm * I.a * x + I.nm * J.nm * (2 * I.β + R.s) * y + I.nm * J.nm * c * z = I.nm * J.nm * (I.a * x + (2 * I.β + R.s) * y + c * z) := by grind
      rw [this, e, Int.mul_one]
    rwa [e2] at t
  exact Int.dvd_antisymm (Int.le_of_lt (Id3.nm_pos hXo)) (Int.le_of_lt (Int.mul_pos (Id3.nm_pos hI) (Id3.nm_pos hJ))) this (nm_dvd hI hJ hX)
end M

set_option Elab.async false
set_option linter.all false
set_option maxRecDepth 100000
set_option maxHeartbeats 4000000
namespace M
open PySem PySem.Spec PyProof.Rows L2
/-! ### the program: all that keep a form -/
def Mt.row (m : Mt) : List Int := [m.p, m.q, m.r, m.s]
theorem Mt.row_inj {f g : Mt} (h : f.row = g.row) : f = g := by
  obtain ⟨a, b, c, d⟩ := f
  obtain ⟨a', b', c', d'⟩ := g
  simp [Mt.row] at h
  obtain ⟨rfl, rfl, rfl, rfl⟩ := h
  rfl
theorem mt_rows (fs : List Mt) : fs.map Mt.enc = (fs.map Mt.row).map encR := by rw [List.map_map]; rfl
def selS (L : List Mt) : PyData := .list ((sortR (L.map Mt.row)).map encR)
theorem selS_same {L M : List Mt} (h : L.Nodup) (k : M.Nodup) (e : ∀ m, m ∈ L ↔ m ∈ M) : selS L = selS M := by
  unfold selS
  congr 2
  exact sortR_eq (((List.perm_ext_iff_of_nodup h k).2 e).map _ |>.trans (sortR_perm _).symm) (sortR_srt _)
theorem fSortD_mts {L : List Mt} (hl : L.length ≤ 10000000) : fSortD [.list (L.map Mt.enc)] = some (selS L) := by
  rw [mt_rows, fSortD_rows (fun r hr => by obtain ⟨f, _, rfl⟩ := List.mem_map.1 hr; exact (fun z => by cases z)) (by rw [List.length_map]; show _ ≤ 16777216; omega)]
  rfl
theorem undone_ok (m : Mt) : d_undone_twist [m.enc] = .ok m.inv.enc [] := by
  unfold d_undone_twist
  simp [Mt.enc, Mt.inv]
theorem kind_pos {f : Fm} (hf : FB 130 f) (hd : f.disc < 0) (ha : 0 < f.a) : d_kind_of_form [f.enc] = .ok (.str "positive") [] := by
  have e := disc_ok6 hf (by omega)
  have i : vIx f.enc (.int 0) = some (.int f.a) := rfl
  unfold d_kind_of_form
  simp [e, i, ha, show ¬ f.disc = 0 by omega, show ¬ f.disc > 0 by omega]
theorem kind_neg {f : Fm} (hf : FB 130 f) (hd : f.disc < 0) (ha : f.a < 0) : d_kind_of_form [f.enc] = .ok (.str "negative") [] := by
  have e := disc_ok6 hf (by omega)
  have i : vIx f.enc (.int 0) = some (.int f.a) := rfl
  unfold d_kind_of_form
  simp [e, i, show ¬ f.a > 0 by omega, show ¬ f.disc = 0 by omega, show ¬ f.disc > 0 by omega]
theorem kind_flat {f : Fm} (hf : FB 130 f) (hd : f.disc = 0) : d_kind_of_form [f.enc] = .ok (.str "flat") [] := by
  have e := disc_ok6 hf (by omega)
  unfold d_kind_of_form
  simp [e, hd]
theorem kind_over {f : Fm} (hf : FB 130 f) (hd : 0 < f.disc) : d_kind_of_form [f.enc] = .ok (.str (if sqB f.disc = true then "split" else "mixed")) [] := by
  have e := disc_ok6 hf (by omega)
  have t4 : Szc 4 3 := ⟨by decide⟩
  have fa := hf.a; have fb := hf.b; have fc := hf.c
  have zd : Szc f.disc 400 := szcMono (inferInstance : Szc (f.b * f.b - 4 * f.a * f.c) (max (130 + 130) (3 + 130 + 130) + 1)) (by omega)
  have is := is_square_is zd (by omega)
  unfold d_kind_of_form
  cases hs : sqB f.disc with
  | true => rw [hs] at is; simp [e, is, show ¬ f.disc = 0 by omega, show f.disc > 0 by omega]
  | false => rw [hs] at is; simp [e, is, show ¬ f.disc = 0 by omega, show f.disc > 0 by omega]
theorem scaled_ok {f : Fm} (hf : FB 130 f) : d_scaled_form [f.enc, .int (-1)] = .ok (f.scl (-1)).enc [] := by
  have z : Szc (-1) 1 := ⟨by decide⟩
  have fa := hf.a; have fb := hf.b; have fc := hf.c
  have e1 := vMul_le z fa (by omega)
  have e2 := vMul_le z fb (by omega)
  have e3 := vMul_le z fc (by omega)
  unfold d_scaled_form
  simp [Fm.enc, Fm.scl, e1, e2, e3]
theorem cont_spec {f : Fm} (h : f.a ≠ 0) : ∃ (p : Fm) (x y z : Int), 0 < f.cont ∧ f = p.scl f.cont ∧ p.a * x + p.b * y + p.c * z = 1 := by
  have g0 : 0 < f.cont := by
    have : Int.gcd (Int.gcd f.a f.b) f.c ≠ 0 := by
      rw [Ne, Int.gcd_eq_zero_iff]
      intro ⟨k, _⟩
      have : Int.gcd f.a f.b = 0 := by omega
      rw [Int.gcd_eq_zero_iff] at this
      exact h this.1
    show 0 < ((Int.gcd (Int.gcd f.a f.b) f.c : Nat) : Int)
    omega
  have d1 : ((Int.gcd f.a f.b : Nat) : Int) ∣ f.a := Int.gcd_dvd_left ..
  have d2 : ((Int.gcd f.a f.b : Nat) : Int) ∣ f.b := Int.gcd_dvd_right ..
  have d3 : f.cont ∣ ((Int.gcd f.a f.b : Nat) : Int) := Int.gcd_dvd_left ..
  have d4 : f.cont ∣ f.c := Int.gcd_dvd_right ..
  obtain ⟨pa, ha⟩ := Int.dvd_trans d3 d1
  obtain ⟨pb, hb⟩ := Int.dvd_trans d3 d2
  obtain ⟨pc, hc⟩ := d4
  obtain ⟨x1, y1, e1⟩ : ∃ x y : Int, ((Int.gcd f.a f.b : Nat) : Int) = f.a * x + f.b * y := by
    obtain ⟨x, y, e⟩ := bez f.a f.b
    exact ⟨x, y, e.symm⟩
  obtain ⟨x2, y2, e2⟩ : ∃ x y : Int, f.cont = ((Int.gcd f.a f.b : Nat) : Int) * x + f.c * y := by
    obtain ⟨x, y, e⟩ := bez (Int.gcd f.a f.b : Int) f.c
    exact ⟨x, y, e.symm⟩
  refine ⟨⟨pa, pb, pc⟩, x1 * x2, y1 * x2, y2, g0, Fm.ext ha hb hc, ?_⟩
  have : f.cont * (pa * (x1 * x2) + pb * (y1 * x2) + pc * y2) = f.cont * 1 := by
    have k1 : f.cont * (pa * (x1 * x2) + pb * (y1 * x2) + pc * y2) = (f.cont * pa * x1 + f.cont * pb * y1) * x2 + f.cont * pc * y2 := by grind
    rw [k1, ← ha, ← hb, ← hc, ← e1]
    omega
  exact Int.eq_of_mul_eq_mul_left (by omega) this
theorem prim_part_ok {f p : Fm} {c : Int} (hc : f.cont = c) (c0 : 0 < c) (zc : Szc c 130) (e : f = p.scl c) : d_primitive_part [f.enc] = .ok p.enc [] := by
  have co := content_ok f
  rw [hc] at co
  have dv : ∀ x : Int, vFdiv (.int (c * x)) (.int c) = some (.int x) := fun x => by
    rw [vFdiv_c (n := 130) (hb := zc) (by omega) (by omega), Int.mul_fdiv_cancel_left _ (by omega)]
  have i0 : vIx f.enc (.int 0) = some (.int (c * p.a)) := by rw [e]; rfl
  have i1 : vIx f.enc (.int 1) = some (.int (c * p.b)) := by rw [e]; rfl
  have i2 : vIx f.enc (.int 2) = some (.int (c * p.c)) := by rw [e]; rfl
  show d_primitive_part [f.enc] = .ok (.tuple [.int p.a, .int p.b, .int p.c]) []
  unfold d_primitive_part
  simp [co, i0, i1, i2, dv]
/-- what a list of all that keep f is -/
structure SelIs (f : Fm) (L : List Mt) : Prop where
  nd : L.Nodup
  mem : ∀ m, m ∈ L ↔ m.det = 1 ∧ f.turn m = f
theorem SelIs.same {f : Fm} {L M : List Mt} (h : SelIs f L) (k : SelIs f M) : selS L = selS M := selS_same h.nd k.nd fun m => by rw [h.mem, k.mem]
theorem SelIs.scl {f : Fm} {L : List Mt} (h : SelIs f L) {c : Int} (hc : c ≠ 0) : SelIs (f.scl c) L := ⟨h.nd, fun m => by rw [h.mem, Fm.scl_self hc]⟩
theorem sel_go {T : Mt} {p : Fm} (hb : MB4 250 T) {ρ0 : Ev} (hρ : ∀ d : D, ∃ ρ1, gN 7 d ρ0 = some ρ1 ∧ look ρ1 4 = some T.enc ∧ look ρ1 7 = some d) : lcGo (gN 7) bYes (eCall d_after_twist (aCons (eCall d_after_twist (aCons (eVar 4) (aCons (eVar 7) aNil))) (aCons (eCall d_undone_twist (aCons (eVar 4) aNil)) aNil))) ρ0 ((selL p).map Mt.enc) [] = .ok (((selL p).map fun k => (T.mul k).mul T.inv).map Mt.enc) [] := by
  have e := lc_eval (w := []) (g := gN 7) (t := bYes) (d := eCall d_after_twist (aCons (eCall d_after_twist (aCons (eVar 4) (aCons (eVar 7) aNil))) (aCons (eCall d_undone_twist (aCons (eVar 4) aNil)) aNil))) (ρ0 := ρ0) Mt.enc (fun _ => true) (fun k => ((T.mul k).mul T.inv).enc) (selL p) (fun k hk => by
    obtain ⟨ρ1, h1, h2, h3⟩ := hρ k.enc
    have kb : MB4 1 k := by
      unfold selL at hk
      by_cases h1 : p = ⟨1, 0, 1⟩
      · rw [if_pos h1, if_neg (by rw [h1]; decide)] at hk
        simp at hk
        rcases hk with rfl | rfl | rfl | rfl <;> exact ⟨⟨by decide⟩, ⟨by decide⟩, ⟨by decide⟩, ⟨by decide⟩⟩
      · by_cases h2 : p = ⟨1, 1, 1⟩
        · rw [if_neg h1, if_pos h2] at hk
          simp at hk
          rcases hk with rfl | rfl | rfl | rfl | rfl | rfl <;> exact ⟨⟨by decide⟩, ⟨by decide⟩, ⟨by decide⟩, ⟨by decide⟩⟩
        · rw [if_neg h1, if_neg h2] at hk
          simp at hk
          rcases hk with rfl | rfl <;> exact ⟨⟨by decide⟩, ⟨by decide⟩, ⟨by decide⟩, ⟨by decide⟩⟩
    have a1 := after_ok hb kb (by omega)
    have ib : MB4 250 T.inv := ⟨hb.s, ⟨by have := hb.q.h; show (-T.q).natAbs < _; omega⟩, ⟨by have := hb.r.h; show (-T.r).natAbs < _; omega⟩, hb.p⟩
    have a2 := after_ok (hb.mul kb) ib (by omega)
    have un := undone_ok T
    exact ⟨ρ1, h1, by simp, fun _ => by simp [h2, h3, a1, a2, un]⟩)
  rw [e, List.filter_eq_self.2 (fun _ _ => rfl), List.map_map]
  rfl
theorem red_plain {g p : Fm} {c : Int} (c0 : 0 < c) (e : g = p.scl c) (h : g.Red) : p.Red := by
  have ea : g.a = c * p.a := congrArg Fm.a e
  have eb : g.b = c * p.b := congrArg Fm.b e
  have ec : g.c = c * p.c := congrArg Fm.c e
  have le : ∀ {x y : Int}, c * x ≤ c * y → x ≤ y := fun h => Int.le_of_mul_le_mul_left h c0
  have lt : ∀ {x y : Int}, c * x < c * y → x < y := fun h => Int.lt_of_mul_lt_mul_left h (by omega)
  have b1 := h.b1; have b2 := h.b2; have ac := h.ac; have eq := h.eq
  rw [ea, eb] at b1 b2
  rw [ea, ec] at ac eq
  rw [eb] at eq
  refine ⟨lt (by rw [Int.mul_neg]; exact b1), le b2, le ac, fun z => le (by rw [Int.mul_zero]; exact eq (by rw [z]))⟩
structure SelOk (f : Fm) (L : List Mt) (T : Mt) (g p : Fm) : Prop where
  is : SelIs f L
  rp : d_reduced_positive [f.enc] = .ok (.tuple [g.enc, T.enc]) []
  pp : d_primitive_part [g.enc] = .ok p.enc []
  mb : MB4 250 T
  e : L = (selL p).map (fun k => (T.mul k).mul T.inv)
  pd : ∀ x y z : Int, f.a * x + f.b * y + f.c * z = 1 → p.disc = f.disc
  pr : p.Red
theorem selves_end {f : Fm} {d : Int} (h : Nm d f) : ∃ L T g p, SelOk f L T g p := by
  obtain ⟨T, rp, dT, rd, nm, mb⟩ := red_pos_ok h
  have a0 : (f.turn T).a ≠ 0 := by have := nm.a0; omega
  obtain ⟨p, x, y, z, c0, e, bz⟩ := cont_spec a0
  obtain ⟨c, hc⟩ : ∃ c, (f.turn T).cont = c := ⟨_, rfl⟩
  rw [hc] at c0 e
  have ea : (f.turn T).a = c * p.a := congrArg Fm.a e
  have pa : 0 < p.a := (mul_pos_iff2 c0).1 (by rw [← ea]; exact nm.a0)
  have ca : c ≤ (f.turn T).a := by
    have := Int.mul_le_mul_of_nonneg_left (show 1 ≤ p.a by omega) (show 0 ≤ c by omega)
    omega
  have zc : Szc c 130 := ⟨by have := nm.a1; omega⟩
  have pr := red_plain c0 e rd
  have dd : (f.turn T).disc = c * c * p.disc := by rw [e, Fm.scl_disc]
  have dn := nm.dn
  have pd : p.disc < 0 := by
    apply Int.not_le.1
    intro z
    have := Int.mul_nonneg (Int.mul_nonneg (show 0 ≤ c by omega) (show 0 ≤ c by omega)) z
    omega
  have mem := selL_mem pr bz pd
  refine ⟨_, T, f.turn T, p, ⟨⟨conj_nodup dT (selL_nodup p), conj_mem dT (L := selL p) fun m => by rw [mem, e, Fm.scl_self (by omega)]⟩, rp, prim_part_ok hc c0 zc e, mb, rfl, fun x y z hxyz => ?_, pr⟩⟩
  have back : f = ((p.turn T.inv)).scl c := by
    rw [← Fm.scl_turn, ← e, Fm.turn_back f dT]
  have : c * ((p.turn T.inv).a * x + (p.turn T.inv).b * y + (p.turn T.inv).c * z) = 1 := by
    rw [← hxyz, congrArg Fm.a back, congrArg Fm.b back, congrArg Fm.c back]
    simp only [Fm.scl]; grind
  have c1 : c = 1 := by
    exact Int.eq_one_of_dvd_one (by omega) ⟨_, this.symm⟩
  rw [c1] at dd
  have : (f.turn T).disc = f.disc := by rw [Fm.disc_turn, dT]; omega
  omega
theorem selves_of_pos {f : Fm} {d : Int} (h : Nm d f) {L : List Mt} {T : Mt} {g p : Fm} (s : SelOk f L T g p) (neg : Bool) {o : Fm} (ho : o = f.scl (if neg = true then -1 else 1)) (hf : FB 100 f) : d_selves_of [o.enc] = .ok (selS L) [] := by
  have fbo : FB 130 o := by
    rw [ho]
    have ha := hf.a.h; have hb := hf.b.h; have hc := hf.c.h
    have : 2 ^ 100 ≤ 2 ^ 130 := Nat.pow_le_pow_right (by omega) (by omega)
    cases neg
    · exact ⟨⟨by show (1 * f.a).natAbs < _; omega⟩, ⟨by show (1 * f.b).natAbs < _; omega⟩, ⟨by show (1 * f.c).natAbs < _; omega⟩⟩
    · exact ⟨⟨by show (-1 * f.a).natAbs < _; omega⟩, ⟨by show (-1 * f.b).natAbs < _; omega⟩, ⟨by show (-1 * f.c).natAbs < _; omega⟩⟩
  have od : o.disc = f.disc := by
    rw [ho, Fm.scl_disc]
    cases neg
    · show 1 * 1 * f.disc = _; omega
    · show -1 * -1 * f.disc = _; omega
  have a0 := h.a0; have dn := h.dn
  have srt : fSortD [.list (L.map Mt.enc)] = some (selS L) := fSortD_mts (by
    rw [s.e, List.length_map]
    unfold selL
    by_cases h1 : p = ⟨1, 0, 1⟩
    · rw [if_pos h1, if_neg (by rw [h1]; decide)]; decide
    · by_cases h2 : p = ⟨1, 1, 1⟩
      · rw [if_neg h1, if_pos h2]; decide
      · rw [if_neg h1, if_neg h2]; decide)
  have k1 : ∃ kd, d_kind_of_form [o.enc] = .ok (.str kd) [] ∧ vEq (.str kd) (.str "split") = some false ∧ vIn (.str kd) (.tuple [.str "mixed", .str "flat"]) = some false ∧ vEq (.str kd) (.str "positive") = some (!neg) ∧ (neg = true → d_scaled_form [o.enc, .int (-1)] = .ok f.enc []) ∧ (neg = false → o = f) := by
    cases neg with
    | false =>
      have e1 : o = f := by rw [ho]; ext <;> simp [Fm.scl]
      subst e1
      exact ⟨_, kind_pos fbo (by omega) a0, by decide +kernel, by decide +kernel, by decide +kernel, (fun z => by cases z), fun _ => rfl⟩
    | true =>
      have oa : o.a = -1 * f.a := by rw [ho]; rfl
      have sc := scaled_ok fbo
      have e1 : o.scl (-1) = f := by rw [ho]; ext <;> simp [Fm.scl]
      rw [e1] at sc
      exact ⟨_, kind_neg fbo (by omega) (by omega), by decide +kernel, by decide +kernel, by decide +kernel, fun _ => sc, (fun z => by cases z)⟩
  obtain ⟨kd, kk, q1, q2, q3, q4, q5⟩ := k1
  have rp := s.rp; have pp := s.pp
  have e101 : ∀ q : Fm, vEq q.enc (.tuple [.int 1, .int 0, .int 1]) = some (decide (q = ⟨1, 0, 1⟩)) := fun q => vEq_fm q ⟨1, 0, 1⟩
  have e111 : ∀ q : Fm, vEq q.enc (.tuple [.int 1, .int 1, .int 1]) = some (decide (q = ⟨1, 1, 1⟩)) := fun q => vEq_fm q ⟨1, 1, 1⟩
  have go := fun (o0 o1 : Option D) => sel_go (T := T) (p := p) s.mb (ρ0 := [o0, o1, some f.enc, some g.enc, some T.enc, some (.list ((selL p).map Mt.enc)), some p.enc, none]) (fun d => ⟨_, rfl, rfl, rfl⟩)
  rw [← s.e] at go
  have l4 : 4 ≤ sizeLine := by show 4 ≤ 16777216; omega
  have l6 : 6 ≤ sizeLine := by show 6 ≤ 16777216; omega
  by_cases h1 : p = ⟨1, 0, 1⟩
  · have h2 : ¬ p = ⟨1, 1, 1⟩ := by rw [h1]; decide
    have er : (selL p).map Mt.enc = [.tuple [.int (-1), .int 0, .int 0, .int (-1)], .tuple [.int 1, .int 0, .int 0, .int 1], .tuple [.int 0, .int (-1), .int 1, .int 0], .tuple [.int 0, .int 1, .int (-1), .int 0]] := by
      unfold selL
      rw [if_pos h1, if_neg h2]; rfl
    rw [er] at go
    have d1 := e101 p
    have d2 := e111 p
    rw [decide_eq_true h1] at d1
    rw [decide_eq_false h2] at d2
    generalize L.map Mt.enc = LL at *
    unfold d_selves_of
    cases neg with
    | false => have eo := q5 rfl; rw [eo] at kk ⊢; simp [kk, q1, q2, q3, rp, pp, d1, d2, go, srt, l4, l6]
    | true => have sc := q4 rfl; simp [kk, q1, q2, q3, sc, rp, pp, d1, d2, go, srt, l4, l6]
  · by_cases h2 : p = ⟨1, 1, 1⟩
    · have er : (selL p).map Mt.enc = [.tuple [.int (-1), .int 0, .int 0, .int (-1)], .tuple [.int 1, .int 0, .int 0, .int 1], .tuple [.int (-1), .int (-1), .int 1, .int 0], .tuple [.int 0, .int (-1), .int 1, .int 1], .tuple [.int 0, .int 1, .int (-1), .int (-1)], .tuple [.int 1, .int 1, .int (-1), .int 0]] := by
        unfold selL
        rw [if_neg h1, if_pos h2]; rfl
      rw [er] at go
      have d1 := e101 p
      have d2 := e111 p
      rw [decide_eq_false h1] at d1
      rw [decide_eq_true h2] at d2
      generalize L.map Mt.enc = LL at *
      unfold d_selves_of
      cases neg with
      | false => have eo := q5 rfl; rw [eo] at kk ⊢; simp [kk, q1, q2, q3, rp, pp, d1, d2, go, srt, l4, l6]
      | true => have sc := q4 rfl; simp [kk, q1, q2, q3, sc, rp, pp, d1, d2, go, srt, l4, l6]
    · have er : (selL p).map Mt.enc = [.tuple [.int (-1), .int 0, .int 0, .int (-1)], .tuple [.int 1, .int 0, .int 0, .int 1]] := by
        unfold selL
        rw [if_neg h1, if_neg h2]; rfl
      rw [er] at go
      have d1 := e101 p
      have d2 := e111 p
      rw [decide_eq_false h1] at d1
      rw [decide_eq_false h2] at d2
      generalize L.map Mt.enc = LL at *
      unfold d_selves_of
      cases neg with
      | false => have eo := q5 rfl; rw [eo] at kk ⊢; simp [kk, q1, q2, q3, rp, pp, d1, d2, go, srt, l4, l6]
      | true => have sc := q4 rfl; simp [kk, q1, q2, q3, sc, rp, pp, d1, d2, go, srt, l4, l6]
end M

set_option Elab.async false
set_option linter.all false
set_option maxRecDepth 100000
set_option maxHeartbeats 4000000
namespace M
open PySem PySem.Spec PyProof.Rows L2
/-! ### the law: the points with a value, all that keep a form -/
structure Psm (f : Fm) : Prop where
  a0 : 0 < f.a
  dn : f.disc < 0
  a1 : f.a ≤ 400000
  b1 : f.b.natAbs ≤ 800000
  c1 : f.c ≤ 400000
def ptsL (a j : Int) (S : List Int) : List (Int × Int) := (S.filter fun t => decide (t % (2 * a) = 0)).map fun t => (t / (2 * a), j)
theorem ptsL_mem {a j : Int} (ha : 0 < a) {S : List Int} {q : Int × Int} : q ∈ ptsL a j S ↔ q.2 = j ∧ 2 * a * q.1 ∈ S := by
  unfold ptsL
  rw [List.mem_map]
  constructor
  · intro ⟨t, ht, e⟩
    obtain ⟨h1, h2⟩ := List.mem_filter.1 ht
    have h2 := of_decide_eq_true h2
    subst e
    refine ⟨rfl, ?_⟩
    have := Int.mul_ediv_add_emod t (2 * a)
    rw [h2, Int.add_zero] at this
    show 2 * a * (t / (2 * a)) ∈ S
    rw [this]; exact h1
  · intro ⟨h1, h2⟩
    refine ⟨2 * a * q.1, List.mem_filter.2 ⟨h2, decide_eq_true (Int.mul_emod_right _ _)⟩, ?_⟩
    rw [Int.mul_ediv_cancel_left _ (by omega)]
    exact Prod.ext rfl h1.symm
theorem ptsL_nodup {a j : Int} (ha : 0 < a) {S : List Int} (h : S.Pairwise (· < ·)) : (ptsL a j S).Nodup := by
  unfold ptsL List.Nodup
  rw [List.pairwise_map]
  refine (h.filter _).imp_of_mem fun {x y} hx hy hxy e => ?_
  have h1 := of_decide_eq_true (List.mem_filter.1 hx).2
  have h2 := of_decide_eq_true (List.mem_filter.1 hy).2
  have e1 := Int.mul_ediv_add_emod x (2 * a)
  have e2 := Int.mul_ediv_add_emod y (2 * a)
  have : x / (2 * a) = y / (2 * a) := congrArg Prod.fst e
  rw [this] at e1
  omega
theorem ptsL_app (a j : Int) (S T : List Int) : ptsL a j (S ++ T) = ptsL a j S ++ ptsL a j T := by simp [ptsL]
theorem sortSet2 (A B : Int) : fSortSet [.list [.int A, .int B]] = some (.list ((sortU [A, B]).map .int)) := by
  rw [show [PyData.int A, PyData.int B] = [A, B].map .int from rfl]
  simp only [fSortSet]
  rw [intsOf_map]
  simp only [Option.bind_some]
  rw [if_pos (show setOk [A, B].length from (by decide : setOk 2))]
theorem insU_len (x : Int) : ∀ l, (insU x l).length ≤ l.length + 1
  | [] => by simp [insU]
  | y :: l => by
    unfold insU
    have := insU_len x l
    split
    · simp
    · split
      · simp
      · simp; omega
theorem sortU_len2 (A B : Int) : (sortU [A, B]).length ≤ 2 := by
  have h1 := insU_len B []
  have h2 := insU_len A (insU B [])
  show (insU A (insU B [])).length ≤ 2
  simp at h1
  omega
def LpI (f : Fm) (N size h j rest root : Int) (l : List (Int × Int)) (S : List Int) : List PyData → Ev → Prop := fun ds ρ => ∃ (done todo : List Int) (x : Option PyData), S = done ++ todo ∧ ds = todo.map .int ∧ ρ = [some f.enc, some (.int N), some (.int f.a), some (.int f.b), some (.int f.c), some (.int size), some (.list ((l ++ ptsL f.a j done).map encP)), some (.int h), some (.int j), some (.int rest), some (.int root), x]
theorem lp_in {f : Fm} (hf : Psm f) {N size h j rest root : Int} {l : List (Int × Int)} {S : List Int} (hS : S.length ≤ 2) (hl : l.length ≤ 10000000) (hb : ∀ t ∈ S, Szc t 60) {w : Wd} (d : PyData) (ds : List PyData) (ρ : Ev) (hp : LpI f N size h j rest root l S (d :: ds) ρ) :
    ∃ ρ1, gN 11 d ρ = some ρ1 ∧ FStep (LpI f N size h j rest root l S ds) (fun _ => False) w (sIf (bBin vEq (eBin vMod (eArgs fInt (aCons (eVar 11) aNil)) (eBin vMul (eC (.int 2)) (eVar 2))) (eC (.int 0))) (sApp 6 (eTup (aCons (eBin vFdiv (eVar 11) (eBin vMul (eC (.int 2)) (eVar 2))) (aCons (eVar 8) aNil)))) sNext ρ1 w) := by
  obtain ⟨done, todo, x, e0, e1, e2⟩ := hp
  cases todo with
  | nil => cases e1
  | cons t todo =>
    rw [List.map_cons] at e1
    obtain ⟨rfl, rfl⟩ := List.cons.inj e1
    subst e2
    refine ⟨_, rfl, ?_⟩
    have a0 := hf.a0; have a1 := hf.a1
    have za : Szc f.a 20 := ⟨by omega⟩
    have v1 := vMul_le (show Szc 2 2 from ⟨by decide⟩) za (by omega)
    have zt : Szc t 60 := hb t (by rw [e0]; simp)
    have md : vMod (.int t) (.int (2 * f.a)) = some (.int (t % (2 * f.a))) := modP (by omega)
    have dv : vFdiv (.int t) (.int (2 * f.a)) = some (.int (t / (2 * f.a))) := by
      rw [vFdiv_c (n := 22) (hb := szcMono (inferInstance : Szc (2 * f.a) (2 + 20)) (by omega)) (by omega) (by omega), Int.fdiv_eq_ediv_of_nonneg _ (by omega)]
    have e0' : S = (done ++ [t]) ++ todo := by rw [e0]; simp
    have dl : (ptsL f.a j done).length ≤ 2 := by
      have h1 : (ptsL f.a j done).length ≤ done.length := by unfold ptsL; rw [List.length_map]; exact List.length_filter_le _ _
      have : done.length ≤ S.length := by rw [e0]; simp
      omega
    have sm : ((l ++ ptsL f.a j done).map encP).length < sizeLine := by
      show _ < 16777216
      rw [List.length_map, List.length_append]; omega
    by_cases c : t % (2 * f.a) = 0
    · have en : (l ++ ptsL f.a j done).map encP ++ [encP (t / (2 * f.a), j)] = (l ++ ptsL f.a j (done ++ [t])).map encP := by
        rw [ptsL_app]
        simp [ptsL, c]
      generalize hA : (l ++ ptsL f.a j done).map encP = A at *
      generalize hB : (l ++ ptsL f.a j (done ++ [t])).map encP = B at *
      simp [md, v1, c, dv, sm, enc2, en]
      exact .next ⟨done ++ [t], todo, some (.int t), e0', rfl, by rw [hB]⟩
    · have en : (l ++ ptsL f.a j done).map encP = (l ++ ptsL f.a j (done ++ [t])).map encP := by
        rw [ptsL_app]
        simp [ptsL, c]
      rw [en]
      generalize hB : (l ++ ptsL f.a j (done ++ [t])).map encP = B at *
      simp [md, v1, c]
      exact .next ⟨done ++ [t], todo, some (.int t), e0', rfl, by rw [hB]⟩
def LpO (f : Fm) (N size h : Int) : List PyData → Ev → Prop := fun ds ρ => ∃ (j : Int) (l : List (Int × Int)) (x9 x10 x11 x8 : Option PyData), ds = rangeL j 1 (h + 1 - j).toNat ∧ ρ = [some f.enc, some (.int N), some (.int f.a), some (.int f.b), some (.int f.c), some (.int size), some (.list (l.map encP)), some (.int h), x8, x9, x10, x11] ∧ -h ≤ j ∧ j ≤ h + 1 ∧ l.Nodup ∧ (∀ q : Int × Int, q ∈ l ↔ f.at q.1 q.2 = N ∧ q.2 < j) ∧ (l.length : Int) ≤ 2 * (j + h)
theorem at_sq (f : Fm) (x y : Int) : 4 * f.a * f.at x y = (2 * f.a * x + f.b * y) * (2 * f.a * x + f.b * y) - f.disc * y * y := by simp only [Fm.at, Fm.disc]; grind
theorem lp_out {f : Fm} (hf : Psm f) {N size h : Int} (N0 : 0 < N) (N1 : N ≤ 400000) (hs : size = -f.disc) (h0 : 0 ≤ h) (h1 : h ≤ 800000) (hh : size * (h * h) ≤ 4 * f.a * N) {w : Wd} (d : PyData) (ds : List PyData) (ρ : Ev) (hp : LpO f N size h (d :: ds) ρ) :
    ∃ ρ1, gN 8 d ρ = some ρ1 ∧ FStep (LpO f N size h ds) (fun _ => False) w (sSeq (sAsg (eBin vSub (eBin vMul (eBin vMul (eC (.int 4)) (eVar 2)) (eVar 1)) (eBin vMul (eBin vMul (eVar 5) (eVar 8)) (eVar 8))) (gN 9))
 (sSeq (sAsg (eCall d_L_floor (aCons (eVar 9) aNil)) (gN 10))
 (sIf (bBin vEq (eBin vMul (eVar 10) (eVar 10)) (eVar 9)) (sFor (iSeq (eArgs fSortSet (aCons (eLst (aCons (eBin vSub (eVar 10) (eBin vMul (eVar 3) (eVar 8))) (aCons (eBin vSub (eBin vSub (eC (.int 0)) (eVar 10)) (eBin vMul (eVar 3) (eVar 8))) aNil))) aNil))) (gN 11) (sIf (bBin vEq (eBin vMod (eArgs fInt (aCons (eVar 11) aNil)) (eBin vMul (eC (.int 2)) (eVar 2))) (eC (.int 0))) (sApp 6 (eTup (aCons (eBin vFdiv (eVar 11) (eBin vMul (eC (.int 2)) (eVar 2))) (aCons (eVar 8) aNil)))) sNext)) sNext)) ρ1 w) := by
  obtain ⟨j, l, x9, x10, x11, x8, e1, e2, j1, j2, nd, mem, len⟩ := hp
  obtain ⟨jr, rfl, rfl⟩ := rng_cons e1
  subst e2
  refine ⟨_, rfl, ?_⟩
  have a0 := hf.a0; have a1 := hf.a1; have b1 := hf.b1; have dn := hf.dn; have c1 := hf.c1
  have za : Szc f.a 20 := ⟨by omega⟩
  have zb : Szc f.b 20 := ⟨by omega⟩
  have zc : Szc f.c 20 := ⟨by have := neg_disc_pos dn a0; omega⟩
  have zN : Szc N 20 := ⟨by omega⟩
  have zj : Szc j 20 := ⟨by omega⟩
  have z4 : Szc 4 3 := ⟨by decide⟩
  have zs : Szc size 60 := by
    have e : size = 4 * f.a * f.c - f.b * f.b := by rw [hs]; simp only [Fm.disc]; omega
    rw [e]
    exact szcMono (inferInstance : Szc (4 * f.a * f.c - f.b * f.b) (max (3 + 20 + 20) (20 + 20) + 1)) (by omega)
  have v1 := vMul_le z4 za (by omega)
  have v2 := vMul_le (inferInstance : Szc (4 * f.a) (3 + 20)) zN (by omega)
  have v3 := vMul_le zs zj (by omega)
  have v4 := vMul_le (inferInstance : Szc (size * j) (60 + 20)) zj (by omega)
  have v5 := vMul_le zb zj (by omega)
  have jj : j * j ≤ h * h := by
    have := Int.mul_nonneg (show 0 ≤ h - j by omega) (show 0 ≤ h + j by omega)
    have e : (h - j) * (h + j) = h * h - j * j := by grind
    omega
  have s0 : 0 < size := by omega
  have sj := Int.mul_le_mul_of_nonneg_left jj (show 0 ≤ size by omega)
  have ej : size * (j * j) = size * j * j := by grind
  have r0 : 0 ≤ 4 * f.a * N - size * j * j := by omega
  have zr : Szc (4 * f.a * N - size * j * j) 120 := szcMono (inferInstance : Szc (4 * f.a * N - size * j * j) (max (3 + 20 + 20) (60 + 20 + 20) + 1)) (by omega)
  obtain ⟨root, hroot⟩ := rt2_ex r0
  have fl := L_floor_is hroot r0 zr (by omega)
  have q0 := hroot.r0; have qlo := hroot.lo; have qhi := hroot.hi
  have sjn := Int.mul_nonneg (show 0 ≤ size by omega) (sq_nonneg j)
  have aN : 4 * f.a * N ≤ 640000000000 := by
    have := Int.mul_le_mul a1 N1 (by omega) (by omega)
    have e : 4 * f.a * N = 4 * (f.a * N) := by grind
    omega
  have qb : root ≤ 800000 := by
    apply Int.not_lt.1
    intro z
    have := Int.mul_le_mul (show 800001 ≤ root by omega) (show 800001 ≤ root by omega) (by omega) (by omega)
    omega
  have zq : Szc root 20 := ⟨by omega⟩
  have v6 := vMul_le zq zq (by omega)
  have at_iff : ∀ x : Int, f.at x j = N ↔ (2 * f.a * x + f.b * j) * (2 * f.a * x + f.b * j) = 4 * f.a * N - size * j * j := by
    intro x
    have e := at_sq f x j
    have ed : f.disc * j * j = -(size * j * j) := by rw [hs]; grind
    rw [ed] at e
    constructor
    · intro z; rw [z] at e; omega
    · intro z
      have : 4 * f.a * f.at x j = 4 * f.a * N := by omega
      exact Int.eq_of_mul_eq_mul_left (by omega) this
  have keep : ∀ {l' : List (Int × Int)} {S : List Int}, l' = l ++ ptsL f.a j S → S.Pairwise (· < ·) → S.length ≤ 2 → (∀ x : Int, f.at x j = N ↔ 2 * f.a * x ∈ S) → l'.Nodup ∧ (∀ q : Int × Int, q ∈ l' ↔ f.at q.1 q.2 = N ∧ q.2 < j + 1) ∧ (l'.length : Int) ≤ 2 * (j + 1 + h) := by
    intro l' S e hS hl hx
    subst e
    refine ⟨List.nodup_append.2 ⟨nd, ptsL_nodup a0 hS, fun a ha b hb e => ?_⟩, fun q => ?_, ?_⟩
    · subst e
      have := ((mem a).1 ha).2
      have := ((ptsL_mem a0).1 hb).1
      omega
    · rw [List.mem_append, mem, ptsL_mem a0, ← hx]
      constructor
      · rintro (⟨k1, k2⟩ | ⟨k1, k2⟩)
        · exact ⟨k1, by omega⟩
        · exact ⟨by rw [k1]; exact k2, by omega⟩
      · intro ⟨k1, k2⟩
        rcases (show q.2 < j ∨ q.2 = j by omega) with z | z
        · exact .inl ⟨k1, z⟩
        · exact .inr ⟨z, by rw [z] at k1; exact k1⟩
    · have : (ptsL f.a j S).length ≤ S.length := by unfold ptsL; rw [List.length_map]; exact List.length_filter_le _ _
      rw [List.length_append]; omega
  generalize hR : 4 * f.a * N - size * j * j = R at *
  by_cases c : root * root = R
  · obtain ⟨S, hS⟩ : ∃ S, S = sortU [root - f.b * j, -root - f.b * j] := ⟨_, rfl⟩
    have ss := sortSet2 (root - f.b * j) (-root - f.b * j)
    rw [← hS] at ss
    have Sl : S.length ≤ 2 := by rw [hS]; exact sortU_len2 _ _
    have zbj : Szc (f.b * j) 40 := (inferInstance : Szc (f.b * j) (20 + 20))
    have Sb : ∀ t ∈ S, Szc t 60 := by
      intro t ht
      rw [hS, mem_sortU] at ht
      have h1 := zbj.h
      have h2 := zq.h
      simp at ht
      rcases ht with z | z
      · exact ⟨by omega⟩
      · exact ⟨by omega⟩
    obtain ⟨ρ2, w2, done, todo, y, g0, g1, g2⟩ := for_P (w := w) (g := gN 11) (LpI f N size h j R root l S) (fun d ds ρ hp => lp_in hf Sl (by omega) Sb d ds ρ hp) (S.map .int) [some f.enc, some (.int N), some (.int f.a), some (.int f.b), some (.int f.c), some (.int size), some (.list (l.map encP)), some (.int h), some (.int j), some (.int R), some (.int root), x11]
      ⟨[], S, x11, rfl, rfl, by simp [ptsL]⟩
    have td : todo = [] := by
      cases todo with
      | nil => rfl
      | cons a b => cases g1
    subst td
    rw [List.append_nil] at g0
    subst g0
    subst g2
    obtain ⟨l', hl'⟩ : ∃ l', l' = l ++ ptsL f.a j S := ⟨_, rfl⟩
    rw [← hl'] at w2
    obtain ⟨m1, m2, m3⟩ := keep hl' (by rw [hS]; exact sortU_lt _) Sl (fun x => by
      rw [at_iff, ← c, hS, mem_sortU]
      simp
      constructor
      · intro z
        have : (2 * f.a * x + f.b * j - root) * (2 * f.a * x + f.b * j + root) = 0 := by grind
        rcases Int.mul_eq_zero.1 this with y | y
        · left; omega
        · right; omega
      · rintro (z | z)
        · rw [z]; grind
        · rw [z]; grind)
    have sq : seqOf (PyData.list (S.map .int)) = some (S.map .int) := rfl
    generalize hSS : S.map PyData.int = SS at *
    generalize hLL : l.map encP = LL at *
    simp [v1, v2, v3, v4, v5, v6, hR, fl, c, ss, sq, w2]
    exact .next ⟨j + 1, l', _, _, _, _, rfl, rfl, by omega, by omega, m1, m2, m3⟩
  · obtain ⟨m1, m2, m3⟩ := keep (l' := l) (S := []) (by simp [ptsL]) List.Pairwise.nil (by simp) (fun x => by
      rw [at_iff]
      constructor
      · intro z
        exfalso
        have ss := sqB_root hroot
        rw [sqB_true.2 ⟨_, z⟩] at ss
        exact c (of_decide_eq_true ss.symm)
      · intro z; cases z)
    simp [v1, v2, v3, v4, v6, hR, fl, c]
    exact .next ⟨j + 1, l, _, _, _, _, rfl, rfl, by omega, by omega, m1, m2, m3⟩
theorem L_points_ok {f : Fm} (hf : Psm f) {N : Int} (N0 : 0 < N) (N1 : N ≤ 400000) : ∃ l : List (Int × Int), d_L_points [f.enc, .int N] = .ok (.list (l.map encP)) [] ∧ l.Nodup ∧ (∀ q : Int × Int, q ∈ l ↔ f.at q.1 q.2 = N) ∧ l.length ≤ 4000000 := by
  have a0 := hf.a0; have a1 := hf.a1; have b1 := hf.b1; have dn := hf.dn; have c1 := hf.c1
  have za : Szc f.a 20 := ⟨by omega⟩
  have zb : Szc f.b 20 := ⟨by omega⟩
  have zc : Szc f.c 20 := ⟨by have := neg_disc_pos dn a0; omega⟩
  have zN : Szc N 20 := ⟨by omega⟩
  have z4 : Szc 4 3 := ⟨by decide⟩
  obtain ⟨size, hs⟩ : ∃ size, size = -f.disc := ⟨_, rfl⟩
  have es : 4 * f.a * f.c - f.b * f.b = size := by rw [hs]; simp only [Fm.disc]; omega
  have zs : Szc size 60 := by
    rw [← es]
    exact szcMono (inferInstance : Szc (4 * f.a * f.c - f.b * f.b) (max (3 + 20 + 20) (20 + 20) + 1)) (by omega)
  have s0 : 0 < size := by omega
  have v1 := vMul_le z4 za (by omega)
  have v2 := vMul_le (inferInstance : Szc (4 * f.a) (3 + 20)) zc (by omega)
  have v3 := vMul_le zb zb (by omega)
  have v4 := vMul_le (inferInstance : Szc (4 * f.a) (3 + 20)) zN (by omega)
  have aN : 4 * f.a * N ≤ 640000000000 ∧ 0 ≤ 4 * f.a * N := by
    have := Int.mul_le_mul a1 N1 (by omega) (by omega)
    have := Int.mul_nonneg (show 0 ≤ f.a by omega) (show 0 ≤ N by omega)
    have e : 4 * f.a * N = 4 * (f.a * N) := by grind
    omega
  obtain ⟨Q, hQ⟩ : ∃ Q, Q = 4 * f.a * N / size := ⟨_, rfl⟩
  have Q0 : 0 ≤ Q := by rw [hQ]; exact Int.ediv_nonneg aN.2 (by omega)
  have Q1 : Q ≤ 640000000000 := by
    have := Int.ediv_le_self size aN.2
    have : 4 * f.a * N / size ≤ 4 * f.a * N := Int.ediv_le_self _ aN.2
    omega
  have Qs : size * Q ≤ 4 * f.a * N := by rw [hQ]; exact Int.mul_ediv_self_le (by omega)
  have fd : vFdiv (.int (4 * f.a * N)) (.int size) = some (.int Q) := by
    rw [vFdiv_c (n := 60) (hb := zs) (by omega) (by omega), Int.fdiv_eq_ediv_of_nonneg _ (by omega), hQ]
  obtain ⟨h, hh⟩ := rt2_ex Q0
  have fl := L_floor_is hh Q0 (k := 60) ⟨by omega⟩ (by omega)
  have h0 := hh.r0; have hlo := hh.lo; have hhi := hh.hi
  have hb : h ≤ 800000 := by
    apply Int.not_lt.1
    intro z
    have := Int.mul_le_mul (show 800001 ≤ h by omega) (show 800001 ≤ h by omega) (by omega) (by omega)
    omega
  have shh : size * (h * h) ≤ 4 * f.a * N := by
    have := Int.mul_le_mul_of_nonneg_left hlo (show 0 ≤ size by omega)
    omega
  have yb : ∀ x y : Int, f.at x y = N → -h ≤ y ∧ y ≤ h := by
    intro x y e
    have e2 := at_sq f x y
    rw [e] at e2
    have s1 := sq_nonneg (2 * f.a * x + f.b * y)
    have ed : f.disc * y * y = -(size * (y * y)) := by rw [hs]; grind
    have : size * (y * y) ≤ 4 * f.a * N := by omega
    have : y * y ≤ Q := by
      rw [hQ]
      exact (Int.le_ediv_iff_mul_le s0).2 (by rw [Int.mul_comm]; exact this)
    exact sq_le_of hh this
  have rg : iRange [.int (-h), .int (h + 1)] = some (rangeL (-h) 1 (h + 1 - -h).toNat) := range2 (by omega) (by omega)
  obtain ⟨ρ', w1, j, l, x9, x10, x11, x8, e1, e2, j1, j2, nd, mem, len⟩ := for_P (w := []) (g := gN 8) (LpO f N size h) (fun d ds ρ hp => lp_out hf N0 N1 hs h0 hb shh d ds ρ hp) (rangeL (-h) 1 (h + 1 - -h).toNat) [some f.enc, some (.int N), some (.int f.a), some (.int f.b), some (.int f.c), some (.int size), some (.list []), some (.int h), none, none, none, none]
    ⟨-h, [], none, none, none, none, rfl, rfl, by omega, by omega, List.nodup_nil, fun q => ⟨fun z => (by cases z), fun ⟨k1, k2⟩ => (by have := yb _ _ k1; omega)⟩, by rw [List.length_nil]; omega⟩
  have j3 := rng_nil e1
  subst e2
  refine ⟨l, ?_, nd, fun q => ?_, by omega⟩
  · have fe : f.enc = .tuple [.int f.a, .int f.b, .int f.c] := rfl
    generalize hM : (h + 1 - -h).toNat = M at *
    unfold d_L_points
    rw [fe] at w1 ⊢
    simp [v1, v2, v3, v4, es, fd, fl, rg, w1]
  · rw [mem]
    exact ⟨fun z => z.1, fun z => ⟨z, by have := yb _ _ z; omega⟩⟩
theorem pt_sz {f : Fm} (hf : Psm f) {N : Int} (N0 : 0 < N) (N1 : N ≤ 400000) {x y : Int} (h : f.at x y = N) : Szc x 21 ∧ Szc y 21 := by
  have a0 := hf.a0; have a1 := hf.a1; have dn := hf.dn; have c1 := hf.c1
  have c0 := neg_disc_pos dn a0
  have key : ∀ {A B z : Int}, 0 < A → A ≤ 400000 → 4 * A * N = B * B - f.disc * z * z → Szc z 21 := by
    intro A B z hA hA1 e
    have s1 := sq_nonneg B
    have s2 := sq_nonneg z
    have e2 : f.disc * z * z = f.disc * (z * z) := by grind
    have k := Int.mul_le_mul_of_nonneg_right (show 1 ≤ -f.disc by omega) s2
    have k2 : -f.disc * (z * z) = -(f.disc * (z * z)) := by grind
    have aN := Int.mul_le_mul hA1 N1 (by omega) (by omega)
    have e3 : 4 * A * N = 4 * (A * N) := by grind
    have zz : (z.natAbs : Int) * z.natAbs = z * z := Int.natAbs_mul_self' z
    have : (z.natAbs : Int) ≤ 800000 := by
      apply Int.not_lt.1
      intro w
      have := Int.mul_le_mul (show 800001 ≤ (z.natAbs : Int) by omega) (show 800001 ≤ (z.natAbs : Int) by omega) (by omega) (by omega)
      omega
    exact ⟨by omega⟩
  constructor
  · refine key (A := f.c) (B := 2 * f.c * y + f.b * x) (z := x) c0 c1 ?_
    rw [← h]; simp only [Fm.at, Fm.disc]; grind
  · refine key (A := f.a) (B := 2 * f.a * x + f.b * y) (z := y) a0 a1 ?_
    rw [← h]; exact at_sq f x y
theorem nodup_lenG {α : Type} [DecidableEq α] : ∀ (l m : List α), l.Nodup → (∀ x ∈ l, x ∈ m) → l.length ≤ m.length
  | [], m, _, _ => Nat.zero_le _
  | x :: l, m, h, k => by
    obtain ⟨h1, h2⟩ := List.nodup_cons.1 h
    have hx := k x (by simp)
    have := nodup_lenG l (m.erase x) h2 fun y hy => by
      have ne : y ≠ x := fun e => by subst e; exact h1 hy
      exact (List.mem_erase_of_ne ne).2 (k y (List.mem_cons_of_mem _ hy))
    have e := List.length_erase_of_mem hx
    have : 1 ≤ m.length := List.length_pos_of_mem hx
    rw [List.length_cons]; omega
def LsC (f : Fm) (m : Mt) : Prop := m.det = 1 ∧ f.turn m = f
def LsI (f : Fm) (PB done : List (Int × Int)) (p r : Int) : List PyData → Ev → Prop := fun ds ρ => ∃ (d2 todo : List (Int × Int)) (l : List Mt) (x4 x5 : Option PyData), PB = d2 ++ todo ∧ ds = todo.map encP ∧ ρ = [some f.enc, some (.list (l.map Mt.enc)), some (.int p), some (.int r), x4, x5] ∧ l.Nodup ∧ (∀ m : Mt, m ∈ l ↔ LsC f m ∧ (((m.p, m.r) ∈ done ∧ (m.q, m.s) ∈ PB) ∨ ((m.p, m.r) = (p, r) ∧ (m.q, m.s) ∈ d2)))
def LsO (f : Fm) (PA PB : List (Int × Int)) : List PyData → Ev → Prop := fun ds ρ => ∃ (done todo : List (Int × Int)) (l : List Mt) (x2 x3 x4 x5 : Option PyData), PA = done ++ todo ∧ ds = todo.map encP ∧ ρ = [some f.enc, some (.list (l.map Mt.enc)), x2, x3, x4, x5] ∧ l.Nodup ∧ (∀ m : Mt, m ∈ l ↔ LsC f m ∧ ((m.p, m.r) ∈ done ∧ (m.q, m.s) ∈ PB))
theorem ls_in {f : Fm} (hf : Psm f) {L : List Mt} (hL : SelIs f L) (hl : L.length ≤ 100) {PB done : List (Int × Int)} (nB : PB.Nodup) {p r : Int} (nd : (p, r) ∉ done) (zp : Szc p 21) (zr : Szc r 21) (zB : ∀ q ∈ PB, Szc q.1 21 ∧ Szc q.2 21) {w : Wd} (d : PyData) (ds : List PyData) (ρ : Ev) (hp : LsI f PB done p r (d :: ds) ρ) :
    ∃ ρ1, gT (gsCons (gN 4) (gsCons (gN 5) gsNil)) d ρ = some ρ1 ∧ FStep (LsI f PB done p r ds) (fun _ => False) w (sIf (bAnd (bBin vEq (eBin vSub (eBin vMul (eVar 2) (eVar 5)) (eBin vMul (eVar 4) (eVar 3))) (eC (.int 1))) (bBin vEq (eCall d_L_turned (aCons (eVar 0) (aCons (eTup (aCons (eVar 2) (aCons (eVar 4) (aCons (eVar 3) (aCons (eVar 5) aNil))))) aNil))) (eVar 0))) (sApp 1 (eTup (aCons (eVar 2) (aCons (eVar 4) (aCons (eVar 3) (aCons (eVar 5) aNil)))))) sNext ρ1 w) := by
  obtain ⟨d2, todo, l, x4, x5, e0, e1, e2, ln, mem⟩ := hp
  cases todo with
  | nil => cases e1
  | cons t todo =>
    rw [List.map_cons] at e1
    obtain ⟨rfl, rfl⟩ := List.cons.inj e1
    subst e2
    obtain ⟨q, s⟩ := t
    refine ⟨_, rfl, ?_⟩
    obtain ⟨zq, zs⟩ := zB (q, s) (by rw [e0]; simp)
    obtain ⟨m, hm⟩ : ∃ m : Mt, m = ⟨p, q, r, s⟩ := ⟨_, rfl⟩
    have v1 := vMul_le zp zs (by omega)
    have v2 := vMul_le zq zr (by omega)
    have a0 := hf.a0; have a1 := hf.a1; have b1 := hf.b1; have dn := hf.dn; have c1 := hf.c1
    have fb : FB 20 f := ⟨⟨by omega⟩, ⟨by omega⟩, ⟨by have := neg_disc_pos dn a0; omega⟩⟩
    have mb : MB4 21 m := by rw [hm]; exact ⟨zp, zq, zr, zs⟩
    have tu := L_turned_ok fb mb (by omega)
    have me : PyData.tuple [.int p, .int q, .int r, .int s] = m.enc := by rw [hm]; rfl
    have dt : p * s - q * r = m.det := by rw [hm]; rfl
    have e0' : PB = (d2 ++ [(q, s)]) ++ todo := by rw [e0]; simp
    have ni : (q, s) ∉ d2 := by
      rw [e0] at nB
      have := (List.nodup_append.1 nB).2.2
      intro z
      exact this _ z _ (by simp) rfl
    have ll : (l.map Mt.enc).length < sizeLine := by
      have := nodup_lenG l L ln fun x hx => (hL.mem x).2 ((mem x).1 hx).1
      show _ < 16777216
      rw [List.length_map]; omega
    have split : ∀ k : Mt, ((k.p, k.r) = (p, r) ∧ (k.q, k.s) ∈ d2 ++ [(q, s)]) ↔ ((k.p, k.r) = (p, r) ∧ (k.q, k.s) ∈ d2) ∨ k = m := by
      intro k
      rw [List.mem_append, List.mem_singleton, hm]
      constructor
      · rintro ⟨h1, h2 | h2⟩
        · exact .inl ⟨h1, h2⟩
        · right
          simp only [Prod.mk.injEq] at h1 h2
          exact Mt.ext h1.1 h2.1 h1.2 h2.2
      · rintro (⟨h1, h2⟩ | h)
        · exact ⟨h1, .inl h2⟩
        · subst h; exact ⟨rfl, .inr rfl⟩
    have notin : m ∉ l := by
      intro z
      rcases ((mem m).1 z).2 with ⟨k1, _⟩ | ⟨_, k1⟩
      · rw [hm] at k1; exact nd k1
      · rw [hm] at k1; exact ni k1
    have no : ¬ LsC f m → ∀ k : Mt, k ∈ l ↔ LsC f k ∧ (((k.p, k.r) ∈ done ∧ (k.q, k.s) ∈ PB) ∨ ((k.p, k.r) = (p, r) ∧ (k.q, k.s) ∈ d2 ++ [(q, s)])) := by
      intro c k
      rw [mem, split]
      constructor
      · rintro ⟨h1, h2 | h2⟩
        · exact ⟨h1, .inl h2⟩
        · exact ⟨h1, .inr (.inl h2)⟩
      · rintro ⟨h1, h2 | h2 | h2⟩
        · exact ⟨h1, .inl h2⟩
        · exact ⟨h1, .inr h2⟩
        · rw [h2] at h1; exact absurd h1 c
    have i0 : vEq (f.turn m).enc f.enc = some (decide (f.turn m = f)) := vEq_fm _ _
    generalize hFe : f.enc = Fe at *
    by_cases c1 : m.det = 1
    · by_cases c2 : f.turn m = f
      · obtain ⟨l', hl'⟩ : ∃ l', l' = l ++ [m] := ⟨_, rfl⟩
        have nl : l.map Mt.enc ++ [m.enc] = l'.map Mt.enc := by rw [hl']; simp
        rw [decide_eq_true c2] at i0
        generalize hA : l.map Mt.enc = A at *
        simp [v1, v2, me, tu, dt, c1, i0, ll, nl]
        refine .next ⟨d2 ++ [(q, s)], todo, l', _, _, e0', rfl, by rw [hFe], ?_, fun k => ?_⟩
        · rw [hl']
          exact List.nodup_append.2 ⟨ln, (by simp), fun a ha b hb e => by
            rw [List.mem_singleton] at hb
            subst hb; subst e; exact notin ha⟩
        · rw [hl', List.mem_append, List.mem_singleton, mem, split]
          constructor
          · rintro (⟨h1, h2 | h2⟩ | h)
            · exact ⟨h1, .inl h2⟩
            · exact ⟨h1, .inr (.inl h2)⟩
            · subst h; exact ⟨⟨c1, c2⟩, .inr (.inr rfl)⟩
          · rintro ⟨h1, h2 | h2 | h2⟩
            · exact .inl ⟨h1, .inl h2⟩
            · exact .inl ⟨h1, .inr h2⟩
            · exact .inr h2
      · rw [decide_eq_false c2] at i0
        simp [v1, v2, me, tu, dt, c1, i0]
        exact .next ⟨d2 ++ [(q, s)], todo, l, _, _, e0', rfl, by rw [hFe], ln, no fun z => c2 z.2⟩
    · simp [v1, v2, me, tu, dt, c1, i0]
      exact .next ⟨d2 ++ [(q, s)], todo, l, _, _, e0', rfl, by rw [hFe], ln, no fun z => c1 z.1⟩
theorem L_selves_ok {f : Fm} (hf : Psm f) {L : List Mt} (hL : SelIs f L) (hl : L.length ≤ 100) : d_L_selves [f.enc] = .ok (selS L) [] := by
  have a0 := hf.a0; have a1 := hf.a1; have dn := hf.dn; have c1 := hf.c1
  have c0 := neg_disc_pos dn a0
  obtain ⟨PA, ea, nA, mA, lA⟩ := L_points_ok hf a0 a1
  obtain ⟨PB, eb, nB, mB, lB⟩ := L_points_ok hf c0 c1
  have zA : ∀ q ∈ PA, Szc q.1 21 ∧ Szc q.2 21 := fun q hq => pt_sz hf a0 a1 ((mA q).1 hq)
  have zB : ∀ q ∈ PB, Szc q.1 21 ∧ Szc q.2 21 := fun q hq => pt_sz hf c0 c1 ((mB q).1 hq)
  have ia : vIx f.enc (.int 0) = some (.int f.a) := rfl
  have ic : vIx f.enc (.int 2) = some (.int f.c) := rfl
  have sqA : seqOf (PyData.list (PA.map encP)) = some (PA.map encP) := rfl
  have sqB : seqOf (PyData.list (PB.map encP)) = some (PB.map encP) := rfl
  obtain ⟨ρ', w1, done, todo, l, x2, x3, x4, x5, e0, e1, e2, ln, mem⟩ := for_P (w := []) (g := gT (gsCons (gN 2) (gsCons (gN 3) gsNil))) (db := sFor (iSeq (eCall d_L_points (aCons (eVar 0) (aCons (eBin vIx (eVar 0) (eC (.int 2))) aNil)))) (gT (gsCons (gN 4) (gsCons (gN 5) gsNil))) (sIf (bAnd (bBin vEq (eBin vSub (eBin vMul (eVar 2) (eVar 5)) (eBin vMul (eVar 4) (eVar 3))) (eC (.int 1))) (bBin vEq (eCall d_L_turned (aCons (eVar 0) (aCons (eTup (aCons (eVar 2) (aCons (eVar 4) (aCons (eVar 3) (aCons (eVar 5) aNil))))) aNil))) (eVar 0))) (sApp 1 (eTup (aCons (eVar 2) (aCons (eVar 4) (aCons (eVar 3) (aCons (eVar 5) aNil)))))) sNext))
    (LsO f PA PB) (by
      intro d ds ρ ⟨done, todo, l, x2, x3, x4, x5, e0, e1, e2, ln, mem⟩
      cases todo with
      | nil => cases e1
      | cons t todo =>
        rw [List.map_cons] at e1
        obtain ⟨rfl, rfl⟩ := List.cons.inj e1
        subst e2
        obtain ⟨p, r⟩ := t
        refine ⟨_, rfl, ?_⟩
        obtain ⟨zp, zr⟩ := zA (p, r) (by rw [e0]; simp)
        have ni : (p, r) ∉ done := by
          rw [e0] at nA
          have := (List.nodup_append.1 nA).2.2
          intro z
          exact this _ z _ (by simp) rfl
        obtain ⟨ρ2, w2, d2, todo2, l2, y4, y5, g0, g1, g2, ln2, mem2⟩ := for_P (w := []) (g := gT (gsCons (gN 4) (gsCons (gN 5) gsNil))) (LsI f PB done p r) (fun d ds ρ hp => ls_in hf hL hl nB ni zp zr zB d ds ρ hp) (PB.map encP) [some f.enc, some (.list (l.map Mt.enc)), some (.int p), some (.int r), x4, x5]
          ⟨[], PB, l, x4, x5, rfl, rfl, rfl, ln, fun m => by
            rw [mem]
            constructor
            · rintro ⟨h1, h2⟩; exact ⟨h1, .inl h2⟩
            · rintro ⟨h1, h2 | ⟨_, h2⟩⟩
              · exact ⟨h1, h2⟩
              · cases h2⟩
        have td : todo2 = [] := by
          cases todo2 with
          | nil => rfl
          | cons a b => cases g1
        subst td
        rw [List.append_nil] at g0
        subst g0
        subst g2
        have e0' : PA = (done ++ [(p, r)]) ++ todo := by rw [e0]; simp
        generalize hAA : l.map Mt.enc = LA at *
        generalize hBB : PB.map encP = BB at *
        generalize hFe : f.enc = Fe at *
        simp [ic, eb, sqB, w2]
        refine .next ⟨done ++ [(p, r)], todo, l2, _, _, _, _, e0', rfl, by rw [hFe], ln2, fun m => ?_⟩
        rw [mem2, List.mem_append, List.mem_singleton]
        constructor
        · rintro ⟨h1, h2 | ⟨h2, h3⟩⟩
          · exact ⟨h1, .inl h2.1, h2.2⟩
          · exact ⟨h1, .inr h2, h3⟩
        · rintro ⟨h1, h2 | h2, h3⟩
          · exact ⟨h1, .inl ⟨h2, h3⟩⟩
          · exact ⟨h1, .inr ⟨h2, h3⟩⟩)
    (PA.map encP) [some f.enc, some (.list []), none, none, none, none] ⟨[], PA, [], none, none, none, none, rfl, rfl, rfl, List.nodup_nil, fun m => ⟨fun z => (by cases z), fun ⟨_, z, _⟩ => (by cases z)⟩⟩
  have td : todo = [] := by
    cases todo with
    | nil => rfl
    | cons a b => cases e1
  subst td
  rw [List.append_nil] at e0
  subst e0
  subst e2
  have sl : SelIs f l := ⟨ln, fun m => by
    rw [mem, mA, mB]
    constructor
    · intro h; exact h.1
    · intro h
      exact ⟨h, congrArg Fm.a h.2, congrArg Fm.c h.2⟩⟩
  have len := nodup_lenG l L ln fun x hx => (hL.mem x).2 ((sl.mem x).1 hx)
  have srt := fSortD_mts (L := l) (by omega)
  rw [sl.same hL] at srt
  generalize hAA : l.map Mt.enc = LA at *
  generalize hBB : PA.map encP = BB at *
  unfold d_L_selves
  simp [ia, ea, sqA, w1, srt]
end M

set_option Elab.async false
set_option linter.all false
set_option maxRecDepth 100000
set_option maxHeartbeats 4000000
namespace M
/-! ### units of norm -1 -/
theorem par_any {D t u e : Int} (hD : D % 4 = 0 ∨ D % 4 = 1) (hu : t * t - D * u * u = 4 * e) : (t - D % 2 * u) % 2 = 0 := by
  have d := prinF_disc hD
  have d2 : (D % 2) * (D % 2) - 4 * (prinF D).c = D := by
    have : (prinF D).disc = (D % 2) * (D % 2) - 4 * 1 * (prinF D).c := rfl
    omega
  have e1 : (t - D % 2 * u) * (t + D % 2 * u) = 4 * (e - (prinF D).c * u * u) := by
    have : D * u * u = ((D % 2) * (D % 2) - 4 * (prinF D).c) * u * u := by rw [d2]
    grind
  rcases Int.emod_two_eq (t - D % 2 * u) with z | z
  · exact z
  · exfalso
    have z2 : (t + D % 2 * u) % 2 = 1 := by omega
    have := Int.mul_emod (t - D % 2 * u) (t + D % 2 * u) 2
    rw [z, z2, e1] at this
    omega
theorem quot_par {D e T U y g g' g2 x : Int} (a1 : T = 2 * g + e * U) (a2 : x = 2 * g' + e * y) (dd : e * e - D = 2 * g2) : x * T - D * y * U = 2 * (g' * T + e * y * g + g2 * (y * U)) := by
  have : D = e * e - 2 * g2 := by omega
  subst this; subst a1; subst a2
  grind
theorem tt4 (T : Int) : (T - 2) * (T + 2) = T * T - 4 := by grind
theorem lt_of_sq {x y : Int} (hy : 0 ≤ y) (h : x * x < y * y) : x < y := by
  apply Int.not_le.1
  intro z
  have := Int.mul_le_mul z z hy (by omega)
  omega
structure Below (D T U x y : Int) : Prop where
  x1 : 1 ≤ x
  y1 : 1 ≤ y
  n : x * x - D * y * y = -4
  T : T + 2 = D * (y * y)
  U : U = x * y
  le : ∀ u v : Int, u * u - D * v * v = -4 → v ≠ 0 → y ≤ v.natAbs
theorem below_of {D T U : Int} (F : Fund D T U) (hD : D % 4 = 0 ∨ D % 4 = 1) (hn : NSq D) (hD0 : 0 < D) {a b : Int} (hab : a * a - D * b * b = -4) : ∃ x y, Below D T U x y := by
  have b0 : b ≠ 0 := by
    intro z
    subst z
    have := sq_nonneg a
    omega
  have absn : ∀ {u v : Int}, u * u - D * v * v = -4 → (u.natAbs : Int) * u.natAbs - D * v.natAbs * v.natAbs = -4 := by
    intro u v h
    have e1 : (u.natAbs : Int) * u.natAbs = u * u := Int.natAbs_mul_self' u
    have e2 : (v.natAbs : Int) * v.natAbs = v * v := Int.natAbs_mul_self' v
    have e3 : D * v.natAbs * v.natAbs = D * (v.natAbs * v.natAbs) := by grind
    rw [e3, e1, e2, ← h]; grind
  obtain ⟨k, _, ⟨⟨x, y, xy, yk, y1⟩, _⟩, kmin⟩ := least_ex (p := fun k : Nat => (∃ x y : Int, x * x - D * y * y = -4 ∧ y = k ∧ 1 ≤ y) ∧ True) b.natAbs ⟨⟨a.natAbs, b.natAbs, absn hab, rfl, by omega⟩, trivial⟩
  have least : ∀ u v : Int, u * u - D * v * v = -4 → v ≠ 0 → y ≤ v.natAbs := by
    intro u v h hv
    apply Int.not_lt.1
    intro z
    exact kmin v.natAbs (by omega) ⟨⟨u.natAbs, v.natAbs, absn h, rfl, by omega⟩, trivial⟩
  -- x above 0
  obtain ⟨x, x0, xy⟩ : ∃ x : Int, 0 ≤ x ∧ x * x - D * y * y = -4 := ⟨x.natAbs, by omega, by
    have e1 : (x.natAbs : Int) * x.natAbs = x * x := Int.natAbs_mul_self' x
    rw [e1]; exact xy⟩
  have x1 : 1 ≤ x := by
    rcases (show x = 0 ∨ 1 ≤ x by omega) with z | z
    · exfalso
      subst z
      have e : D * (y * y) = 4 := by have : D * y * y = D * (y * y) := by grind
                                     omega
      rcases (show y = 1 ∨ y = 2 ∨ 3 ≤ y by omega) with w | w | w
      · subst w; exact hn 2 (by omega)
      · subst w; exact hn 1 (by omega)
      · have := Int.mul_le_mul w w (by omega) (by omega)
        have := Int.mul_le_mul_of_nonneg_right (show 1 ≤ D by omega) (show 0 ≤ y * y by omega)
        omega
    · exact z
  have eD : D * y * y = D * (y * y) := by grind
  -- its square
  have sq : (D * (y * y) - 2) * (D * (y * y) - 2) - D * (x * y) * (x * y) = 4 := by
    have e : D * (x * y) * (x * y) = (x * x) * (D * (y * y)) := by grind
    have e2 : x * x = D * (y * y) - 4 := by omega
    rw [e, e2]; grind
  have yy := Int.mul_le_mul y1 y1 (by omega) (by omega)
  have hxy := Int.mul_le_mul x1 y1 (by omega) (by omega)
  have D1 := Int.mul_le_mul_of_nonneg_left yy (show 0 ≤ D by omega)
  have D5 : 5 ≤ D := by
    have := hn 1
    have := hn 2
    omega
  obtain ⟨j, j1, j2⟩ := F.all _ _ sq
  have T3 := F.T3
  have U1 := F.U1
  have eq : T + 2 = D * (y * y) ∧ U = x * y := by
    rcases (show j = 0 ∨ j = 1 ∨ 1 < j by omega) with z | z | z
    · subst z
      simp only [uP] at j2
      omega
    · subst z
      rw [uP_one.1] at j1
      rw [uP_one.2] at j2
      omega
    · exfalso
      have lt := uP_lt hD F.n hD0 F.T3 F.U1 z
      rw [uP_one.1, uP_one.2] at lt
      have TT : T < D * (y * y) - 2 := by omega
      have UU : U < x * y := by omega
      have p1 := par_any (e := -1) hD (by omega : x * x - D * y * y = 4 * -1)
      have p2 := par_any (e := 1) hD (by have := F.n; omega : T * T - D * U * U = 4 * 1)
      -- the quotient
      obtain ⟨y', hy'⟩ : ∃ y', 2 * y' = y * T - x * U := by
        refine ⟨(y * T - x * U) / 2, ?_⟩
        have e : y * T - x * U = y * (T - D % 2 * U) - U * (x - D % 2 * y) := by grind
        have m1 := Int.mul_ediv_add_emod (T - D % 2 * U) 2
        have m2 := Int.mul_ediv_add_emod (x - D % 2 * y) 2
        have e2 : y * T - x * U = 2 * (y * ((T - D % 2 * U) / 2) - U * ((x - D % 2 * y) / 2)) := by
          have a1 : T - D % 2 * U = 2 * ((T - D % 2 * U) / 2) := by omega
          have a2 : x - D % 2 * y = 2 * ((x - D % 2 * y) / 2) := by omega
          rw [e]
          generalize (T - D % 2 * U) / 2 = g at *
          generalize (x - D % 2 * y) / 2 = g' at *
          rw [a1, a2]; grind
        omega
      obtain ⟨x', hx'⟩ : ∃ x', 2 * x' = x * T - D * y * U := by
        refine ⟨(x * T - D * y * U) / 2, ?_⟩
        have m1 := Int.mul_ediv_add_emod (T - D % 2 * U) 2
        have m2 := Int.mul_ediv_add_emod (x - D % 2 * y) 2
        have a1 : T = 2 * ((T - D % 2 * U) / 2) + D % 2 * U := by omega
        have a2 : x = 2 * ((x - D % 2 * y) / 2) + D % 2 * y := by omega
        have dd : (D % 2) * (D % 2) - D = 2 * (((D % 2) * (D % 2) - D) / 2) := by
          rcases Int.emod_two_eq D with w | w <;> rw [w] <;> omega
        have e := quot_par a1 a2 dd
        omega
      have nm : x' * x' - D * y' * y' = -4 := by
        have e : 4 * (x' * x' - D * y' * y') = (2 * x') * (2 * x') - D * (2 * y') * (2 * y') := by grind
        rw [hx', hy'] at e
        have e2 : (x * T - D * y * U) * (x * T - D * y * U) - D * (y * T - x * U) * (y * T - x * U) = (x * x - D * y * y) * (T * T - D * U * U) := by grind
        rw [e2, xy, F.n] at e
        omega
      have pos : 0 < y' := by
        have : x * U < y * T := lt_of_sq (Int.mul_nonneg (by omega) (by omega)) (by
          have e1 : y * T * (y * T) = (y * y) * (T * T) := by grind
          have e2 : x * U * (x * U) = (x * x) * (U * U) := by grind
          have e3 : x * x = D * (y * y) - 4 := by omega
          have e4 : T * T = D * (U * U) + 4 := by have := F.n; have : D * U * U = D * (U * U) := by grind
                                                  omega
          rw [e1, e2, e3, e4]
          have := Int.mul_le_mul U1 U1 (by omega) (by omega)
          have : (D * (y * y) - 4) * (U * U) = (y * y) * (D * (U * U)) - 4 * (U * U) := by grind
          have : (y * y) * (D * (U * U) + 4) = (y * y) * (D * (U * U)) + 4 * (y * y) := by grind
          omega)
        omega
      have small : y' < y := by
        have : y * (T - 2) < x * U := lt_of_sq (Int.mul_nonneg (by omega) (by omega)) (by
          have e1 : y * (T - 2) * (y * (T - 2)) = (y * y) * ((T - 2) * (T - 2)) := by grind
          have e2 : x * U * (x * U) = (x * x) * (U * U) := by grind
          have e3 : x * x = D * (y * y) - 4 := by omega
          have e4 : D * (U * U) = (T - 2) * (T + 2) := by
            have := F.n
            have i1 : (T - 2) * (T + 2) = T * T - 4 := tt4 T
            have i2 : D * U * U = D * (U * U) := Int.mul_assoc _ _ _
            omega
          have e5 : (D * (y * y) - 4) * (U * U) = (y * y) * (D * (U * U)) - 4 * (U * U) := by grind
          rw [e1, e2, e3, e5, e4]
          have e6 : (y * y) * ((T - 2) * (T + 2)) - (y * y) * ((T - 2) * (T - 2)) = 4 * ((y * y) * (T - 2)) := by grind
          have : U * U < (y * y) * (T - 2) := by
            have h1 : D * (U * U) < D * ((y * y) * (T - 2)) := by
              rw [e4]
              have := Int.mul_lt_mul_of_pos_left (show T + 2 < D * (y * y) by omega) (show 0 < T - 2 by omega)
              have : D * ((y * y) * (T - 2)) = (T - 2) * (D * (y * y)) := by grind
              omega
            exact Int.lt_of_mul_lt_mul_left h1 (by omega)
          omega)
        have e : y * (T - 2) = y * T - 2 * y := by grind
        omega
      have := least x' y' nm (by omega)
      omega
  exact ⟨x, y, x1, y1, xy, eq.1, eq.2, least⟩
theorem Below.uniq {D T U x y : Int} (B : Below D T U x y) (hD0 : 0 < D) {u v : Int} (h : u * u - D * v * v = -4) (hv : v ≠ 0) : y ≤ v.natAbs := B.le u v h hv
/-- no answer of norm -1: the test of the program fails -/
theorem no_below {D T U y q : Int} (hn : ∀ a b : Int, a * a - D * b * b ≠ -4) : ¬ (q * q - D * y * y = -4) := hn q y
end M

set_option Elab.async false
set_option linter.all false
set_option maxRecDepth 100000
set_option maxHeartbeats 4000000
namespace M
open PySem PySem.Spec PyProof.Rows L2
/-! ### units: the walks -/
theorem principal_ok (D : Int) : d_principal_form [.int D] = .ok (prinF D).enc [] := by
  unfold d_principal_form
  simp [modP (b := 2) (by omega), vFdiv_c (a := D % 2 - D) (b := 4) (n := 3) (by omega) (by omega), Fm.enc, prinF]
theorem is_discriminant_ok (D : Int) : d_is_discriminant [.int D] = .ok (.bool (decide (D % 4 = 0 ∨ D % 4 = 1))) [] := by
  have e : vIn (.int (D % 4)) (.tuple [.int 0, .int 1]) = some (decide (D % 4 = 0 ∨ D % 4 = 1)) := by
    have g : vIn (.int (D % 4)) (.tuple [.int 0, .int 1]) = if SeqAt.shaped (.int (D % 4)) = true ∧ SeqAt.shaped (.tuple [.int 0, .int 1]) = true then some ([PyData.int 0, .int 1].any fun z => PyData.eqv z (.int (D % 4))) else none := rfl
    rw [g, if_pos ⟨shaped_of (fl_int 0 _) (by omega), shaped_of (n := 1) (fl_tuple (fl_cons (fl_int 0 _) (fl_cons (fl_int 0 _) fl_nil))) (by omega)⟩]
    simp only [List.any_cons, List.any_nil, eqv_int, Bool.or_false]
    by_cases h0 : D % 4 = 0
    · simp [h0]
    · by_cases h1 : D % 4 = 1
      · simp [h1]
      · simp [h0, h1, show ¬ 0 = D % 4 by omega, show ¬ 1 = D % 4 by omega]
  unfold d_is_discriminant
  simp [modP (b := 4) (by omega), e]
/-- what stands fast for one discriminant -/
structure DOk (D : Int) : Prop where
  pos : 0 < D
  m : D % 4 = 0 ∨ D % 4 = 1
  n : NSq D
  b : D < 2116
theorem DOk.mix {D : Int} (h : DOk D) : ∃ r, Mix D r (prinF D) ∧ r ≤ 45 := by
  obtain ⟨r, hr⟩ := rt2_ex (n := D) (by have := h.pos; omega)
  have hb := h.b; have hp := h.pos
  have e : (prinF D).c = (D % 2 - D) / 4 := Int.fdiv_eq_ediv_of_nonneg _ (by omega)
  refine ⟨r, ⟨prinF_disc h.m, hr, h.n, by omega, ⟨by show (1 : Int).natAbs < _; decide⟩, ⟨by show (D % 2).natAbs < _; omega⟩, ⟨by rw [e]; omega⟩⟩, ?_⟩
  apply Int.not_lt.1
  intro z
  have := Int.mul_le_mul (show 46 ≤ r by omega) (show 46 ≤ r by omega) (by omega) (by omega)
  have := hr.lo
  omega
theorem abs_if (x : Int) : (if x < 0 then -x else x) = (x.natAbs : Int) := by omega
theorem least_unit_ok {D : Int} (h : DOk D) : ∃ T U, d_least_unit [.int D] = .ok (.tuple [.int T, .int U]) [] ∧ Fund D T U ∧ Szc T 29304 ∧ Szc U 29304 := by
  obtain ⟨r, mx, r34⟩ := h.mix
  have hp := h.pos; have hb := h.b
  have zD : Szc D 12 := ⟨by omega⟩
  obtain ⟨k, k1, fr⟩ := first_ex mx
  have mk := Mix.gs k mx
  obtain ⟨n, n1, pn⟩ := per_ex mk fr.red
  have r0 := mx.r.r0
  have nb : n ≤ 4186 := by
    have := Int.mul_le_mul (show r + 1 ≤ 46 by omega) (show 2 * r + 1 ≤ 91 by omega) (by omega) (by omega)
    omega
  have zr : Szc r 6 := ⟨by omega⟩
  have rd := reduced_mixed_ok mx fr
  have al := twist_along_ok mk fr.red pn zr (by omega) (by omega)
  have wb := (red_W mk fr.red zr (by omega) n).mono (show _ ≤ 29303 by omega)
  have dd : (M.gs r k (prinF D)).disc = D := mk.d
  have det := gW_det r n (M.gs r k (prinF D))
  have slf : (M.gs r k (prinF D)).turn (gW r n (M.gs r k (prinF D))) = M.gs r k (prinF D) := by rw [gW_turn, pn.e]
  have back : (M.gs r k (prinF D)).turn (gW r k (prinF D)).inv = prinF D := by
    rw [← gW_turn]; exact Fm.turn_back _ (gW_det r k _)
  obtain ⟨x, y, z, hxyz⟩ := nat_mul_eq_one_form (f := M.gs r k (prinF D)) (m := (gW r k (prinF D)).inv) (by rw [back]; rfl)
  obtain ⟨t, u, au, tu⟩ := au_of_self slf det (disc_a0 mk.hn) hxyz
  obtain ⟨F, _⟩ := fund_of fr.red mk.hr mk.hn (by rw [dd]; exact h.m) pn.n1 pn.e pn.no au
  rw [dd] at F
  have pr := principal_ok D
  have dc := is_discriminant_ok D
  have sq := is_square_is zD (by omega)
  rw [sqB_false.2 h.n] at sq
  have dm : decide (D % 4 = 0 ∨ D % 4 = 1) = true := decide_eq_true h.m
  rw [dm] at dc
  generalize hW : gW r n (M.gs r k (prinF D)) = W at *
  generalize hg : M.gs r k (prinF D) = g at *
  have a0 : g.a ≠ 0 := disc_a0 mk.hn
  have fd : vFdiv (.int W.r) (.int g.a) = some (.int u) := by
    rw [vFdiv_c (n := 60) (hb := mk.fb.a) (by omega) a0, au.r, Int.mul_fdiv_cancel_left _ a0]
  have et := au.t
  refine ⟨t.natAbs, u.natAbs, ?_, F, ⟨?_⟩, ⟨?_⟩⟩
  · unfold d_least_unit
    simp [show ¬ D ≤ 0 by omega, sq, dc, pr, rd, al, fd, et, abs_if]
  · have := wb.p.h; have := wb.s.h
    have e2 : 2 ^ 29304 = 2 * 2 ^ 29303 := by rw [Nat.pow_succ]; omega
    omega
  · have := wb.r.h
    have e2 : 2 ^ 29304 = 2 * 2 ^ 29303 := by rw [Nat.pow_succ]; omega
    have : u.natAbs ≤ W.r.natAbs := by
      rw [au.r, Int.natAbs_mul]
      exact Nat.le_mul_of_pos_left _ (by omega)
    omega
end M

set_option Elab.async false
set_option linter.all false
set_option maxRecDepth 100000
set_option maxHeartbeats 4000000
namespace M
/-! ### the least unit from a matrix of which all others are powers; multiples of a form -/
theorem disc_mod4 (p : Fm) : p.disc % 4 = 0 ∨ p.disc % 4 = 1 := by
  have e : p.disc = p.b * p.b - 4 * (p.a * p.c) := by simp only [Fm.disc]; grind
  have : p.b * p.b % 4 = 0 ∨ p.b * p.b % 4 = 1 := by
    rcases Int.emod_two_eq p.b with z | z
    · obtain ⟨k, hk⟩ : ∃ k, p.b = 2 * k := ⟨p.b / 2, by omega⟩
      have : p.b * p.b = 4 * (k * k) := by rw [hk]; grind
      omega
    · obtain ⟨k, hk⟩ : ∃ k, p.b = 2 * k + 1 := ⟨p.b / 2, by omega⟩
      have : p.b * p.b = 4 * (k * k + k) + 1 := by rw [hk]; grind
      omega
  omega
theorem au_norm {f : Fm} {m : Mt} {t u : Int} (ha : IsAu f m t u) (det : m.det = 1) : t * t - f.disc * u * u = 4 := by
  have e : 4 * m.det = (m.p + m.s) * (m.p + m.s) - (m.s - m.p) * (m.s - m.p) - 4 * (m.q * m.r) := by simp only [Mt.det]; grind
  rw [det, ha.t, ha.b, ha.q, ha.r] at e
  have e2 : t * t - f.b * u * (f.b * u) - 4 * (-(f.c * u) * (f.a * u)) = t * t - f.disc * u * u := by simp only [Fm.disc]; grind
  omega
theorem fund_gen {P : Fm} {X : Mt} {t u : Int} (a0 : P.a ≠ 0) (D0 : 0 < P.disc) (ha : IsAu P X t u) (dX : X.det = 1) (nX : ¬ PmEq X Mt.one) (all : ∀ m : Mt, m.det = 1 → P.turn m = P → ∃ k, PmEq m (X.pw k) ∨ PmEq m.inv (X.pw k)) : Fund P.disc t.natAbs u.natAbs := by
  have hD := disc_mod4 P
  have norm := au_norm ha dX
  have u0 : u ≠ 0 := by
    intro z
    subst z
    refine nX ?_
    have tt : t * t = 2 * 2 := by omega
    have h1 := ha.t
    have h2 := ha.b
    have h3 := ha.q
    have h4 := ha.r
    have : t = 2 ∨ t = -2 := by
      rcases (show 0 ≤ t ∨ t < 0 by omega) with y | y
      · exact .inl (sq_inj y (by omega) tt)
      · right
        have := sq_inj (x := -t) (y := 2) (by omega) (by omega) (by rw [← tt]; grind)
        omega
    rcases this with y | y
    · left; ext <;> simp only [Mt.one] <;> omega
    · right; ext <;> simp only [Mt.one, Mt.neg] <;> omega
  have un : ((t.natAbs : Int)) * t.natAbs - P.disc * u.natAbs * u.natAbs = 4 := by
    have e1 : (t.natAbs : Int) * t.natAbs = t * t := Int.natAbs_mul_self' t
    have e2 : (u.natAbs : Int) * u.natAbs = u * u := Int.natAbs_mul_self' u
    have e3 : P.disc * u.natAbs * u.natAbs = P.disc * (u.natAbs * u.natAbs) := by grind
    rw [e3, e1, e2, ← norm]; grind
  have T3 : (3 : Int) ≤ t.natAbs := by
    apply Int.not_lt.1
    intro z
    have h1 := Int.mul_le_mul (show (t.natAbs : Int) ≤ 2 by omega) (show (t.natAbs : Int) ≤ 2 by omega) (by omega) (by omega)
    have h2 := Int.mul_pos (Int.mul_pos D0 (show (0 : Int) < u.natAbs by omega)) (show (0 : Int) < u.natAbs by omega)
    omega
  refine ⟨T3, by omega, un, ?_⟩
  intro t' u' hu'
  obtain ⟨m, hm'⟩ := au_ex hu'
  obtain ⟨s1, s2⟩ := self_of_au hm' hu'
  obtain ⟨k, j2⟩ := all m s2 s1
  have pk := (pw_au ha norm a0 k).1
  have sg := uP_sign (D := P.disc) (T := t.natAbs) (U := u.natAbs) t u (by omega) (by omega) (fun k => (uP_ex hD un k).2) k
  have mono := uP_mono hD un D0 T3 (by omega) k
  refine ⟨k, ?_⟩
  have fin : ∀ {a b : Int}, IsAu P m a b → t' = a ∧ u' = b := fun g => au_uniq hm' g a0
  rcases j2 with (j2 | j2) | (j2 | j2)
  · rw [← j2] at pk
    have := fin pk
    omega
  · have q := au_neg pk
    rw [← j2] at q
    have := fin q
    omega
  · have q := au_inv pk
    rw [← j2, inv_inv] at q
    have := fin q
    omega
  · have q := au_inv (au_neg pk)
    rw [← j2, inv_inv] at q
    have := fin q
    omega
theorem Fund.uniq {D T U T' U' : Int} (h : Fund D T U) (k : Fund D T' U') (hD : D % 4 = 0 ∨ D % 4 = 1) (D0 : 0 < D) : T = T' ∧ U = U' := by
  have t1 := h.T3; have t2 := k.T3; have u1 := h.U1; have u2 := k.U1
  have a := h.le hD D0 k.n (by omega)
  have b := k.le hD D0 h.n (by omega)
  have e : U = U' := by omega
  subst e
  have n1 := h.n; have n2 := k.n
  exact ⟨sq_inj (by omega) (by omega) (by omega), rfl⟩
theorem inv_mul {T : Mt} (hT : T.det = 1) : T.inv.mul T = Mt.one := by
  have iT : T.inv.det = 1 := by rw [← hT]; simp only [Mt.inv, Mt.det]; grind
  have := Mt.mul_inv iT
  rwa [inv_inv] at this
theorem conj_pw {T : Mt} (hT : T.det = 1) (W : Mt) : ∀ k, ((T.mul W).mul T.inv).pw k = (T.mul (W.pw k)).mul T.inv
  | 0 => by
    show Mt.one = (T.mul Mt.one).mul T.inv
    rw [Mt.mul_one, Mt.mul_inv hT]
  | k + 1 => by
    show ((T.mul W).mul T.inv).mul (((T.mul W).mul T.inv).pw k) = (T.mul (W.mul (W.pw k))).mul T.inv
    rw [conj_pw hT W k, Mt.mul_assoc (T.mul W), ← Mt.mul_assoc T.inv, ← Mt.mul_assoc T.inv, inv_mul hT, Mt.one_mul, Mt.mul_assoc T W, Mt.mul_assoc T, Mt.mul_assoc W]
theorem neg_mul (x y : Mt) : x.neg.mul y = (x.mul y).neg := by ext <;> simp only [Mt.mul, Mt.neg] <;> grind
theorem mul_neg' (x y : Mt) : x.mul y.neg = (x.mul y).neg := by ext <;> simp only [Mt.mul, Mt.neg] <;> grind
theorem conj_pm {T m w : Mt} (h : PmEq m w) : PmEq ((T.mul m).mul T.inv) ((T.mul w).mul T.inv) := by
  rcases h with h | h
  · left; rw [h]
  · right; rw [h, mul_neg', neg_mul]
theorem mul_inv_rev (x y : Mt) : (x.mul y).inv = y.inv.mul x.inv := by ext <;> simp only [Mt.mul, Mt.inv] <;> grind
/-- the matrix once round of a multiple -/
theorem fund_sc {P R : Fm} {c r t u : Int} {n : Nat} {T : Mt} (c0 : c ≠ 0) (hT : T.det = 1) (hR : (P.scl c).turn T = R) (a0 : P.a ≠ 0) (D0 : 0 < P.disc) (h : R.RedM) (hr : Rt2 R.disc r) (hn : NSq R.disc) (n1 : 1 ≤ n) (hp : gs r n R = R) (hm : ∀ j : Nat, 1 ≤ j → j < n → gs r j R ≠ R)
    (ha : IsAu P ((T.mul (gW r n R)).mul T.inv) t u) : Fund P.disc t.natAbs u.natAbs := by
  have iT : T.inv.det = 1 := by rw [← hT]; simp only [Mt.inv, Mt.det]; grind
  have ei : ∀ k : Mt, (T.mul ((T.inv.mul k).mul T)).mul T.inv = k := fun k => by
    rw [← Mt.mul_assoc T, ← Mt.mul_assoc T, Mt.mul_inv hT, Mt.one_mul, Mt.mul_assoc, Mt.mul_inv hT, Mt.mul_one]
  refine fund_gen a0 D0 ha (by rw [Mt.det_mul, Mt.det_mul, hT, gW_det, iT]; rfl) ?_ ?_
  · intro z
    have en := gs_even h hr hn hp
    obtain ⟨i, rfl⟩ : ∃ i, n = 2 * i := ⟨n / 2, by omega⟩
    refine gW_ne (i := i) h hr hn (by omega) ?_
    have q := conj_pm (T := T.inv) z
    rw [inv_inv, Mt.mul_one, inv_mul hT] at q
    have e : (T.inv.mul ((T.mul (gW r (2 * i) R)).mul T.inv)).mul T = gW r (2 * i) R := by
      rw [Mt.mul_assoc T (gW r (2 * i) R), ← Mt.mul_assoc T.inv, inv_mul hT, Mt.one_mul, Mt.mul_assoc, inv_mul hT, Mt.mul_one]
    rw [e] at q
    exact q
  · intro m md ms
    have sR : R.turn ((T.inv.mul m).mul T) = R := by
      rw [← hR, Fm.turn_mul, ← Mt.mul_assoc, ← Mt.mul_assoc, Mt.mul_inv hT, Mt.one_mul, ← Fm.turn_mul, Fm.scl_turn, ms]
    obtain ⟨k, hk⟩ := selfs_of h hr hn n1 hp hm (m := (T.inv.mul m).mul T) (by rw [Mt.det_mul, Mt.det_mul, hT, md, iT]; rfl) sR
    refine ⟨k, ?_⟩
    rw [conj_pw hT]
    rcases hk with hk | hk
    · left
      have := conj_pm (T := T) hk
      rw [ei] at this
      exact this
    · right
      have := conj_pm (T := T) hk
      have e : ((T.inv.mul m).mul T).inv = (T.inv.mul m.inv).mul T := by
        rw [mul_inv_rev, mul_inv_rev, inv_inv, Mt.mul_assoc]
      rw [e, ei] at this
      exact this
end M

set_option Elab.async false
set_option linter.all false
set_option maxRecDepth 100000
set_option maxHeartbeats 4000000
namespace M
open PySem PySem.Spec PyProof.Rows L2
/-! ### the matrices of a mixed form -/
theorem vIx_m0 (m : Mt) : vIx m.enc (.int 0) = some (.int m.p) := rfl
theorem vIx_m1 (m : Mt) : vIx m.enc (.int 1) = some (.int m.q) := rfl
theorem vIx_m2 (m : Mt) : vIx m.enc (.int 2) = some (.int m.r) := rfl
theorem vIx_m3 (m : Mt) : vIx m.enc (.int 3) = some (.int m.s) := rfl
theorem vIx_f0 (m : Fm) : vIx m.enc (.int 0) = some (.int m.a) := rfl
theorem vIx_f1 (m : Fm) : vIx m.enc (.int 1) = some (.int m.b) := rfl
theorem vIx_f2 (m : Fm) : vIx m.enc (.int 2) = some (.int m.c) := rfl
theorem MB4.inv {n : Nat} {x : Mt} (h : MB4 n x) : MB4 n x.inv := ⟨h.s, ⟨by have := h.q.h; show (-x.q).natAbs < _; omega⟩, ⟨by have := h.r.h; show (-x.r).natAbs < _; omega⟩, h.p⟩
theorem MB4.neg {n : Nat} {x : Mt} (h : MB4 n x) : MB4 n x.neg := ⟨⟨by have := h.p.h; show (-x.p).natAbs < _; omega⟩, ⟨by have := h.q.h; show (-x.q).natAbs < _; omega⟩, ⟨by have := h.r.h; show (-x.r).natAbs < _; omega⟩, ⟨by have := h.s.h; show (-x.s).natAbs < _; omega⟩⟩
theorem is_twist_ok (x : Mt) {n : Nat} (hb : MB4 n x) (hn : n < 400000) : d_is_twist [x.enc] = .ok (.bool (decide (x.det = 1))) [] := by
  have v1 := vMul_le hb.p hb.s (by omega)
  have v2 := vMul_le hb.q hb.r (by omega)
  obtain ⟨p, q, r, s⟩ := x
  unfold d_is_twist d_is_row d_is_integer
  simp only at v1 v2
  simp [Mt.enc, isiT, lcGo_cons, lcGo_nil, fAll, boolsOf, v1, v2, Mt.det]
  first | rfl | congr
theorem is_self_ok {f : Fm} {x : Mt} {n k : Nat} (hf : FB k f) (hb : MB4 n x) (hn : k + n + n < 400000) : d_is_self [f.enc, x.enc] = .ok (.bool (decide (x.det = 1 ∧ f.turn x = f))) [] := by
  have tw := is_twist_ok x hb (by omega)
  have tu := turned_ok hf hb hn
  have ve := vEq_fm (f.turn x) f
  unfold d_is_self
  by_cases c : x.det = 1
  · rw [decide_eq_true c] at tw
    by_cases c2 : f.turn x = f
    · simp [tw, tu, ve, c, c2]
    · simp [tw, tu, ve, c, c2]
  · rw [decide_eq_false c] at tw
    simp [tw, c]
theorem is_self_none (f : Fm) : d_is_self [f.enc, .none] = .ok (.bool false) [] := by
  have tw : d_is_twist [.none] = .ok (.bool false) [] := by
    unfold d_is_twist d_is_row
    simp [isiT]
  unfold d_is_self
  simp [tw]
/-- the least matrix of a mixed form -/
structure LeastM (f P : Fm) (c : Int) (Y : Mt) (t u : Int) : Prop where
  c0 : 0 < c
  cc : f.cont = c
  e : f = P.scl c
  a0 : P.a ≠ 0
  D0 : 0 < P.disc
  Dn : NSq P.disc
  au : IsAu P Y t u
  fu : Fund P.disc t u
  mb : MB4 37250 Y
  ok : d_least_self [f.enc] = .ok Y.enc []
theorem least_self_ok {D r : Int} {f : Fm} (mf : Mix D r f) (r45 : r ≤ 45) : ∃ P c Y t u, LeastM f P c Y t u := by
  have hD := mf.d
  have D0 := mf.pos
  have fa0 : f.a ≠ 0 := disc_a0 mf.hn
  obtain ⟨P, x, y, z, c0, e, bz⟩ := cont_spec fa0
  obtain ⟨c, hc⟩ : ∃ c, f.cont = c := ⟨_, rfl⟩
  rw [hc] at c0 e
  have Pa0 : P.a ≠ 0 := fun q => fa0 (by rw [e]; show c * P.a = 0; rw [q]; omega)
  have dd : f.disc = c * c * P.disc := by rw [e, Fm.scl_disc]
  have PD0 : 0 < P.disc := (mul_pos_iff2 (Int.mul_pos c0 c0)).1 (by rw [← dd]; omega)
  have PDn : NSq P.disc := fun k hk => mf.hn (c * k) (by rw [dd, ← hk]; grind)
  obtain ⟨k, k1, fr⟩ := first_ex mf
  have k63 : k ≤ 63 := Nat.le_trans k1 (muM_60 mf)
  have rm := reduced_mixed_ok mf fr
  have mR : Mix D r (M.gs r k f) := Mix.gs k mf
  have rR := fr.red
  have dT := gW_det r k f
  have Tb := (gW_mb mf k).mono (show _ ≤ 3970 by omega)
  have hR : f.turn (gW r k f) = M.gs r k f := gW_turn r k f
  generalize gW r k f = T at *
  generalize M.gs r k f = R at *
  obtain ⟨n, n1, pR⟩ := per_ex mR rR
  have nb : n ≤ 4186 := by
    have := Int.mul_le_mul (show r + 1 ≤ 46 by omega) (show 2 * r + 1 ≤ 91 by omega) (by have := mf.r.r0; omega) (by omega)
    omega
  have r0 := mf.r.r0
  have zr : Szc r 6 := ⟨by omega⟩
  have al := twist_along_ok mR rR pR zr (by omega) (by omega)
  have wb := (red_W mR rR zr (by omega) n).mono (show _ ≤ 29303 by omega)
  have dW := gW_det r n R
  have iT : T.inv.det = 1 := by rw [← dT]; simp only [Mt.inv, Mt.det]; grind
  have slf : f.turn ((T.mul (gW r n R)).mul T.inv) = f := by
    rw [← Fm.turn_mul, ← Fm.turn_mul, hR, gW_turn, pR.e, ← hR, Fm.turn_back f dT]
  have slP : P.turn ((T.mul (gW r n R)).mul T.inv) = P := (Fm.scl_self (c := c) (by omega) P _).1 (by rw [← e]; exact slf)
  have dX : ((T.mul (gW r n R)).mul T.inv).det = 1 := by rw [Mt.det_mul, Mt.det_mul, dT, dW, iT]; rfl
  obtain ⟨t, u, au, tu⟩ := au_of_self slP dX Pa0 bz
  have fu := fund_sc (P := P) (R := R) (c := c) (by omega) dT (by rw [← e]; exact hR) Pa0 PD0 rR mR.hr mR.hn pR.n1 pR.e pR.no au
  have a1 := after_ok Tb wb (by omega)
  have a2 := after_ok (Tb.mul wb) Tb.inv (by omega)
  have Xb := ((Tb.mul wb).mul Tb.inv).mono (show _ ≤ 37250 by omega)
  have un := undone_ok T
  have kd := kind_over (f := f) (mf.fb.mono (by omega)) (by omega)
  rw [if_neg (by rw [sqB_false.2 mf.hn]; decide)] at kd
  have kn : vNe (.str "mixed") (.str "mixed") = some false := by decide +kernel
  generalize hX : (T.mul (gW r n R)).mul T.inv = X at *
  -- the first choice
  have t3 := fu.T3; have u1 := fu.U1
  obtain ⟨X1, s1, hs1, au1, X1b, st1⟩ : ∃ (X1 : Mt) (s1 : Int), (s1 = u ∨ s1 = -u) ∧ IsAu P X1 t.natAbs s1 ∧ MB4 37250 X1 ∧ sIf (bBin cLt (eBin vAdd (eBin vIx (eVar 3) (eC (.int 0))) (eBin vIx (eVar 3) (eC (.int 3)))) (eC (.int 0))) (sAsg (eTup (aCons (eUn vNeg (eBin vIx (eVar 3) (eC (.int 0)))) (aCons (eUn vNeg (eBin vIx (eVar 3) (eC (.int 1)))) (aCons (eUn vNeg (eBin vIx (eVar 3) (eC (.int 2)))) (aCons (eUn vNeg (eBin vIx (eVar 3) (eC (.int 3)))) aNil))))) (gN 3)) sNext [some f.enc, some R.enc, some T.enc, some X.enc] [] = .ok (.next [some f.enc, some R.enc, some T.enc, some X1.enc]) [] := by
    have at' := au.t
    by_cases c1 : X.p + X.s < 0
    · refine ⟨X.neg, -u, .inr rfl, ?_, Xb.neg, ?_⟩
      · have := au_neg au
        rw [show ((t.natAbs : Nat) : Int) = -t by omega]
        exact this
      · have ne : PyData.tuple [.int (-X.p), .int (-X.q), .int (-X.r), .int (-X.s)] = X.neg.enc := rfl
        simp [vIx_m0, vIx_m1, vIx_m2, vIx_m3, c1, ne]
    · refine ⟨X, u, .inl rfl, ?_, Xb, ?_⟩
      · rw [show ((t.natAbs : Nat) : Int) = t by omega]
        exact au
      · simp [vIx_m0, vIx_m3, c1]
  have fb := mf.fb
  have v1 := vMul_le X1b.r fb.a (by omega)
  have er : X1.r * f.a = c * (P.a * P.a) * s1 := by
    rw [au1.r, e]; simp only [Fm.scl]; grind
  have pp : 0 < c * (P.a * P.a) := by
    have h1 : 0 < P.a * P.a := by
      have := Int.mul_pos (show (0 : Int) < P.a.natAbs by omega) (show (0 : Int) < P.a.natAbs by omega)
      rw [Int.natAbs_mul_self'] at this
      exact this
    exact Int.mul_pos c0 h1
  obtain ⟨Y, auY, Yb, st2⟩ : ∃ Y : Mt, IsAu P Y t.natAbs u.natAbs ∧ MB4 37250 Y ∧ sIf (bBin cLt (eBin vMul (eBin vIx (eVar 3) (eC (.int 2))) (eBin vIx (eVar 0) (eC (.int 0)))) (eC (.int 0))) (sAsg (eCall d_undone_twist (aCons (eVar 3) aNil)) (gN 3)) sNext [some f.enc, some R.enc, some T.enc, some X1.enc] [] = .ok (.next [some f.enc, some R.enc, some T.enc, some Y.enc]) [] := by
    by_cases c1 : X1.r * f.a < 0
    · have s0 : s1 < 0 := by
        rw [er] at c1
        apply Int.not_le.1
        intro z
        have := Int.mul_nonneg (show 0 ≤ c * (P.a * P.a) by omega) z
        omega
      refine ⟨X1.inv, ?_, X1b.inv, ?_⟩
      · rw [show ((u.natAbs : Nat) : Int) = -s1 by omega]
        exact au_inv au1
      · have un1 := undone_ok X1
        simp [vIx_m2, vIx_f0, v1, c1, un1]
    · have s0 : 0 ≤ s1 := by
        apply Int.not_lt.1
        intro z
        have := Int.mul_neg_of_pos_of_neg pp z
        omega
      refine ⟨X1, ?_, X1b, ?_⟩
      · rw [show ((u.natAbs : Nat) : Int) = s1 by omega]
        exact au1
      · simp [vIx_m2, vIx_f0, v1, c1]
  refine ⟨P, c, Y, t.natAbs, u.natAbs, c0, hc, e, Pa0, PD0, PDn, auY, fu, Yb, ?_⟩
  unfold d_least_self
  generalize sIf (bBin cLt (eBin vAdd (eBin vIx (eVar 3) (eC (.int 0))) (eBin vIx (eVar 3) (eC (.int 3)))) (eC (.int 0))) (sAsg (eTup (aCons (eUn vNeg (eBin vIx (eVar 3) (eC (.int 0)))) (aCons (eUn vNeg (eBin vIx (eVar 3) (eC (.int 1)))) (aCons (eUn vNeg (eBin vIx (eVar 3) (eC (.int 2)))) (aCons (eUn vNeg (eBin vIx (eVar 3) (eC (.int 3)))) aNil))))) (gN 3)) sNext = S1 at *
  generalize sIf (bBin cLt (eBin vMul (eBin vIx (eVar 3) (eC (.int 2))) (eBin vIx (eVar 0) (eC (.int 0)))) (eC (.int 0))) (sAsg (eCall d_undone_twist (aCons (eVar 3) aNil)) (gN 3)) sNext = S2 at *
  simp [kd, kn, rm, al, a1, a2, un, hX, st1, st2]
theorem unit_mul {P : Fm} (t u : Int) (h : t * t - P.disc * u * u = 4) {Y : Mt} (au : IsAu P Y t u) : (t - P.b * u).fdiv 2 = Y.p ∧ (t + P.b * u).fdiv 2 = Y.s := by
  have a1 := au.t; have a2 := au.b
  rw [Int.fdiv_eq_ediv_of_nonneg _ (by omega), Int.fdiv_eq_ediv_of_nonneg _ (by omega)]
  generalize P.b * u = B at *
  omega
theorem self_of_unit_ok {P : Fm} {Y : Mt} {t u : Int} {k n : Nat} (au : IsAu P Y t u) (dY : Y.det = 1) (fb : FB k P) (zt : Szc t n) (zu : Szc u n) (hn : k + n < 400000) : d_self_of_unit [P.enc, .int t, .int u] = .ok Y.enc [] := by
  obtain ⟨e1, e2⟩ := unit_mul t u (au_norm au dY) au
  have v1 := vMul_le fb.b zu (by omega)
  have zc : Szc (-P.c) k := ⟨by have := fb.c.h; omega⟩
  have v2 := vMul_le zc zu (by omega)
  have v3 := vMul_le fb.a zu (by omega)
  have q1 : vFdiv (.int (t - P.b * u)) (.int 2) = some (.int Y.p) := by rw [vFdiv_c (n := 3) (hb := ⟨by decide⟩) (by omega) (by omega), e1]
  have q2 : vFdiv (.int (t + P.b * u)) (.int 2) = some (.int Y.s) := by rw [vFdiv_c (n := 3) (hb := ⟨by decide⟩) (by omega) (by omega), e2]
  have eq : Y.q = -P.c * u := by rw [au.q]; grind
  have er := au.r
  have ye : Y.enc = .tuple [.int Y.p, .int (-P.c * u), .int (P.a * u), .int Y.s] := by rw [← eq, ← er]; rfl
  have pe : P.enc = .tuple [.int P.a, .int P.b, .int P.c] := rfl
  rw [ye, pe]
  unfold d_self_of_unit
  simp [v1, v2, v3, q1, q2]
theorem unit_of_self_ok {f P : Fm} {c t u : Int} {Y : Mt} (h : LeastM f P c Y t u) (fb : FB 60 P) (zc : Szc c 130) : d_unit_of_self [f.enc, Y.enc] = .ok (.tuple [.int t, .int u]) [] := by
  have pp := prim_part_ok h.cc h.c0 zc h.e
  have a1 := h.au.t
  have fd : vFdiv (.int Y.r) (.int P.a) = some (.int u) := by
    rw [vFdiv_c (n := 60) (hb := fb.a) (by omega) h.a0, h.au.r, Int.mul_fdiv_cancel_left _ h.a0]
  unfold d_unit_of_self
  simp [pp, vIx_m0, vIx_m3, vIx_m2, vIx_f0, a1, fd]
theorem L_product_ok {x y : Mt} {n k : Nat} (hx : MB4 n x) (hy : MB4 k y) (h : n + k < 900000) : d_L_product [x.enc, y.enc] = .ok (x.mul y).enc [] := by
  have g : ∀ {u v : Int}, Szc u n → Szc v k → vMul (.int u) (.int v) = some (.int (u * v)) := fun hu hv => vMul_le hu hv (by omega)
  obtain ⟨x1, x2, x3, x4⟩ := hx
  obtain ⟨y1, y2, y3, y4⟩ := hy
  have ex : x.enc = .tuple [.int x.p, .int x.q, .int x.r, .int x.s] := rfl
  have ey : y.enc = .tuple [.int y.p, .int y.q, .int y.r, .int y.s] := rfl
  rw [ex, ey]
  unfold d_L_product
  simp [g x1 y1, g x2 y3, g x1 y2, g x2 y4, g x3 y1, g x4 y3, g x3 y2, g x4 y4]
  rfl
theorem pw_comm (m : Mt) : ∀ k, (m.pw k).mul m = m.mul (m.pw k)
  | 0 => by show Mt.one.mul m = m.mul Mt.one; rw [Mt.one_mul, Mt.mul_one]
  | k + 1 => by
    show (m.mul (m.pw k)).mul m = m.mul (m.mul (m.pw k))
    rw [Mt.mul_assoc, pw_comm m k]
theorem pw_mb {m : Mt} {n : Nat} (h : MB4 n m) : ∀ k, MB4 (1 + (n + 1) * k) (m.pw k)
  | 0 => mb_one
  | k + 1 => by
    have := (h.mul (pw_mb h k))
    exact this.mono (by rw [Nat.mul_succ]; omega)
theorem pw_det {m : Mt} (h : m.det = 1) : ∀ k, (m.pw k).det = 1
  | 0 => rfl
  | k + 1 => by rw [Mt.pw, Mt.det_mul, h, pw_det h k]; rfl
theorem uP_conj {D t u : Int} (hD : D % 4 = 0 ∨ D % 4 = 1) (h : t * t - D * u * u = 4) : ∀ k, (uP D t (-u) k).1 = (uP D t u k).1 ∧ (uP D t (-u) k).2 = -(uP D t u k).2
  | 0 => ⟨rfl, rfl⟩
  | k + 1 => by
    obtain ⟨i1, i2⟩ := uP_conj hD h k
    obtain ⟨_, a1, a2⟩ := uP_ex hD h k
    obtain ⟨_, b1, b2⟩ := uP_ex (T := t) (U := -u) hD (by rw [← h]; grind) k
    rw [i1, i2] at b1 b2
    have e1 : D * -u * -(uP D t u k).2 = D * u * (uP D t u k).2 := by grind
    have e2 : t * -(uP D t u k).2 + -u * (uP D t u k).1 = -(t * (uP D t u k).2 + u * (uP D t u k).1) := by grind
    rw [e1] at b1
    rw [e2] at b2
    omega
theorem twist_power_ok {x : Mt} {n : Nat} (hx : MB4 n x) (hn : n ≤ 40000) {j : Nat} (hj : j ≤ 3) : d_twist_power [x.enc, .int (j : Int)] = .ok (x.pw j).enc [] := by
  have o1 : PyData.tuple [.int 1, .int 0, .int 0, .int 1] = Mt.one.enc := rfl
  have a1 := after_ok mb_one hx (by omega)
  have a2 := after_ok hx hx (by omega)
  have h2 := hx.mul hx
  have a3 := after_ok h2 h2 (by omega)
  have a4 := after_ok mb_one h2 (by omega)
  have a5 := after_ok (mb_one.mul hx) h2 (by omega)
  have m1 : vMod (.int 1) (.int 2) = some (.int 1) := modP (by omega)
  have m2 : vMod (.int 2) (.int 2) = some (.int 0) := modP (by omega)
  have m3 : vMod (.int 3) (.int 2) = some (.int 1) := modP (by omega)
  have q1 : vFdiv (.int 1) (.int 2) = some (.int 0) := by rw [vFdiv_c (n := 3) (hb := ⟨by decide⟩) (by omega) (by omega)]; rfl
  have q2 : vFdiv (.int 2) (.int 2) = some (.int 1) := by rw [vFdiv_c (n := 3) (hb := ⟨by decide⟩) (by omega) (by omega)]; rfl
  have q3 : vFdiv (.int 3) (.int 2) = some (.int 1) := by rw [vFdiv_c (n := 3) (hb := ⟨by decide⟩) (by omega) (by omega)]; rfl
  unfold d_twist_power
  rcases (show j = 0 ∨ j = 1 ∨ j = 2 ∨ j = 3 by omega) with z | z | z | z <;> subst z
  · simp
    rw [sWhile_ap]
    simp [o1, Mt.pw]
  · simp
    rw [sWhile_ap]
    simp [o1, m1, q1, a1, a2]
    rw [sWhile_ap]
    simp [Mt.pw, Mt.one_mul, Mt.mul_one]
  · simp
    rw [sWhile_ap]
    simp [o1, m2, q2, a2]
    rw [sWhile_ap]
    simp [m1, q1, a4, a3]
    rw [sWhile_ap]
    simp [Mt.pw, Mt.one_mul, Mt.mul_one]
  · simp
    rw [sWhile_ap]
    simp [o1, m3, q3, a1, a2]
    rw [sWhile_ap]
    simp [m1, q1, a5, a3]
    rw [sWhile_ap]
    simp [Mt.pw, Mt.one_mul, Mt.mul_one]
theorem twist_power_neg {x : Mt} {n : Nat} (hx : MB4 n x) (hn : n ≤ 40000) {j : Nat} (hj : j ≤ 3) : d_twist_power [x.enc, .int (-(j : Int))] = .ok (x.inv.pw j).enc [] := by
  rcases Nat.eq_zero_or_pos j with z | z
  · subst z
    exact twist_power_ok hx hn (j := 0) (by omega)
  · have p := twist_power_ok hx.inv hn hj
    have un := undone_ok x
    have e1 : -(j : Int) < 0 := by omega
    have e2 : ¬ (j : Int) < 0 := by omega
    unfold d_twist_power at p ⊢
    generalize (j : Int) = J at *
    simp [e2] at p
    simp [show 0 < J by omega, un]
    exact p
def baseM (neg : Bool) (Y : Mt) : Mt := if neg = true then Y.inv else Y
def sgnM (sg : Bool) (X : Mt) : Mt := if sg = true then X else X.neg
def sgI (b : Bool) : Int := if b = true then 1 else -1
theorem base_au {f P : Fm} {c t u : Int} {Y : Mt} (h : LeastM f P c Y t u) (neg : Bool) (k : Nat) : IsAu P ((baseM neg Y).pw k) (uP P.disc t u k).1 (sgI (!neg) * (uP P.disc t u k).2) := by
  have norm := h.fu.n
  cases neg with
  | false =>
    have := (pw_au h.au norm h.a0 k).1
    show IsAu P (Y.pw k) _ (1 * _)
    rw [Int.one_mul]; exact this
  | true =>
    have q := (pw_au (au_inv h.au) (by rw [← norm]; grind) h.a0 k).1
    obtain ⟨e1, e2⟩ := uP_conj (disc_mod4 P) norm k
    rw [e1, e2] at q
    show IsAu P (Y.inv.pw k) _ (-1 * _)
    rw [show ∀ x : Int, -1 * x = -x from fun x => by omega]
    exact q
theorem base_mb {Y : Mt} (h : MB4 37250 Y) (neg : Bool) : MB4 37250 (baseM neg Y) := by
  cases neg
  · exact h
  · exact h.inv
theorem base_pow {Y : Mt} (h : MB4 37250 Y) (neg : Bool) {j : Nat} (hj : j ≤ 3) : d_twist_power [Y.enc, .int (sgI (!neg) * (j : Int))] = .ok ((baseM neg Y).pw j).enc [] := by
  cases neg
  · have := twist_power_ok h (by omega) hj
    rw [show sgI (!false) * (j : Int) = j from Int.one_mul _]
    exact this
  · have := twist_power_neg h (by omega) hj
    rw [show sgI (!true) * (j : Int) = -(j : Int) from by show -1 * (j : Int) = _; omega]
    exact this
def ExInv (k : Nat) (pre : Int → Ev) : Nat → Ev → Prop := fun n ρ => ∃ j : Nat, ρ = pre (j : Int) ∧ j + n = k
theorem exponent_ok {f P : Fm} {c t u : Int} {Y : Mt} (h : LeastM f P c Y t u) (hf : FB 60 f) (neg sg : Bool) {k : Nat} (hk : k ≤ 3) :
    d_exponent_of_self [f.enc, (sgnM sg ((baseM neg Y).pw k)).enc] = .ok (.tuple [.int (sgI sg), .int (sgI (!neg) * (k : Int))]) [] ∧ d_is_self [f.enc, (sgnM sg ((baseM neg Y).pw k)).enc] = .ok (.bool true) [] := by
  have au := base_au h neg k
  have norm := h.fu.n
  have D4 := disc_mod4 P
  have t3 := h.fu.T3; have u1 := h.fu.U1
  have mono := uP_mono D4 norm h.D0 t3 u1 k
  have bpos : 1 ≤ k → 0 < (uP P.disc t u k).2 := fun z => by
    have := (uP_lt D4 norm h.D0 t3 u1 (show 0 < k by omega)).2
    exact this
  have b0 : k = 0 → (uP P.disc t u k).2 = 0 := fun z => by rw [z]; rfl
  have slf : ∀ j, ((baseM neg Y).pw j).det = 1 ∧ P.turn ((baseM neg Y).pw j) = P := fun j => by
    have a := base_au h neg j
    have nj := (uP_ex D4 norm j).1
    have := self_of_au a (by
      cases neg
      · show _ - P.disc * (1 * _) * (1 * _) = 4
        rw [Int.one_mul]; exact nj
      · show _ - P.disc * (-1 * _) * (-1 * _) = 4
        rw [← nj]; grind)
    exact ⟨this.2, this.1⟩
  have slff : ∀ j, f.turn ((baseM neg Y).pw j) = f := fun j => by
    have := (Fm.scl_self (c := c) (by have := h.c0; omega) P _).2 (slf j).2
    rw [← h.e] at this; exact this
  have dist : ∀ j, j < k → (baseM neg Y).pw j ≠ (baseM neg Y).pw k := fun j hj e => by
    have a := (base_au h neg j).t
    have b := au.t
    rw [e] at a
    have := (uP_lt D4 norm h.D0 t3 u1 hj).1
    omega
  have mbj := fun j => pw_mb (base_mb h.mb neg) j
  have Eb := (mbj k).mono (show _ ≤ 111760 by have := Nat.mul_le_mul_left (37250 + 1) hk; omega)
  obtain ⟨τ, tw, tk, cond⟩ : ∃ τ : Int, (∀ j : Nat, j ≤ k → d_twist_power [Y.enc, .int (τ * (j : Int))] = .ok ((baseM neg Y).pw j).enc []) ∧ τ * (k : Int) = sgI (!neg) * (k : Int) ∧ ((0 < ((baseM neg Y).pw k).r * f.a ∧ τ = 1) ∨ (¬ 0 < ((baseM neg Y).pw k).r * f.a ∧ τ = -1)) := by
    have er : ((baseM neg Y).pw k).r * f.a = c * (P.a * P.a) * (sgI (!neg) * (uP P.disc t u k).2) := by
      rw [au.r, h.e]; simp only [Fm.scl]; grind
    have pp : 0 < c * (P.a * P.a) := by
      have a0 := h.a0
      have h1 : 0 < P.a * P.a := by
        have := Int.mul_pos (show (0 : Int) < P.a.natAbs by omega) (show (0 : Int) < P.a.natAbs by omega)
        rw [Int.natAbs_mul_self'] at this
        exact this
      exact Int.mul_pos h.c0 h1
    by_cases z : k = 0
    · subst z
      refine ⟨-1, fun j hj => ?_, by simp, .inr ⟨?_, rfl⟩⟩
      · have : j = 0 := by omega
        subst this
        have := base_pow h.mb neg (j := 0) (by omega)
        simp at this ⊢
        exact this
      · rw [er, b0 rfl]; simp
    · have bp := bpos (by omega)
      cases neg with
      | false =>
        refine ⟨1, fun j hj => base_pow h.mb false (by omega), rfl, .inl ⟨?_, rfl⟩⟩
        rw [er]
        show 0 < c * (P.a * P.a) * (1 * _)
        rw [Int.one_mul]
        exact Int.mul_pos pp bp
      | true =>
        refine ⟨-1, fun j hj => base_pow h.mb true (by omega), rfl, .inr ⟨?_, rfl⟩⟩
        rw [er]
        show ¬ 0 < c * (P.a * P.a) * (-1 * _)
        have := Int.mul_pos pp bp
        have e : c * (P.a * P.a) * (-1 * (uP P.disc t u k).2) = -(c * (P.a * P.a) * (uP P.disc t u k).2) := by grind
        omega
  obtain ⟨Bp, hB⟩ : ∃ Bp : Nat → Mt, Bp = fun j => (baseM neg Y).pw j := ⟨_, rfl⟩
  have tw : ∀ j : Nat, j ≤ k → d_twist_power [Y.enc, .int (τ * (j : Int))] = .ok (Bp j).enc [] := fun j hj => by rw [hB]; exact tw j hj
  have dist : ∀ j, j < k → Bp j ≠ Bp k := fun j hj => by rw [hB]; exact dist j hj
  have dE := (slf k).1
  have sE := slff k
  obtain ⟨E, hE⟩ : ∃ E, E = (baseM neg Y).pw k := ⟨_, rfl⟩
  have hEB : Bp k = E := by rw [hB, hE]
  rw [← hE] at au Eb cond dE sE ⊢
  rw [hEB] at dist
  have isE := is_self_ok hf Eb (by omega)
  rw [decide_eq_true ⟨dE, sE⟩] at isE
  have Zb : MB4 111760 (sgnM sg E) := by
    cases sg
    · exact Eb.neg
    · exact Eb
  have isZ := is_self_ok hf Zb (by omega)
  have zz : (sgnM sg E).det = 1 ∧ f.turn (sgnM sg E) = f := by
    cases sg
    · exact ⟨by rw [← dE]; exact Mt.neg_det E, by rw [← Fm.turn_neg f E] at sE; exact sE⟩
    · exact ⟨dE, sE⟩
  rw [decide_eq_true zz] at isZ
  refine ⟨?_, isZ⟩
  have tr := au.t
  have a2 := mono.1
  have tz : (0 < (sgnM sg E).p + (sgnM sg E).s ∧ sg = true) ∨ (¬ 0 < (sgnM sg E).p + (sgnM sg E).s ∧ sg = false) := by
    cases sg
    · right
      refine ⟨?_, rfl⟩
      show ¬ 0 < -E.p + -E.s
      omega
    · left
      refine ⟨?_, rfl⟩
      show 0 < E.p + E.s
      omega
  have zsg : Szc (sgI sg) 1 := by cases sg <;> exact ⟨by decide⟩
  have w0 : vMul (.int (sgI sg)) (.int (sgnM sg E).p) = some (.int E.p) := by
    rw [vMul_le zsg Zb.p (by omega)]
    cases sg
    · show some (PyData.int (-1 * -E.p)) = _; congr 2; omega
    · show some (PyData.int (1 * E.p)) = _; congr 2; omega
  have w1 : vMul (.int (sgI sg)) (.int (sgnM sg E).q) = some (.int E.q) := by
    rw [vMul_le zsg Zb.q (by omega)]
    cases sg
    · show some (PyData.int (-1 * -E.q)) = _; congr 2; omega
    · show some (PyData.int (1 * E.q)) = _; congr 2; omega
  have w2 : vMul (.int (sgI sg)) (.int (sgnM sg E).r) = some (.int E.r) := by
    rw [vMul_le zsg Zb.r (by omega)]
    cases sg
    · show some (PyData.int (-1 * -E.r)) = _; congr 2; omega
    · show some (PyData.int (1 * E.r)) = _; congr 2; omega
  have w3 : vMul (.int (sgI sg)) (.int (sgnM sg E).s) = some (.int E.s) := by
    rw [vMul_le zsg Zb.s (by omega)]
    cases sg
    · show some (PyData.int (-1 * -E.s)) = _; congr 2; omega
    · show some (PyData.int (1 * E.s)) = _; congr 2; omega
  have oe : PyData.tuple [.int E.p, .int E.q, .int E.r, .int E.s] = E.enc := rfl
  have v9 := vMul_le Eb.r hf.a (by omega)
  generalize hZ : sgnM sg E = Z at *
  have zt : τ = 1 ∨ τ = -1 := by
    rcases cond with z | z
    · exact .inl z.2
    · exact .inr z.2
  have zτ : Szc τ 1 := by
    rcases zt with z | z <;> subst z <;> exact ⟨by decide⟩
  have loop : ∃ ρ', sWhile (bBin vNe (eCall d_twist_power (aCons (eVar 2) (aCons (eBin vMul (eVar 6) (eVar 5)) aNil))) (eVar 4)) (sAug 5 vAddI (eC (.int 1))) [some f.enc, some Z.enc, some Y.enc, some (.int (sgI sg)), some E.enc, some (.int 0), some (.int τ)] [] = .ok (.next ρ') [] ∧ ρ' = [some f.enc, some Z.enc, some Y.enc, some (.int (sgI sg)), some E.enc, some (.int (k : Int)), some (.int τ)] := by
    refine while_P (ExInv k fun j => [some f.enc, some Z.enc, some Y.enc, some (.int (sgI sg)), some E.enc, some (.int j), some (.int τ)]) _ ?_ k _ ⟨0, rfl, by omega⟩
    intro n ρ ⟨j, e, hj⟩
    subst e
    have zj : Szc (j : Int) 10 := ⟨by omega⟩
    have v := vMul_le zτ zj (by omega)
    have tj := tw j (by omega)
    have nj := vNe_mt (Bp j) E
    by_cases z : j = k
    · left
      subst z
      rw [hEB] at tj nj
      rw [decide_eq_true rfl] at nj
      exact ⟨by simp [v, tj, nj], rfl⟩
    · right
      rw [decide_eq_false (dist j (by omega))] at nj
      refine ⟨by simp [v, tj, nj], ?_⟩
      generalize hJ : (j : Int) = J at *
      simp
      exact .next (m := n - 1) (by omega) ⟨j + 1, by rw [show ((j + 1 : Nat) : Int) = J + 1 by omega], by omega⟩
  obtain ⟨ρ', lp, e⟩ := loop
  subst e
  have vk := vMul_le zτ (show Szc (k : Int) 10 from ⟨by omega⟩) (by omega)
  rw [tk] at vk
  have ok := h.ok
  unfold d_exponent_of_self
  rcases cond with ⟨c1, rfl⟩ | ⟨c1, rfl⟩
  · rcases tz with ⟨c2, rfl⟩ | ⟨c2, rfl⟩
    · have s1 : sgI true = 1 := rfl
      rw [s1] at w0 w1 w2 w3 lp ⊢
      simp [ok, vIx_m0, vIx_m1, vIx_m2, vIx_m3, vIx_f0, c2, w0, w1, w2, w3, oe, isE, v9, c1, lp, vk]
    · have s1 : sgI false = -1 := rfl
      rw [s1] at w0 w1 w2 w3 lp ⊢
      simp [ok, vIx_m0, vIx_m1, vIx_m2, vIx_m3, vIx_f0, c2, w0, w1, w2, w3, oe, isE, v9, c1, lp, vk]
  · rcases tz with ⟨c2, rfl⟩ | ⟨c2, rfl⟩
    · have s1 : sgI true = 1 := rfl
      rw [s1] at w0 w1 w2 w3 lp ⊢
      simp [ok, vIx_m0, vIx_m1, vIx_m2, vIx_m3, vIx_f0, c2, w0, w1, w2, w3, oe, isE, v9, c1, lp, vk]
    · have s1 : sgI false = -1 := rfl
      rw [s1] at w0 w1 w2 w3 lp ⊢
      simp [ok, vIx_m0, vIx_m1, vIx_m2, vIx_m3, vIx_f0, c2, w0, w1, w2, w3, oe, isE, v9, c1, lp, vk]
def PoInv (neg sg : Bool) (Y : Mt) (pre : PyData → Option PyData → Ev) (k : Nat) : List PyData → Ev → Prop := fun ds ρ => ∃ (j : Nat) (x : Option PyData), ds = rangeL (j : Nat) 1 (k - j) ∧ j ≤ k ∧ ρ = pre (sgnM sg ((baseM neg Y).pw j)).enc x
theorem sgn_mul (sg : Bool) (X Y : Mt) : (sgnM sg X).mul Y = sgnM sg (X.mul Y) := by
  cases sg
  · exact neg_mul X Y
  · rfl
theorem po_step {f : Fm} {Y : Mt} {neg sg : Bool} {K sI : Int} {k : Nat} {o3 o4 o5 o6 o7 : Option PyData} (hk : k ≤ 3) (mb : MB4 37250 Y) (hK : (K < 0 ∧ neg = true) ∨ (¬ K < 0 ∧ neg = false)) (d : PyData) (ds : List PyData) (ρ : Ev) {w : Wd}
    (hp : PoInv neg sg Y (fun d x => [none, some f.enc, some Y.enc, o3, o4, o5, o6, o7, some (.int K), some (.int sI), some d, some Y.inv.enc, x]) k (d :: ds) ρ) :
    ∃ ρ1, gN 12 d ρ = some ρ1 ∧ FStep (PoInv neg sg Y (fun d x => [none, some f.enc, some Y.enc, o3, o4, o5, o6, o7, some (.int K), some (.int sI), some d, some Y.inv.enc, x]) k ds) (fun _ => False) w (sAsg (eCall d_L_product (aCons (eVar 10) (aCons (eBin vIx (eLst (aCons (eVar 2) (aCons (eVar 11) aNil))) (eArgs fInt (aCons (eOfB (bBin cLt (eVar 8) (eC (.int 0)))) aNil))) aNil))) (gN 10) ρ1 w) := by
  obtain ⟨j, x, e1, kn, e2⟩ := hp
  subst e2
  have hj : j < k := by
    rcases (show j < k ∨ j = k by omega) with z | z
    · exact z
    · subst z; rw [Nat.sub_self] at e1; cases e1
  have ek : k - j = (k - (j + 1)) + 1 := by omega
  rw [ek] at e1
  obtain ⟨rfl, rfl⟩ := List.cons.inj e1
  refine ⟨_, rfl, ?_⟩
  have bb := base_mb mb neg
  have Eb := (pw_mb bb j).mono (show _ ≤ 111760 by have := Nat.mul_le_mul_left (37250 + 1) (show j ≤ 3 by omega); omega)
  have Zb : MB4 111760 (sgnM sg ((baseM neg Y).pw j)) := by
    cases sg
    · exact Eb.neg
    · exact Eb
  have pr := L_product_ok Zb bb (by omega)
  have e : (sgnM sg ((baseM neg Y).pw j)).mul (baseM neg Y) = sgnM sg ((baseM neg Y).pw (j + 1)) := by
    rw [sgn_mul, pw_comm]; rfl
  rw [e] at pr
  rcases hK with ⟨c, rfl⟩ | ⟨c, rfl⟩
  · have eb : baseM true Y = Y.inv := rfl
    rw [eb] at pr ⊢
    generalize hA : sgnM sg (Y.inv.pw j) = A at *
    generalize hB : sgnM sg (Y.inv.pw (j + 1)) = B at *
    simp [c, pr]
    exact .next ⟨j + 1, some (.int (j : Int)), rfl, by omega, by rw [show baseM true Y = Y.inv from rfl, hB]⟩
  · have eb : baseM false Y = Y := rfl
    rw [eb] at pr ⊢
    generalize hA : sgnM sg (Y.pw j) = A at *
    generalize hB : sgnM sg (Y.pw (j + 1)) = B at *
    simp [c, pr]
    exact .next ⟨j + 1, some (.int (j : Int)), rfl, by omega, by rw [show baseM false Y = Y from rfl, hB]⟩
theorem L_mixed_holds_ok {D r : Int} {f : Fm} (mf : Mix D r f) (r45 : r ≤ 45) (hf : FB 20 f) {ω : Wd} (hω : StOk ω) : ∃ ω', d_L_mixed_holds [f.enc] ω = .ok (.bool true) ω' ∧ StOk ω' ∧ ∃ Y, d_least_self [f.enc] = .ok Y [] := by
  obtain ⟨P, c, Y, t, u, h⟩ := least_self_ok mf r45
  have fa := hf.a; have fb := hf.b; have fc := hf.c
  have norm := h.fu.n
  have t3 := h.fu.T3; have u1 := h.fu.U1
  have c0 := h.c0
  have ea : f.a = c * P.a := congrArg Fm.a h.e
  have eb : f.b = c * P.b := congrArg Fm.b h.e
  have ec : f.c = c * P.c := congrArg Fm.c h.e
  obtain ⟨sP, dY⟩ := self_of_au h.au norm
  have sf : f.turn Y = f := by
    have := (Fm.scl_self (c := c) (by omega) P Y).2 sP
    rw [← h.e] at this; exact this
  have tu := L_turned_ok mf.fb h.mb (by omega)
  rw [sf] at tu
  have dt : Y.p * Y.s - Y.q * Y.r = 1 := dY
  have v1 := vMul_le h.mb.p h.mb.s (by omega)
  have v2 := vMul_le h.mb.q h.mb.r (by omega)
  have tr := h.au.t
  have v3 := vMul_le h.mb.r fa (by omega)
  have rp : 0 < Y.r * f.a := by
    have er : Y.r * f.a = c * (P.a * P.a) * u := by rw [h.au.r, ea]; grind
    have a0 := h.a0
    have h1 : 0 < P.a * P.a := by
      have := Int.mul_pos (show (0 : Int) < P.a.natAbs by omega) (show (0 : Int) < P.a.natAbs by omega)
      rw [Int.natAbs_mul_self'] at this
      exact this
    rw [er]
    exact Int.mul_pos (Int.mul_pos c0 h1) (by omega)
  have l1 := L_common_ok f.a f.b
  have l2 : d_L_common [.int ((Int.gcd f.a f.b : Nat) : Int), .int f.c] = .ok (.int c) [] := by rw [← h.cc]; exact L_common_ok _ _
  have small : ∀ {x y : Int}, x = c * y → Szc x 20 → Szc y 20 := by
    intro x y e z
    refine ⟨?_⟩
    have h1 := z.h
    have : x.natAbs = c.natAbs * y.natAbs := by rw [e, Int.natAbs_mul]
    have : y.natAbs ≤ c.natAbs * y.natAbs := Nat.le_mul_of_pos_left _ (by omega)
    omega
  have Pf : FB 20 P := ⟨small ea fa, small eb fb, small ec fc⟩
  have zc : Szc c 20 := by
    refine ⟨?_⟩
    have h1 := fa.h
    have : f.a.natAbs = c.natAbs * P.a.natAbs := by rw [ea, Int.natAbs_mul]
    have a0 := h.a0
    have : c.natAbs ≤ c.natAbs * P.a.natAbs := Nat.le_mul_of_pos_right _ (by omega)
    omega
  have v4 := vMul_le fb fb (by omega)
  have v5 := vMul_le (show Szc 4 3 from ⟨by decide⟩) fa (by omega)
  have v6 := vMul_le (inferInstance : Szc (4 * f.a) (3 + 20)) fc (by omega)
  have v7 := vMul_le zc zc (by omega)
  have cc0 : 0 < c * c := Int.mul_pos c0 c0
  have fd : vFdiv (.int (f.b * f.b - 4 * f.a * f.c)) (.int (c * c)) = some (.int P.disc) := by
    have e : f.b * f.b - 4 * f.a * f.c = c * c * P.disc := by rw [ea, eb, ec]; simp only [Fm.disc]; grind
    rw [vFdiv_c (n := 40) (hb := (inferInstance : Szc (c * c) (20 + 20))) (by omega) (by omega), e, Int.mul_fdiv_cancel_left _ (by omega)]
  have Pd : P.disc ≤ D := by
    have e : D = c * c * P.disc := by rw [← mf.d, h.e, Fm.scl_disc]
    have := Int.mul_le_mul_of_nonneg_right (show 1 ≤ c * c by omega) (show 0 ≤ P.disc by have := h.D0; omega)
    omega
  have rD : D < 2116 := by
    have h1 := mf.r.hi
    have h0 := mf.r.r0
    have := Int.mul_le_mul (show r + 1 ≤ 46 by omega) (show r + 1 ≤ 46 by omega) (by omega) (by omega)
    omega
  obtain ⟨T', U', lu, fu', zT, zU⟩ := least_unit_ok (D := P.disc) ⟨h.D0, disc_mod4 P, h.Dn, by omega⟩
  obtain ⟨rfl, rfl⟩ := fu'.uniq h.fu (disc_mod4 P) h.D0
  have q1 : vFdiv (.int f.a) (.int c) = some (.int P.a) := by rw [vFdiv_c (n := 20) (hb := zc) (by omega) (by omega), ea, Int.mul_fdiv_cancel_left _ (by omega)]
  have q2 : vFdiv (.int f.b) (.int c) = some (.int P.b) := by rw [vFdiv_c (n := 20) (hb := zc) (by omega) (by omega), eb, Int.mul_fdiv_cancel_left _ (by omega)]
  have q3 : vFdiv (.int f.c) (.int c) = some (.int P.c) := by rw [vFdiv_c (n := 20) (hb := zc) (by omega) (by omega), ec, Int.mul_fdiv_cancel_left _ (by omega)]
  have pe : PyData.tuple [.int P.a, .int P.b, .int P.c] = P.enc := rfl
  have su := self_of_unit_ok h.au dY Pf zT zU (by omega)
  have us := unit_of_self_ok h (Pf.mono (by omega)) (szcMono zc (by omega))
  have nY := vNe_mt Y Y
  rw [decide_eq_true rfl] at nY
  obtain ⟨k', w1, h1, k0, k1, s1⟩ := L_draw_ok hω (m := 7) (by omega) (by omega)
  obtain ⟨s', w2, h2, b0, b1, s2⟩ := L_draw_ok s1 (m := 2) (by omega) (by omega)
  obtain ⟨K, hK⟩ : ∃ K, k' - 3 = K := ⟨_, rfl⟩
  obtain ⟨sg, hsg⟩ : ∃ sg : Bool, 1 - 2 * s' = sgI sg := by
    rcases (show s' = 0 ∨ s' = 1 by omega) with z | z
    · exact ⟨true, by rw [z]; rfl⟩
    · exact ⟨false, by rw [z]; rfl⟩
  obtain ⟨neg, hneg⟩ : ∃ neg : Bool, (K < 0 ∧ neg = true) ∨ (¬ K < 0 ∧ neg = false) := by
    by_cases z : K < 0
    · exact ⟨true, .inl ⟨z, rfl⟩⟩
    · exact ⟨false, .inr ⟨z, rfl⟩⟩
  have hk3 : K.natAbs ≤ 3 := by omega
  have eK : sgI (!neg) * (K.natAbs : Int) = K := by
    rcases hneg with ⟨z, rfl⟩ | ⟨z, rfl⟩
    · show -1 * (K.natAbs : Int) = K; omega
    · show 1 * (K.natAbs : Int) = K; omega
  obtain ⟨ex, is⟩ := exponent_ok h mf.fb neg sg hk3
  rw [eK] at ex
  have v8 := vMul_le (show Szc 2 2 from ⟨by decide⟩) (show Szc s' 2 from ⟨by omega⟩) (by omega)
  have p0 : PyData.tuple [.int (sgI sg), .int 0, .int 0, .int (sgI sg)] = (sgnM sg ((baseM neg Y).pw 0)).enc := by cases sg <;> rfl
  have bk : PyData.tuple [.int Y.s, .int (-Y.q), .int (-Y.r), .int Y.p] = Y.inv.enc := rfl
  have rg : iRange [.int (K.natAbs : Int)] = some (rangeL 0 1 K.natAbs) := range1N (by omega)
  obtain ⟨ρ5, e5, j5, x5, g1, g2, g3⟩ := for_P (w := w2) (g := gN 12) (PoInv neg sg Y (fun d x => [none, some f.enc, some Y.enc, some (.int c), some (.int P.disc), some (.int T'), some (.int U'), some P.enc, some (.int K), some (.int (sgI sg)), some d, some Y.inv.enc, x]) K.natAbs) (fun d ds ρ hp => po_step hk3 h.mb hneg d ds ρ hp) (rangeL 0 1 K.natAbs) [none, some f.enc, some Y.enc, some (.int c), some (.int P.disc), some (.int T'), some (.int U'), some P.enc, some (.int K), some (.int (sgI sg)), some (sgnM sg ((baseM neg Y).pw 0)).enc, some Y.inv.enc, none] ⟨0, none, rfl, by omega, rfl⟩
  have hj : j5 = K.natAbs := by
    rcases (show j5 = K.natAbs ∨ j5 < K.natAbs by omega) with z | z
    · exact z
    · have ej : K.natAbs - j5 = (K.natAbs - (j5 + 1)) + 1 := by omega
      rw [ej] at g1; cases g1
  subst hj
  subst g3
  have ok := h.ok
  refine ⟨w2, ?_, s2, _, ok⟩
  generalize hZ0 : sgnM sg ((baseM neg Y).pw 0) = Z0 at *
  generalize hZ1 : sgnM sg ((baseM neg Y).pw K.natAbs) = Z1 at *
  generalize hN : K.natAbs = N at *
  unfold d_L_mixed_holds
  simp [ok, tu, vIx_m0, vIx_m1, vIx_m2, vIx_m3, vIx_f0, vIx_f1, vIx_f2, v1, v2, dt, tr, show ¬ T' ≤ 2 by omega, v3, show ¬ Y.r * f.a ≤ 0 by omega, l1, l2, v4, v5, v6, v7, fd, lu, q1, q2, q3, pe, su, us, nY, h1, hK, h2, v8, hsg, p0, bk, gabs_if, hN, rg, e5, ex, is]
end M

set_option Elab.async false
set_option linter.all false
set_option maxRecDepth 100000
set_option maxHeartbeats 4000000
namespace M
open PySem PySem.Spec PyProof.Rows L2
noncomputable def lw1 : Ev → MM Fl := (sAsg (eCallS d_L_pos (aCons (eC (.int 20)) aNil)) (gN 2))
noncomputable def lw2 : Ev → MM Fl := (sIf (bBin vEq (eCallS d_L_draw (aCons (eC (.int 2)) aNil)) (eC (.int 0))) (sAsg (eCall d_L_turned (aCons (eBin vIx (eLst (aCons (eTup (aCons (eC (.int 1)) (aCons (eC (.int 0)) (aCons (eC (.int 1)) aNil)))) (aCons (eTup (aCons (eC (.int 1)) (aCons (eC (.int 1)) (aCons (eC (.int 1)) aNil)))) (aCons (eTup (aCons (eC (.int 2)) (aCons (eC (.int 2)) (aCons (eC (.int 2)) aNil)))) (aCons (eTup (aCons (eC (.int 3)) (aCons (eC (.int 0)) (aCons (eC (.int 3)) aNil)))) aNil))))) (eCallS d_L_draw (aCons (eC (.int 4)) aNil))) (aCons (eCallS d_L_twist aNil) aNil))) (gN 2)) sNext)
noncomputable def lw3 : Ev → MM Fl := (sAsg (eCall d_L_selves (aCons (eVar 2) aNil)) (gN 3))
noncomputable def lw4 : Ev → MM Fl := (sIf (bOr (bBin vNe (eCall d_selves_of (aCons (eVar 2) aNil)) (eVar 3)) (bBin vNe (eCall d_selves_of (aCons (eTup (aCons (eBin vSub (eC (.int 0)) (eBin vIx (eVar 2) (eC (.int 0)))) (aCons (eBin vSub (eC (.int 0)) (eBin vIx (eVar 2) (eC (.int 1)))) (aCons (eBin vSub (eC (.int 0)) (eBin vIx (eVar 2) (eC (.int 2)))) aNil)))) aNil)) (eVar 3))) (sRet (eC (.bool false))) sNext)
noncomputable def lw5 : Ev → MM Fl := (sAsg (eCall d_L_common (aCons (eCall d_L_common (aCons (eBin vIx (eVar 2) (eC (.int 0))) (aCons (eBin vIx (eVar 2) (eC (.int 1))) aNil))) (aCons (eBin vIx (eVar 2) (eC (.int 2))) aNil))) (gN 4))
noncomputable def lw6 : Ev → MM Fl := (sAsg (eBin vSub (eBin vMul (eBin vIx (eVar 2) (eC (.int 1))) (eBin vIx (eVar 2) (eC (.int 1)))) (eBin vMul (eBin vMul (eC (.int 4)) (eBin vIx (eVar 2) (eC (.int 0)))) (eBin vIx (eVar 2) (eC (.int 2))))) (gN 5))
noncomputable def lw7 : Ev → MM Fl := (sIf (bAnd (bBin vEq (eVar 4) (eC (.int 1))) (bBin vNe (eCall d_number_of_selves (aCons (eVar 5) aNil)) (eArgs fLen (aCons (eVar 3) aNil)))) (sRet (eC (.bool false))) sNext)
noncomputable def lw8 : Ev → MM Fl := (sAsg (eCallS d_L_twist aNil) (gN 6))
noncomputable def lw9 : Ev → MM Fl := (sIf (bOr (bNot (bTru (eCall d_L_truth (aCons (eCall d_is_self (aCons (eVar 2) (aCons (eVar 6) aNil))) (aCons (eOfB (bBin vIn (eVar 6) (eVar 3))) aNil))))) (bBin vNotB (eCall d_is_self (aCons (eVar 2) (aCons (eC .none) aNil))) (eC (.bool false)))) (sRet (eC (.bool false))) sNext)
noncomputable def lw10 : Ev → MM Fl := (sAsg (eCallS d_L_mix (aCons (eC (.int 20)) aNil)) (gN 7))
noncomputable def lw11 : Ev → MM Fl := (sIf (bNot (bTru (eCallS d_L_mixed_holds (aCons (eVar 7) aNil)))) (sRet (eC (.bool false))) sNext)
noncomputable def lw12 : Ev → MM Fl := (sAsg (eTup (aCons (eCallS d_L_draw (aCons (eC (.int 5)) aNil)) (aCons (eBin vAdd (eC (.int 1)) (eCallS d_L_draw (aCons (eC (.int 6)) aNil))) (aCons (eC (.int 0)) aNil)))) (gN 8))
noncomputable def lw13 : Ev → MM Fl := (sIf (bOr (bBin vNe (eCall d_selves_of (aCons (eVar 8) aNil)) (eLst (aCons (eTup (aCons (eUn vNeg (eC (.int 1))) (aCons (eC (.int 0)) (aCons (eC (.int 0)) (aCons (eUn vNeg (eC (.int 1))) aNil))))) (aCons (eTup (aCons (eC (.int 1)) (aCons (eC (.int 0)) (aCons (eC (.int 0)) (aCons (eC (.int 1)) aNil))))) aNil)))) (bOr (bBin vNotN (eCall d_L_told (aCons (eVar 7) (aCons (eC (.int 0)) aNil))) (eC .none)) (bBin vNotN (eCall d_L_told (aCons (eVar 2) (aCons (eC (.int 1)) aNil))) (eC .none)))) (sRet (eC (.bool false))) sNext)
noncomputable def lw14 : Ev → MM Fl := sRet (eOfB (bBin vIsN (eCall d_L_told (aCons (eTup (aCons (eC (.int 1)) (aCons (eC (.int 2)) (aCons (eC (.int 1)) aNil)))) (aCons (eC (.int 0)) aNil))) (eC .none)))
theorem lw_eq : db_law = (sSeq lw1 (sSeq lw2 (sSeq lw3 (sSeq lw4 (sSeq lw5 (sSeq lw6 (sSeq lw7 (sSeq lw8 (sSeq lw9 (sSeq lw10 (sSeq lw11 (sSeq lw12 (sSeq lw13 lw14))))))))))))) := rfl
def Rt (E : Res Fl) : Prop := ∃ w, E = .ok (.ret (.bool true)) w
theorem Rt.mk (w : Wd) : Rt (.ok (.ret (.bool true)) w) := ⟨w, rfl⟩
theorem fl_encR' (r : List Int) : Fl2 1 (encR r) := fl_tuple (fl_map fun i => fl_int 0 i)
theorem eqv_encR' (a b : List Int) : PyData.eqv (encR a) (encR b) = decide (a = b) := by
  show PyData.eqvAll (a.map .int) (b.map .int) = _
  exact eqvAll_map eqv_int a b
theorem vNe_rows' (xs ys : List (List Int)) : vNe (.list (xs.map encR)) (.list (ys.map encR)) = some (!decide (xs = ys)) := by
  rw [vNe_of (fl_list (fl_map fl_encR')) (fl_list (fl_map fl_encR')) (by omega)]
  simp only [PyData.eqv]
  rw [eqvAll_map eqv_encR']
theorem vNe_selS (L : List Mt) : vNe (selS L) (selS L) = some false := by
  have := vNe_rows' (sortR (L.map Mt.row)) (sortR (L.map Mt.row))
  rw [decide_eq_true rfl] at this
  exact this
theorem vIn_selS (m : Mt) (L : List Mt) : vIn m.enc (selS L) = some (decide (m ∈ L)) := by
  have e := vIn_of eqv_encR' fl_encR' (by omega) m.row (sortR (L.map Mt.row))
  have iff : m.row ∈ sortR (L.map Mt.row) ↔ m ∈ L := by
    rw [(sortR_perm _).mem_iff, List.mem_map]
    exact ⟨fun ⟨k, h, e⟩ => by rw [← Mt.row_inj e]; exact h, fun h => ⟨m, h, rfl⟩⟩
  rw [decide_eq_decide.2 iff] at e
  exact e
theorem len_selS (L : List Mt) : ∃ ds, selS L = .list ds ∧ ds.length = L.length := ⟨_, rfl, by rw [List.length_map, (sortR_perm _).length_eq, List.length_map]⟩
theorem number_ok (D : Int) : d_number_of_selves [.int D] = .ok (.int (if D = -4 then 4 else if D = -3 then 6 else 2)) [] := by
  unfold d_number_of_selves
  by_cases c : D = -4
  · simp [c]
  · by_cases c2 : D = -3
    · simp [c2]
    · simp [c, c2]
theorem number_is {p : Fm} (h : p.Red) : ((selL p).length : Int) = if p.disc = -4 then 4 else if p.disc = -3 then 6 else 2 := by
  unfold selL
  by_cases h1 : p = ⟨1, 0, 1⟩
  · subst h1; decide
  · by_cases h2 : p = ⟨1, 1, 1⟩
    · subst h2; decide
    · have n4 : p.disc ≠ -4 := fun z => by rcases red34 h (.inr z) with k | k; exact h1 k; exact h2 k
      have n3 : p.disc ≠ -3 := fun z => by rcases red34 h (.inl z) with k | k; exact h1 k; exact h2 k
      rw [if_neg h1, if_neg h2, if_neg n4, if_neg n3]; rfl
theorem prod_b {x y : Int} (hx : x.natAbs ≤ 256) (hy : y.natAbs ≤ 256) : -65536 ≤ x * y ∧ x * y ≤ 65536 := by
  have e : (x * y).natAbs = x.natAbs * y.natAbs := Int.natAbs_mul x y
  have := Nat.mul_le_mul hx hy
  omega
theorem made_psm {F : Fm} (hF : F = ⟨1, 0, 1⟩ ∨ F = ⟨1, 1, 1⟩ ∨ F = ⟨2, 2, 2⟩ ∨ F = ⟨3, 0, 3⟩) {T : Mt} (hT : T.det = 1) (hb : Bt 256 T) : Psm (F.turn T) ∧ -6400 ≤ (F.turn T).disc := by
  have f0 : 0 < F.a ∧ F.disc < 0 ∧ -36 ≤ F.disc := by rcases hF with z | z | z | z <;> subst z <;> decide
  obtain ⟨p1, p2⟩ := turn_pos f0.1 f0.2.1 hT
  have k1 := prod_b hb.p hb.p
  have k2 := prod_b hb.p hb.r
  have k3 := prod_b hb.r hb.r
  have k4 := prod_b hb.q hb.q
  have k5 := prod_b hb.q hb.s
  have k6 := prod_b hb.s hb.s
  have k7 := prod_b hb.p hb.q
  have k8 := prod_b hb.p hb.s
  have k9 := prod_b hb.q hb.r
  have k0 := prod_b hb.r hb.s
  have ga : (F.turn T).a = F.a * (T.p * T.p) + F.b * (T.p * T.r) + F.c * (T.r * T.r) := by simp only [Fm.turn, Fm.at]; grind
  have gb : (F.turn T).b = 2 * (F.a * (T.p * T.q)) + F.b * (T.p * T.s + T.q * T.r) + 2 * (F.c * (T.r * T.s)) := by simp only [Fm.turn]; grind
  have gc : (F.turn T).c = F.a * (T.q * T.q) + F.b * (T.q * T.s) + F.c * (T.s * T.s) := by simp only [Fm.turn, Fm.at]; grind
  rw [← p2] at f0
  refine ⟨⟨p1, f0.2.1, ?_, ?_, ?_⟩, by omega⟩
  · rw [ga]; rcases hF with z | z | z | z <;> subst z <;> simp only <;> omega
  · rw [gb]; rcases hF with z | z | z | z <;> subst z <;> simp only <;> omega
  · rw [gc]; rcases hF with z | z | z | z <;> subst z <;> simp only <;> omega
theorem selves_of_split {a b : Int} (ha : Szc a 10) (hb : 0 < b) (hb2 : b ≤ 100) : d_selves_of [.tuple [.int a, .int b, .int 0]] = .ok (.list [.tuple [.int (-1), .int 0, .int 0, .int (-1)], .tuple [.int 1, .int 0, .int 0, .int 1]]) [] := by
  have bb := Int.mul_pos hb hb
  have dd : (Fm.mk a b 0).disc = b * b := by simp only [Fm.disc]; omega
  have kd := kind_over (f := ⟨a, b, 0⟩) ⟨szcMono ha (by omega), ⟨by show b.natAbs < _; omega⟩, ⟨by show (0 : Int).natAbs < _; decide⟩⟩ (by rw [dd]; exact bb)
  rw [if_pos (by rw [dd]; exact sqB_true.2 ⟨b, rfl⟩)] at kd
  have e : (Fm.mk a b 0).enc = .tuple [.int a, .int b, .int 0] := rfl
  rw [e] at kd
  have q1 : vEq (.str "split") (.str "split") = some true := by decide +kernel
  unfold d_selves_of
  simp [kd, q1, fList]
theorem told_mixed {D r : Int} {f : Fm} (mf : Mix D r f) : d_L_told [f.enc, .int 0] = .ok .none [] := by
  have kd := kind_over (f := f) (mf.fb.mono (by omega)) (by rw [mf.d]; exact mf.pos)
  rw [if_neg (by rw [sqB_false.2 mf.hn]; decide)] at kd
  have q1 : vEq (.str "mixed") (.str "split") = some false := by decide +kernel
  have q2 : vIn (.str "mixed") (.tuple [.str "mixed", .str "flat"]) = some true := by decide +kernel
  have so : d_selves_of [f.enc] = .exc ⟨"NotPossible", none⟩ [] := by
    unfold d_selves_of
    simp [kd, q1, q2]
  unfold d_L_told
  simp [sTry_ap, so, kTry_exc]
theorem told_pos {f : Fm} (hf : FB 130 f) (hd : f.disc < 0) (ha : 0 < f.a) : d_L_told [f.enc, .int 1] = .ok .none [] := by
  have kd := kind_pos hf hd ha
  have q1 : vNe (.str "positive") (.str "mixed") = some true := by decide +kernel
  have so : d_least_self [f.enc] = .exc ⟨"NotPossible", none⟩ [] := by
    unfold d_least_self
    simp [kd, q1]
  unfold d_L_told
  simp [sTry_ap, so, kTry_exc]
theorem told_flat : d_L_told [.tuple [.int 1, .int 2, .int 1], .int 0] = .ok .none [] := by
  have kd := kind_flat (f := ⟨1, 2, 1⟩) ⟨⟨by decide⟩, ⟨by decide⟩, ⟨by decide⟩⟩ (by decide)
  have e : (Fm.mk 1 2 1).enc = .tuple [.int 1, .int 2, .int 1] := rfl
  rw [e] at kd
  have q1 : vEq (.str "flat") (.str "split") = some false := by decide +kernel
  have q2 : vIn (.str "flat") (.tuple [.str "mixed", .str "flat"]) = some true := by decide +kernel
  have so : d_selves_of [.tuple [.int 1, .int 2, .int 1]] = .exc ⟨"NotPossible", none⟩ [] := by
    unfold d_selves_of
    simp [kd, q1, q2]
  unfold d_L_told
  simp [sTry_ap, so, kTry_exc]
theorem law_math (ns : List Int) (_ : ns.length ≤ 63) : ∃ ω', db_law [none, none, none, none, none, none, none, none, none] (ω0 ns) = .ok (.ret (.bool true)) ω' := by
  show Rt _
  obtain ⟨f0, w1, h1, s1, fa, fd, fl, fbn⟩ := L_pos_ok (stOk0 ns) (m := 20) (by omega) (by omega)
  obtain ⟨c2, w2, h2, c20, c21, s2⟩ := L_draw_ok s1 (m := 2) (by omega) (by omega)
  rw [lw_eq]
  simp only [sSeq_ap]
  simp [lw1, h1]
  obtain ⟨g, w3, gp, gl, s3, e2⟩ : ∃ g w3, Psm g ∧ -6400 ≤ g.disc ∧ StOk w3 ∧ lw2 [none, none, some f0.enc, none, none, none, none, none, none] w1 = .ok (.next [none, none, some g.enc, none, none, none, none, none, none]) w3 := by
    by_cases c : c2 = 0
    · obtain ⟨j, w3, h3, j0, j1, s3⟩ := L_draw_ok s2 (m := 4) (by omega) (by omega)
      obtain ⟨T, w4, h4, dT, bT, s4⟩ := L_twist_bt s3
      obtain ⟨F, hF, ix⟩ : ∃ F : Fm, (F = ⟨1, 0, 1⟩ ∨ F = ⟨1, 1, 1⟩ ∨ F = ⟨2, 2, 2⟩ ∨ F = ⟨3, 0, 3⟩) ∧ vIx (.list [.tuple [.int 1, .int 0, .int 1], .tuple [.int 1, .int 1, .int 1], .tuple [.int 2, .int 2, .int 2], .tuple [.int 3, .int 0, .int 3]]) (.int j) = some F.enc := by
        rcases (show j = 0 ∨ j = 1 ∨ j = 2 ∨ j = 3 by omega) with z | z | z | z <;> subst z
        · exact ⟨_, .inl rfl, rfl⟩
        · exact ⟨_, .inr (.inl rfl), rfl⟩
        · exact ⟨_, .inr (.inr (.inl rfl)), rfl⟩
        · exact ⟨_, .inr (.inr (.inr rfl)), rfl⟩
      have Fb : FB 20 F := by rcases hF with z | z | z | z <;> subst z <;> exact ⟨⟨by decide⟩, ⟨by decide⟩, ⟨by decide⟩⟩
      have tu := L_turned_ok Fb (bT.mb (n := 9) (by omega)) (by omega)
      obtain ⟨gp, gl⟩ := made_psm hF dT bT
      refine ⟨F.turn T, w4, gp, gl, s4, ?_⟩
      simp [lw2, h2, c, h3, ix, h4, tu]
    · obtain ⟨ba, bb, bc⟩ := fbn
      refine ⟨f0, w2, ⟨fa, fd, by omega, by omega, by omega⟩, fl, s2, ?_⟩
      simp [lw2, h2, c]
  rw [e2]
  simp only [kSeq_next, sSeq_ap]
  clear e2 h1 h2
  have ga0 := gp.a0; have ga1 := gp.a1; have gb1 := gp.b1; have gdn := gp.dn; have gc1 := gp.c1
  have gc0 := neg_disc_pos gdn ga0
  have gf : FB 20 g := ⟨⟨by omega⟩, ⟨by omega⟩, ⟨by omega⟩⟩
  have gn : Nm g.disc g := ⟨ga0, rfl, by omega, by omega, by omega, gdn, by omega⟩
  obtain ⟨L, T, h, p, so⟩ := selves_end gn
  have ll : L.length ≤ 100 := by
    rw [so.e, List.length_map]
    have := number_is so.pr
    split at this
    · omega
    · split at this <;> omega
  have ls := L_selves_ok gp so.is ll
  have sp := selves_of_pos gn so false (o := g) (by ext <;> simp [Fm.scl]) (gf.mono (by omega))
  have sn := selves_of_pos gn so true (o := g.scl (-1)) rfl (gf.mono (by omega))
  have ne : (g.scl (-1)).enc = .tuple [.int (-g.a), .int (-g.b), .int (-g.c)] := by
    simp [Fm.enc, Fm.scl]
  rw [ne] at sn
  have nS := vNe_selS L
  simp [lw3, ls]
  have h4 : lw4 [none, none, some g.enc, some (selS L), none, none, none, none, none] w3 = .ok (.next [none, none, some g.enc, some (selS L), none, none, none, none, none]) w3 := by
    simp [lw4, sp, vIx_f0, vIx_f1, vIx_f2, sn, nS]
  rw [h4]
  simp only [kSeq_next, sSeq_ap]
  clear h4
  have l1 := L_common_ok g.a g.b
  have l2 : d_L_common [.int ((Int.gcd g.a g.b : Nat) : Int), .int g.c] = .ok (.int g.cont) [] := L_common_ok _ _
  have fa := gf.a; have fb := gf.b; have fc := gf.c
  have v4 := vMul_le fb fb (by omega)
  have v5 := vMul_le (show Szc 4 3 from ⟨by decide⟩) fa (by omega)
  have v6 := vMul_le (inferInstance : Szc (4 * g.a) (3 + 20)) fc (by omega)
  have de : g.b * g.b - 4 * g.a * g.c = g.disc := rfl
  simp [lw5, vIx_f0, vIx_f1, vIx_f2, l1, l2]
  simp [lw6, vIx_f0, vIx_f1, vIx_f2, v4, v5, v6, de]
  have h7 : lw7 [none, none, some g.enc, some (selS L), some (.int g.cont), some (.int g.disc), none, none, none] w3 = .ok (.next [none, none, some g.enc, some (selS L), some (.int g.cont), some (.int g.disc), none, none, none]) w3 := by
    by_cases c : g.cont = 1
    · obtain ⟨q, x, y, z, c0, e, bz⟩ := cont_spec (f := g) (by omega)
      rw [c] at e
      have pd := so.pd x y z (by rw [e]; simp only [Fm.scl, Int.one_mul]; exact bz)
      have nu := number_ok g.disc
      have nl := number_is so.pr
      rw [pd] at nl
      rw [← nl] at nu
      have lL : L.length = (selL p).length := by rw [so.e, List.length_map]
      obtain ⟨ds, e1, e2⟩ := len_selS L
      have el : ds.length = (selL p).length := by omega
      rw [e1]
      generalize (selL p).length = N at *
      simp [lw7, c, nu, el]
    · simp [lw7, c]
  rw [h7]
  simp only [kSeq_next, sSeq_ap]
  clear h7
  obtain ⟨M, w4, h8, dM, bM, s4⟩ := L_twist_bt s3
  simp [lw8, h8]
  have is := is_self_ok gf (bM.mb (n := 9) (by omega)) (by omega)
  have inn := vIn_selS M L
  have iff : decide (M.det = 1 ∧ g.turn M = g) = decide (M ∈ L) := decide_eq_decide.2 (so.is.mem M).symm
  rw [iff] at is
  have lt := L_truth_t (decide (M ∈ L))
  have isn := is_self_none g
  have h9 : lw9 [none, none, some g.enc, some (selS L), some (.int g.cont), some (.int g.disc), some M.enc, none, none] w4 = .ok (.next [none, none, some g.enc, some (selS L), some (.int g.cont), some (.int g.disc), some M.enc, none, none]) w4 := by
    generalize decide (M ∈ L) = bb at *
    simp [lw9, is, inn, lt, isn]
  rw [h9]
  simp only [kSeq_next, sSeq_ap]
  clear h9
  obtain ⟨f, D, r, w5, h10, fd, hr, hn, D0, Dm, fbm, s5⟩ := L_mix_ok s4 (most := 20) (by omega) (by omega)
  have mf : Mix D r f := ⟨fd, hr, hn, by omega, fbm.mono (by omega)⟩
  have r45 : r ≤ 45 := by
    have := hr.lo; have := hr.r0
    apply Int.not_lt.1
    intro z
    have := Int.mul_le_mul (show 46 ≤ r by omega) (show 46 ≤ r by omega) (by omega) (by omega)
    omega
  obtain ⟨w6, h11, s6, _⟩ := L_mixed_holds_ok mf r45 (fbm.mono (by omega)) s5
  simp [lw10, h10]
  simp [lw11, h11]
  obtain ⟨a, w7, h12, a0, a1, s7⟩ := L_draw_ok s6 (m := 5) (by omega) (by omega)
  obtain ⟨b, w8, h13, b0, b1, s8⟩ := L_draw_ok s7 (m := 6) (by omega) (by omega)
  simp [lw12, h12, h13]
  have ss := selves_of_split (a := a) (b := 1 + b) ⟨by omega⟩ (by omega) (by omega)
  have nr := vNe_rows' [[-1, 0, 0, -1], [1, 0, 0, 1]] [[-1, 0, 0, -1], [1, 0, 0, 1]]
  rw [decide_eq_true rfl] at nr
  have nr' : vNe (.list [.tuple [.int (-1), .int 0, .int 0, .int (-1)], .tuple [.int 1, .int 0, .int 0, .int 1]]) (.list [.tuple [.int (-1), .int 0, .int 0, .int (-1)], .tuple [.int 1, .int 0, .int 0, .int 1]]) = some false := nr
  have t1 := told_mixed mf
  have t2 := told_pos (gf.mono (by omega)) gdn ga0
  have t3 := told_flat
  simp [lw13, ss, nr', t1, t2]
  simp [lw14, t3]
  exact Rt.mk _
end M

set_option Elab.async false
set_option linter.all false
set_option maxRecDepth 100000
set_option maxHeartbeats 4000000
namespace M
open PySem PySem.Spec PyProof.Rows L2
theorem cx_out {P : Program} {w : World} {H : Hp} {s : Shared} {e : Value} {s' : Shared} (h : L2.CX P w [] H s (fun _ _ _ => False) e s') : False := by
  obtain ⟨_, _, _, _, _, _, _, _, _, _, _, _, z⟩ := h
  exact z
theorem law_ok {P : Program} {w : World} {K : PySem.W.Frag} {mg : PySem.Str → Option Value} {base : Heap} (T : Txt K mg) {f : Addr} {fd : FuncData} (F : Fun K "law" "law" s_law f fd) : FnOk P w K mg base (L2.CX P w) 8 f fd ["script"] (spLaw K) :=
  law_F F sc_law rfl (by decide) (fun cdv A outer s H E hr => der_law0 T f cdv A outer s H E hr) (fun H0 F0 b cdv A outer s H E hr => der_law T f H0 F0 b cdv A outer s H E hr) law_math
theorem law_all {P : Program} {w : World} {K : PySem.W.Frag} {h : Heap} {mg : PySem.Str → Option Value} {fa : Addr} (KX : K.In h) (G : h.Ns mainGlobals mg) (hfa : mg "law" = some (.ref fa)) (T : Txt K mg) :
    ∃ fd : FuncData, (∀ (s : Shared) (v : Value), BindsTo s fd ⟨[v], []⟩ [("script", v)]) ∧ ∀ base : Heap, K.In base → base.Ns mainGlobals mg → FnOk P w K mg base (L2.CX P w) 8 fa fd ["script"] (spLaw K) := by
  obtain ⟨f, fd, F, b, g⟩ := T.f_law
  rw [hfa] at g
  cases g
  refine ⟨fd, fun s v => ?_, fun base _ _ => law_ok T F⟩
  obtain ⟨oc, od, kV, doc, pm, an, cdv, ct, osl, rfl, lk, hcd⟩ := F.ex
  exact .of_eq rfl
end M
open PySem PySem.W PyProof.Rows
set_option maxRecDepth 100000 in
set_option maxHeartbeats 0 in
theorem PySem.Challenge.cw_rootsooth_k10_whole_matrices_that_keep_a_holds : PySem.Challenge.rw_rootsooth_k10_whole_matrices_that_keep_a.Holds := by
  w_on; o_law; k_head; (case hw => w_witness2)
  k_fill
  refine L2.walk_of (l := PySem.Challenge.rw_rootsooth_k10_whole_matrices_that_keep_a) (n := 63) (k := 8) (x := "script") (CX := fun w => L2.CX PySem.Challenge.rw_rootsooth_k10_whole_matrices_that_keep_a.prog w) (sp := fun w => M.spLaw _) rfl (by decide) rfl ⟨rfl, by decide, by decide⟩ (fun w h Y => PySem.W.kIn_of Y) ?F (fun _ _ a ns hl _ hS => ⟨a, ns, rfl, hS, hl, fun _ => rfl⟩) (fun _ _ _ _ _ h => M.cx_out h)
  case F =>
    intro w mg fa h KX G hmg
    refine' M.law_all KX G hmg ⟨(M.def_mk G KX (fun _ _ _ _ _ _ us hl => match us, hl with | [_], _ => rfl) ?a4 ?l4 ?c4 ?k4),
      (M.def_mk G KX (fun _ _ _ _ _ _ us hl => match us, hl with | [_], _ => rfl) ?a5 ?l5 ?c5 ?k5),
      (M.def_mk G KX (fun _ _ _ _ _ _ us hl => match us, hl with | [_, _], _ => rfl) ?a6 ?l6 ?c6 ?k6),
      (M.def_mk G KX (fun _ _ _ _ _ _ us hl => match us, hl with | [_], _ => rfl) ?a7 ?l7 ?c7 ?k7),
      (M.def_mk G KX (fun _ _ _ _ _ _ us hl => match us, hl with | [_], _ => rfl) ?a9 ?l9 ?c9 ?k9),
      (M.def_mk G KX (fun _ _ _ _ _ _ us hl => match us, hl with | [_, _], _ => rfl) ?a10 ?l10 ?c10 ?k10),
      (M.def_mk G KX (fun _ _ _ _ _ _ us hl => match us, hl with | [_, _, _], _ => rfl) ?a12 ?l12 ?c12 ?k12),
      (M.def_mk G KX (fun _ _ _ _ _ _ us hl => match us, hl with | [_], _ => rfl) ?a13 ?l13 ?c13 ?k13),
      (M.def_mk G KX (fun _ _ _ _ _ _ us hl => match us, hl with | [_], _ => rfl) ?a14 ?l14 ?c14 ?k14),
      (M.def_mk G KX (fun _ _ _ _ _ _ us hl => match us, hl with | [_, _], _ => rfl) ?a15 ?l15 ?c15 ?k15),
      (M.def_mk G KX (fun _ _ _ _ _ _ us hl => match us, hl with | [_, _], _ => rfl) ?a16 ?l16 ?c16 ?k16),
      (M.def_mk G KX (fun _ _ _ _ _ _ us hl => match us, hl with | [_], _ => rfl) ?a17 ?l17 ?c17 ?k17),
      (M.def_mk G KX (fun _ _ _ _ _ _ us hl => match us, hl with | [_], _ => rfl) ?a18 ?l18 ?c18 ?k18),
      (M.def_mk G KX (fun _ _ _ _ _ _ us hl => match us, hl with | [_], _ => rfl) ?a19 ?l19 ?c19 ?k19),
      (M.def_mk G KX (fun _ _ _ _ _ _ us hl => match us, hl with | [_], _ => rfl) ?a23 ?l23 ?c23 ?k23),
      (M.def_mk G KX (fun _ _ _ _ _ _ us hl => match us, hl with | [_, _], _ => rfl) ?a24 ?l24 ?c24 ?k24),
      (M.def_mk G KX (fun _ _ _ _ _ _ us hl => match us, hl with | [_], _ => rfl) ?a25 ?l25 ?c25 ?k25),
      (M.def_mk G KX (fun _ _ _ _ _ _ us hl => match us, hl with | [_], _ => rfl) ?a26 ?l26 ?c26 ?k26),
      (M.def_mk G KX (fun _ _ _ _ _ _ us hl => match us, hl with | [_, _], _ => rfl) ?a27 ?l27 ?c27 ?k27),
      (M.def_mk G KX (fun _ _ _ _ _ _ us hl => match us, hl with | [_], _ => rfl) ?a29 ?l29 ?c29 ?k29),
      (M.def_mk G KX (fun _ _ _ _ _ _ us hl => match us, hl with | [_], _ => rfl) ?a30 ?l30 ?c30 ?k30),
      (M.def_mk G KX (fun _ _ _ _ _ _ us hl => match us, hl with | [_], _ => rfl) ?a31 ?l31 ?c31 ?k31),
      (M.def_mk G KX (fun _ _ _ _ _ _ us hl => match us, hl with | [_], _ => rfl) ?a32 ?l32 ?c32 ?k32),
      (M.def_mk G KX (fun _ _ _ _ _ _ us hl => match us, hl with | [_], _ => rfl) ?a34 ?l34 ?c34 ?k34),
      (M.def_mk G KX (fun _ _ _ _ _ _ us hl => match us, hl with | [_], _ => rfl) ?a35 ?l35 ?c35 ?k35),
      (M.def_mk G KX (fun _ _ _ _ _ _ us hl => match us, hl with | [_], _ => rfl) ?a40 ?l40 ?c40 ?k40),
      (M.def_mk G KX (fun _ _ _ _ _ _ us hl => match us, hl with | [_], _ => rfl) ?a41 ?l41 ?c41 ?k41),
      (M.def_mk G KX (fun _ _ _ _ _ _ us hl => match us, hl with | [_], _ => rfl) ?a42 ?l42 ?c42 ?k42),
      (M.def_mk G KX (fun _ _ _ _ _ _ us hl => match us, hl with | [_, _, _], _ => rfl) ?a43 ?l43 ?c43 ?k43),
      (M.def_mk G KX (fun _ _ _ _ _ _ us hl => match us, hl with | [_, _], _ => rfl) ?a44 ?l44 ?c44 ?k44),
      (M.def_mk G KX (fun _ _ _ _ _ _ us hl => match us, hl with | [_, _], _ => rfl) ?a45 ?l45 ?c45 ?k45),
      (M.def_mk G KX (fun _ _ _ _ _ _ us hl => match us, hl with | [_, _], _ => rfl) ?a46 ?l46 ?c46 ?k46),
      (M.def_mk G KX (fun _ _ _ _ _ _ us hl => match us, hl with | [_], _ => rfl) ?a48 ?l48 ?c48 ?k48),
      (M.def_mk G KX (fun _ _ _ _ _ _ us hl => match us, hl with | [_], _ => rfl) ?a50 ?l50 ?c50 ?k50),
      (M.def_mk G KX (fun _ _ _ _ _ _ us hl => match us, hl with | [_], _ => rfl) ?a52 ?l52 ?c52 ?k52),
      (M.def_mk G KX (fun _ _ _ _ _ _ us hl => match us, hl with | [_, _], _ => rfl) ?a53 ?l53 ?c53 ?k53),
      (M.def_mk G KX (fun _ _ _ _ _ _ us hl => match us, hl with | [_], _ => rfl) ?a54 ?l54 ?c54 ?k54),
      (M.def_mk G KX (fun _ _ _ _ _ _ us hl => match us, hl with | [_, _], _ => rfl) ?a55 ?l55 ?c55 ?k55),
      (M.def_mk G KX (fun _ _ _ _ _ _ us hl => match us, hl with | [_, _], _ => rfl) ?a56 ?l56 ?c56 ?k56),
      (M.def_mk G KX (fun _ _ _ _ _ _ us hl => match us, hl with | [_], _ => rfl) ?a57 ?l57 ?c57 ?k57),
      (M.def_mk G KX (fun _ _ _ _ _ _ us hl => match us, hl with | [_, _], _ => rfl) ?a58 ?l58 ?c58 ?k58),
      (M.def_mk G KX (fun _ _ _ _ _ _ us hl => match us, hl with | [_, _], _ => rfl) ?a59 ?l59 ?c59 ?k59),
      (M.def_mk G KX (fun _ _ _ _ _ _ us hl => match us, hl with | [_, _], _ => rfl) ?a60 ?l60 ?c60 ?k60),
      (M.def_mk G KX (fun _ _ _ _ _ _ us hl => match us, hl with | [_], _ => rfl) ?a61 ?l61 ?c61 ?k61),
      (M.def_mk G KX (fun _ _ _ _ _ _ us hl => match us, hl with | [_, _], _ => rfl) ?a62 ?l62 ?c62 ?k62),
      (M.def_mk G KX (fun _ _ _ _ _ _ us hl => match us, hl with | [_], _ => rfl) ?a63 ?l63 ?c63 ?k63),
      (M.def_mk G KX (fun _ _ _ _ _ _ us hl => match us, hl with | [_, _], _ => rfl) ?a64 ?l64 ?c64 ?k64),
      (M.def_mk G KX (fun _ _ _ _ _ _ us hl => match us, hl with | [_, _], _ => rfl) ?a65 ?l65 ?c65 ?k65),
      (M.def_mk G KX (fun _ _ _ _ _ _ us hl => match us, hl with | [_, _], _ => rfl) ?a66 ?l66 ?c66 ?k66),
      (M.def_mk G KX (fun _ _ _ _ _ _ us hl => match us, hl with | [_], _ => rfl) ?a67 ?l67 ?c67 ?k67),
      (PySem.W.mg_none_of KX G ?z_abs),
      (PySem.W.mg_none_of KX G ?z_all),
      (PySem.W.mg_none_of KX G ?z_bool),
      (PySem.W.mg_none_of KX G ?z_int),
      (PySem.W.mg_none_of KX G ?z_isinstance),
      (PySem.W.mg_none_of KX G ?z_len),
      (PySem.W.mg_none_of KX G ?z_list),
      (PySem.W.mg_none_of KX G ?z_range),
      (PySem.W.mg_none_of KX G ?z_set),
      (PySem.W.mg_none_of KX G ?z_sorted),
      (PySem.W.mg_none_of KX G ?z_tuple),
      (M.exc_mk G KX ?xa_NotPossible ?xq_NotPossible ?xk_NotPossible ?xs_NotPossible ?xi_NotPossible ?xt_NotPossible ?xr_NotPossible),
      (M.ctup2_mk G KX ?co_QUARTERS ?cl_QUARTERS ?cr_QUARTERS ?ca_QUARTERS),
      (M.ctup2_mk G KX ?co_SIXTHS ?cl_SIXTHS ?cr_SIXTHS ?ca_SIXTHS),
      (M.ctup_mk G KX ?co_STRAIGHT ?cl_STRAIGHT ?ct_STRAIGHT),
      (M.ctup2_mk G KX ?co_STRAIGHTS ?cl_STRAIGHTS ?cr_STRAIGHTS ?ca_STRAIGHTS),
      (M.ctup_mk G KX ?co_TURN ?cl_TURN ?ct_TURN)⟩
    (case a4 => k_is)
    (case l4 => k_is)
    (case c4 => k_is)
    (case k4 => k_is)
    (case a5 => k_is)
    (case l5 => k_is)
    (case c5 => k_is)
    (case k5 => k_is)
    (case a6 => k_is)
    (case l6 => k_is)
    (case c6 => k_is)
    (case k6 => k_is)
    (case a7 => k_is)
    (case l7 => k_is)
    (case c7 => k_is)
    (case k7 => k_is)
    (case a9 => k_is)
    (case l9 => k_is)
    (case c9 => k_is)
    (case k9 => k_is)
    (case a10 => k_is)
    (case l10 => k_is)
    (case c10 => k_is)
    (case k10 => k_is)
    (case a12 => k_is)
    (case l12 => k_is)
    (case c12 => k_is)
    (case k12 => k_is)
    (case a13 => k_is)
    (case l13 => k_is)
    (case c13 => k_is)
    (case k13 => k_is)
    (case a14 => k_is)
    (case l14 => k_is)
    (case c14 => k_is)
    (case k14 => k_is)
    (case a15 => k_is)
    (case l15 => k_is)
    (case c15 => k_is)
    (case k15 => k_is)
    (case a16 => k_is)
    (case l16 => k_is)
    (case c16 => k_is)
    (case k16 => k_is)
    (case a17 => k_is)
    (case l17 => k_is)
    (case c17 => k_is)
    (case k17 => k_is)
    (case a18 => k_is)
    (case l18 => k_is)
    (case c18 => k_is)
    (case k18 => k_is)
    (case a19 => k_is)
    (case l19 => k_is)
    (case c19 => k_is)
    (case k19 => k_is)
    (case a23 => k_is)
    (case l23 => k_is)
    (case c23 => k_is)
    (case k23 => k_is)
    (case a24 => k_is)
    (case l24 => k_is)
    (case c24 => k_is)
    (case k24 => k_is)
    (case a25 => k_is)
    (case l25 => k_is)
    (case c25 => k_is)
    (case k25 => k_is)
    (case a26 => k_is)
    (case l26 => k_is)
    (case c26 => k_is)
    (case k26 => k_is)
    (case a27 => k_is)
    (case l27 => k_is)
    (case c27 => k_is)
    (case k27 => k_is)
    (case a29 => k_is)
    (case l29 => k_is)
    (case c29 => k_is)
    (case k29 => k_is)
    (case a30 => k_is)
    (case l30 => k_is)
    (case c30 => k_is)
    (case k30 => k_is)
    (case a31 => k_is)
    (case l31 => k_is)
    (case c31 => k_is)
    (case k31 => k_is)
    (case a32 => k_is)
    (case l32 => k_is)
    (case c32 => k_is)
    (case k32 => k_is)
    (case a34 => k_is)
    (case l34 => k_is)
    (case c34 => k_is)
    (case k34 => k_is)
    (case a35 => k_is)
    (case l35 => k_is)
    (case c35 => k_is)
    (case k35 => k_is)
    (case a40 => k_is)
    (case l40 => k_is)
    (case c40 => k_is)
    (case k40 => k_is)
    (case a41 => k_is)
    (case l41 => k_is)
    (case c41 => k_is)
    (case k41 => k_is)
    (case a42 => k_is)
    (case l42 => k_is)
    (case c42 => k_is)
    (case k42 => k_is)
    (case a43 => k_is)
    (case l43 => k_is)
    (case c43 => k_is)
    (case k43 => k_is)
    (case a44 => k_is)
    (case l44 => k_is)
    (case c44 => k_is)
    (case k44 => k_is)
    (case a45 => k_is)
    (case l45 => k_is)
    (case c45 => k_is)
    (case k45 => k_is)
    (case a46 => k_is)
    (case l46 => k_is)
    (case c46 => k_is)
    (case k46 => k_is)
    (case a48 => k_is)
    (case l48 => k_is)
    (case c48 => k_is)
    (case k48 => k_is)
    (case a50 => k_is)
    (case l50 => k_is)
    (case c50 => k_is)
    (case k50 => k_is)
    (case a52 => k_is)
    (case l52 => k_is)
    (case c52 => k_is)
    (case k52 => k_is)
    (case a53 => k_is)
    (case l53 => k_is)
    (case c53 => k_is)
    (case k53 => k_is)
    (case a54 => k_is)
    (case l54 => k_is)
    (case c54 => k_is)
    (case k54 => k_is)
    (case a55 => k_is)
    (case l55 => k_is)
    (case c55 => k_is)
    (case k55 => k_is)
    (case a56 => k_is)
    (case l56 => k_is)
    (case c56 => k_is)
    (case k56 => k_is)
    (case a57 => k_is)
    (case l57 => k_is)
    (case c57 => k_is)
    (case k57 => k_is)
    (case a58 => k_is)
    (case l58 => k_is)
    (case c58 => k_is)
    (case k58 => k_is)
    (case a59 => k_is)
    (case l59 => k_is)
    (case c59 => k_is)
    (case k59 => k_is)
    (case a60 => k_is)
    (case l60 => k_is)
    (case c60 => k_is)
    (case k60 => k_is)
    (case a61 => k_is)
    (case l61 => k_is)
    (case c61 => k_is)
    (case k61 => k_is)
    (case a62 => k_is)
    (case l62 => k_is)
    (case c62 => k_is)
    (case k62 => k_is)
    (case a63 => k_is)
    (case l63 => k_is)
    (case c63 => k_is)
    (case k63 => k_is)
    (case a64 => k_is)
    (case l64 => k_is)
    (case c64 => k_is)
    (case k64 => k_is)
    (case a65 => k_is)
    (case l65 => k_is)
    (case c65 => k_is)
    (case k65 => k_is)
    (case a66 => k_is)
    (case l66 => k_is)
    (case c66 => k_is)
    (case k66 => k_is)
    (case a67 => k_is)
    (case l67 => k_is)
    (case c67 => k_is)
    (case k67 => k_is)
    (case z_abs => k_is)
    (case z_all => k_is)
    (case z_bool => k_is)
    (case z_int => k_is)
    (case z_isinstance => k_is)
    (case z_len => k_is)
    (case z_list => k_is)
    (case z_range => k_is)
    (case z_set => k_is)
    (case z_sorted => k_is)
    (case z_tuple => k_is)
    (case xa_NotPossible => k_is)
    (case xq_NotPossible => k_exc)
    (case xk_NotPossible => k_is)
    (case xs_NotPossible => k_is)
    (case xi_NotPossible => k_is)
    (case xt_NotPossible => k_is)
    (case xr_NotPossible => k_is)
    (case co_QUARTERS => k_is)
    (case cl_QUARTERS => k_is)
    (case cr_QUARTERS => first | rfl | decide +kernel)
    (case ca_QUARTERS => exact ⟨⟨_, by k_is, by first | k_is | rfl | decide +kernel⟩, ⟨_, by k_is, by first | k_is | rfl | decide +kernel⟩, trivial⟩)
    (case co_SIXTHS => k_is)
    (case cl_SIXTHS => k_is)
    (case cr_SIXTHS => first | rfl | decide +kernel)
    (case ca_SIXTHS => exact ⟨⟨_, by k_is, by first | k_is | rfl | decide +kernel⟩, ⟨_, by k_is, by first | k_is | rfl | decide +kernel⟩, ⟨_, by k_is, by first | k_is | rfl | decide +kernel⟩, ⟨_, by k_is, by first | k_is | rfl | decide +kernel⟩, trivial⟩)
    (case co_STRAIGHT => k_is)
    (case cl_STRAIGHT => k_is)
    (case ct_STRAIGHT => first | k_is | rfl | decide +kernel)
    (case co_STRAIGHTS => k_is)
    (case cl_STRAIGHTS => k_is)
    (case cr_STRAIGHTS => first | rfl | decide +kernel)
    (case ca_STRAIGHTS => exact ⟨⟨_, by k_is, by first | k_is | rfl | decide +kernel⟩, ⟨_, by k_is, by first | k_is | rfl | decide +kernel⟩, trivial⟩)
    (case co_TURN => k_is)
    (case cl_TURN => k_is)
    (case ct_TURN => first | k_is | rfl | decide +kernel)

