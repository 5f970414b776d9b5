import PyProof.Rows.All
import Wide.All
import OpenK.AllK
import Wide.FinOn
import HandS.ForMost
import HandS.Exc
import HandS.TryOnly
import HandS.ExcOwn
import HandS.WordsExc
import HandS.Wide
import HandS.WideMore
import HandS.Flow
import HandS.SortInts
import HandS.TupAny
import HandS.Style
import HandS.Deep
import HandS.Comp
import HandS.Iter
import HandS.Walk
import HandS.Ends
import HandS.Set
import HandS.Strs
import HandS.SetFor
import HandS.SortOrd
import HandS.IsInst
import KE.GoesEnum
import KE.GoesMore
import HandS.SortRule
import KE.SortData
import KE.DataMinMax
import KE.DataCmp
import HandS.SetBool
import HandS.TupSets
import HandS.NoneIn
import PySem.Challenge.RW_rootsooth_k13_whole_ideals_as_sets_of_me
set_option Elab.async false
set_option linter.all false
set_option maxRecDepth 100000
set_option maxHeartbeats 4000000
namespace M
open PySem PySem.Spec PyProof.Rows L2

abbrev D := PyData
abbrev Ev := List (Option D)
abbrev Wd := List D
structure Ex where
  name : Str
  fld : Option Int := none
inductive Res (α : Type) where
  | bad
  | exc (e : Ex) (w : Wd)
  | ok (a : α) (w : Wd)
def Res.bind {α β : Type} : Res α → (α → Wd → Res β) → Res β
  | .bad, _ => .bad
  | .exc e w, _ => .exc e w
  | .ok a w, k => k a w
def ofO {α : Type} : Option α → Wd → Res α
  | some a, w => .ok a w
  | none, _ => .bad
@[simp] theorem bind_bad {α β : Type} (k : α → Wd → Res β) : (Res.bad : Res α).bind k = .bad := rfl
@[simp] theorem bind_exc {α β : Type} (e : Ex) (w : Wd) (k : α → Wd → Res β) : (Res.exc e w : Res α).bind k = .exc e w := rfl
@[simp] theorem bind_ok {α β : Type} (a : α) (w : Wd) (k : α → Wd → Res β) : (Res.ok a w : Res α).bind k = k a w := rfl
@[simp] theorem ofO_some {α : Type} (a : α) (w : Wd) : ofO (some a) w = .ok a w := rfl
@[simp] theorem ofO_none {α : Type} (w : Wd) : (ofO none w : Res α) = .bad := rfl
abbrev MM (α : Type) := Wd → Res α

/-! what a value is -/
mutual
inductive Rp (K : PySem.W.Frag) (H : Hp) : V → D → Prop
  | non : Rp K H .non .none
  | bl (b : Bool) : Rp K H (.bl b) (.bool b)
  | int (i : Int) : Rp K H (.int i) (.int i)
  | str (x : Str) : Rp K H (.str x) (.str x)
  | lst {a : Addr} {xs : List V} {ds : List D} : H a = some (.lst xs) → RpL K H xs ds → Rp K H (.ref a) (.list ds)
  | tup {a : Addr} {xs : List V} {ds : List D} : SqT K H a xs → RpL K H xs ds → Rp K H (.ref a) (.tuple ds)
inductive RpL (K : PySem.W.Frag) (H : Hp) : List V → List D → Prop
  | nil : RpL K H [] []
  | cons {v : V} {vs : List V} {d : D} {ds : List D} : Rp K H v d → RpL K H vs ds → RpL K H (v :: vs) (d :: ds)
end
theorem sameT {K : PySem.W.Frag} {H H' : Hp} {a : Addr} {xs : List V} (e : Same H H') (h : SqT K H a xs) : SqT K H' a xs := by
  rcases h with (h | ⟨o, h⟩) | h
  · exact .inl (.inl (e _ _ h))
  · exact .inl (.inr ⟨o, e _ _ h⟩)
  · exact .inr h
section
variable {K : PySem.W.Frag} {H H' : Hp}
mutual
theorem Rp.mono (s : Same H H') : ∀ (d : D) (v : V), Rp K H v d → Rp K H' v d
  | .none, _, h => by cases h; exact .non
  | .bool b, _, h => by cases h; exact .bl b
  | .int i, _, h => by cases h; exact .int i
  | .str x, _, h => by cases h; exact .str x
  | .list ds, _, h => by
    cases h with
    | lst h1 h2 => exact .lst (s _ _ h1) (RpL.mono s ds _ h2)
  | .tuple ds, _, h => by
    cases h with
    | tup h1 h2 => exact .tup (sameT s h1) (RpL.mono s ds _ h2)
  | .dict _, _, h => by cases h
theorem RpL.mono (s : Same H H') : ∀ (ds : List D) (vs : List V), RpL K H vs ds → RpL K H' vs ds
  | [], _, h => by cases h; exact .nil
  | d :: ds, _, h => by
    cases h with
    | cons h1 h2 => exact .cons (Rp.mono s d _ h1) (RpL.mono s ds _ h2)
end
mutual
theorem Rp.dp : ∀ (d : D) (v : V), Rp K H v d → Dp K H v d
  | .none, _, h => by cases h; exact .non
  | .bool b, _, h => by cases h; exact .bl b
  | .int i, _, h => by cases h; exact .int i
  | .str x, _, h => by cases h; exact .str x
  | .list ds, _, h => by
    cases h with
    | lst h1 h2 => exact .lst (SqL.of h1) (RpL.dp ds _ h2)
  | .tuple ds, _, h => by
    cases h with
    | tup h1 h2 => exact .tup h1 (RpL.dp ds _ h2)
  | .dict _, _, h => by cases h
theorem RpL.dp : ∀ (ds : List D) (vs : List V), RpL K H vs ds → DpAll K H vs ds
  | [], _, h => by cases h; exact .nil
  | d :: ds, _, h => by
    cases h with
    | cons h1 h2 => exact .cons (Rp.dp d _ h1) (RpL.dp ds _ h2)
end
theorem RpL.length : ∀ {ds : List D} {vs : List V}, RpL K H vs ds → vs.length = ds.length
  | [], _, h => by cases h; rfl
  | d :: ds, _, h => by
    cases h with
    | cons h1 h2 => simp [RpL.length h2]
theorem RpL.get : ∀ {ds : List D} {vs : List V} {i : Nat} {d : D}, RpL K H vs ds → ds[i]? = some d → ∃ v, vs[i]? = some v ∧ Rp K H v d
  | [], _, _, _, _, e => by simp at e
  | d :: ds, _, 0, _, h, e => by
    cases h with
    | cons h1 h2 => simp at e; subst e; exact ⟨_, rfl, h1⟩
  | d :: ds, _, i + 1, _, h, e => by
    cases h with
    | cons h1 h2 =>
      obtain ⟨v, h3, h4⟩ := RpL.get h2 (by simpa using e)
      exact ⟨v, by simpa using h3, h4⟩
theorem RpL.get' : ∀ {ds : List D} {vs : List V} {i : Nat} {v : V}, RpL K H vs ds → vs[i]? = some v → ∃ d, ds[i]? = some d ∧ Rp K H v d
  | [], _, _, _, h, e => by cases h; simp at e
  | d :: ds, _, 0, _, h, e => by
    cases h with
    | cons h1 h2 => simp at e; subst e; exact ⟨_, rfl, h1⟩
  | d :: ds, _, i + 1, _, h, e => by
    cases h with
    | cons h1 h2 =>
      obtain ⟨v, h3, h4⟩ := RpL.get' h2 (by simpa using e)
      exact ⟨v, by simpa using h3, h4⟩
theorem RpL.append : ∀ {ds es : List D} {vs us : List V}, RpL K H vs ds → RpL K H us es → RpL K H (vs ++ us) (ds ++ es)
  | [], _, _, _, h, g => by cases h; exact g
  | d :: ds, _, _, _, h, g => by
    cases h with
    | cons h1 h2 => exact .cons h1 (h2.append g)
theorem RpL.set {d : D} {v : V} (r : Rp K H v d) : ∀ {ds : List D} {vs : List V} (i : Nat), RpL K H vs ds → RpL K H (vs.set i v) (ds.set i d)
  | [], _, _, h => by cases h; exact .nil
  | _ :: _, _, 0, h => by
    cases h with
    | cons h1 h2 => exact .cons r h2
  | _ :: _, _, i + 1, h => by
    cases h with
    | cons h1 h2 => exact .cons h1 (h2.set r i)
theorem RpL.take : ∀ {ds : List D} {vs : List V} (n : Nat), RpL K H vs ds → RpL K H (vs.take n) (ds.take n)
  | _, _, 0, _ => by simp; exact .nil
  | [], _, _ + 1, h => by cases h; exact .nil
  | _ :: _, _, n + 1, h => by
    cases h with
    | cons h1 h2 => exact .cons h1 (h2.take n)
theorem RpL.drop : ∀ {ds : List D} {vs : List V} (n : Nat), RpL K H vs ds → RpL K H (vs.drop n) (ds.drop n)
  | _, _, 0, h => by simpa using h
  | [], _, _ + 1, h => by cases h; exact .nil
  | _ :: _, _, n + 1, h => by
    cases h with
    | cons h1 h2 => exact h2.drop n
theorem RpL.reverse : ∀ {ds : List D} {vs : List V}, RpL K H vs ds → RpL K H vs.reverse ds.reverse
  | [], _, h => by cases h; exact .nil
  | _ :: _, _, h => by
    cases h with
    | cons h1 h2 => simp only [List.reverse_cons]; exact h2.reverse.append (.cons h1 .nil)
theorem RpL.dropLast {ds : List D} {vs : List V} (h : RpL K H vs ds) : RpL K H vs.dropLast ds.dropLast := by
  rw [List.dropLast_eq_take, List.dropLast_eq_take, h.length]; exact h.take _
/-- lists of ints -/
theorem RpL.ints : ∀ {ns : List Int} {vs : List V}, RpL K H vs (ns.map PyData.int) → vs = ns.map V.int
  | [], _, h => by cases h; rfl
  | n :: ns, _, h => by
    cases h with
    | cons h1 h2 => cases h1; simp [RpL.ints h2]
theorem RpL.of_ints : ∀ (ns : List Int), RpL K H (ns.map V.int) (ns.map PyData.int)
  | [] => .nil
  | n :: ns => .cons (.int n) (RpL.of_ints ns)
theorem RpL.bools : ∀ {ns : List Bool} {vs : List V}, RpL K H vs (ns.map PyData.bool) → vs = ns.map V.bl
  | [], _, h => by cases h; rfl
  | n :: ns, _, h => by
    cases h with
    | cons h1 h2 => cases h1; simp [RpL.bools h2]
end
def intsOf : List D → Option (List Int)
  | [] => some []
  | .int i :: r => (intsOf r).map (i :: ·)
  | _ :: _ => none
def boolsOf : List D → Option (List Bool)
  | [] => some []
  | .bool i :: r => (boolsOf r).map (i :: ·)
  | _ :: _ => none
theorem intsOf_eq : ∀ {ds : List D} {ns : List Int}, intsOf ds = some ns → ds = ns.map PyData.int
  | [], _, h => by simp [intsOf] at h; subst h; rfl
  | .int i :: r, ns, h => by
    simp only [intsOf, Option.map_eq_some_iff] at h
    obtain ⟨a, h1, rfl⟩ := h
    simp [intsOf_eq h1]
  | .none :: _, _, h => by simp [intsOf] at h
  | .bool _ :: _, _, h => by simp [intsOf] at h
  | .str _ :: _, _, h => by simp [intsOf] at h
  | .list _ :: _, _, h => by simp [intsOf] at h
  | .tuple _ :: _, _, h => by simp [intsOf] at h
  | .dict _ :: _, _, h => by simp [intsOf] at h
theorem boolsOf_eq : ∀ {ds : List D} {ns : List Bool}, boolsOf ds = some ns → ds = ns.map PyData.bool
  | [], _, h => by simp [boolsOf] at h; subst h; rfl
  | .bool i :: r, ns, h => by
    simp only [boolsOf, Option.map_eq_some_iff] at h
    obtain ⟨a, h1, rfl⟩ := h
    simp [boolsOf_eq h1]
  | .none :: _, _, h => by simp [boolsOf] at h
  | .int _ :: _, _, h => by simp [boolsOf] at h
  | .str _ :: _, _, h => by simp [boolsOf] at h
  | .list _ :: _, _, h => by simp [boolsOf] at h
  | .tuple _ :: _, _, h => by simp [boolsOf] at h
  | .dict _ :: _, _, h => by simp [boolsOf] at h
@[simp] theorem intsOf_map : ∀ (ns : List Int), intsOf (ns.map PyData.int) = some ns
  | [] => rfl
  | n :: ns => by simp [intsOf, intsOf_map ns]
@[simp] theorem boolsOf_map : ∀ (ns : List Bool), boolsOf (ns.map PyData.bool) = some ns
  | [] => rfl
  | n :: ns => by simp [boolsOf, boolsOf_map ns]

/-! heaps: the frozen part F under H -/
structure Xt (b : Option Addr) (F H F' H' : Hp) : Prop where
  ff : Same F F'
  fh : Same F' H'
  keep : ∀ a o, H a = some o → b ≠ some a → H' a = some o
  dom : ∀ a, H a ≠ none → H' a ≠ none
  new : ∀ a, H a ≠ none → F' a = F a
theorem Xt.refl {b : Option Addr} {F H : Hp} (h : Same F H) : Xt b F H F H := ⟨Same.refl _, h, fun _ _ h _ => h, fun _ h => h, fun _ _ => rfl⟩
theorem Xt.trans {b : Option Addr} {F H F1 H1 F2 H2 : Hp} (x : Xt b F H F1 H1) (y : Xt b F1 H1 F2 H2) : Xt b F H F2 H2 :=
  ⟨x.ff.trans y.ff, y.fh, fun a o h n => y.keep a o (x.keep a o h n) n, fun a h => y.dom a (x.dom a h), fun a h => (y.new a (x.dom a h)).trans (x.new a h)⟩
theorem Xt.any {b : Option Addr} {F H F' H' : Hp} (x : Xt none F H F' H') : Xt b F H F' H' := ⟨x.ff, x.fh, fun a o h _ => x.keep a o h (by simp), x.dom, x.new⟩
theorem Same.none {F H : Hp} (h : Same F H) {p : Addr} (e : H p = none) : F p = none := Same.free h e
theorem same_upd {H : Hp} {p : Addr} {o : HO} (h : H p = none) : Same H (upd H p o) := fun b x e => by
  rw [upd_ne (ne_of_none e h)]; exact e
/-- a new object, frozen -/
theorem Xt.alloc {b : Option Addr} {F H : Hp} {p : Addr} {o : HO} (h : Same F H) (e : H p = none) : Xt b F H (upd F p o) (upd H p o) := by
  refine ⟨same_upd (Same.none h e), fun a u q => ?_, fun a u q _ => ?_, fun a q => ?_, fun a q => ?_⟩
  · by_cases ha : a = p
    · subst ha; rw [upd_same] at q ⊢; exact q
    · rw [upd_ne ha] at q ⊢; exact h _ _ q
  · rw [upd_ne (ne_of_none q e)]; exact q
  · have ha : a ≠ p := fun z => q (z ▸ e)
    rw [upd_ne ha]; exact q
  · have ha : a ≠ p := fun z => q (z ▸ e)
    rw [upd_ne ha]
/-- a new object, not frozen -/
theorem Xt.alloc0 {b : Option Addr} {F H : Hp} {p : Addr} {o : HO} (h : Same F H) (e : H p = none) : Xt b F H F (upd H p o) := by
  refine ⟨Same.refl _, h.trans (same_upd e), fun a u q _ => ?_, fun a q => ?_, fun a q => rfl⟩
  · rw [upd_ne (ne_of_none q e)]; exact q
  · have ha : a ≠ p := fun z => q (z ▸ e)
    rw [upd_ne ha]; exact q

structure CM where
  K : PySem.W.Frag
  mg : Str → Option Value
  H0 : Hp
  F0 : Hp
  b : Option Addr
def BorOk (c : CM) (F : Hp) (ω : Wd) (H : Hp) : Prop := ∀ b, c.b = some b → c.H0 b ≠ none ∧ F b = none ∧ ∃ us, H b = some (.lst us) ∧ RpL c.K F us ω
theorem BorOk.ext {c : CM} {F H F' H' : Hp} {ω : Wd} (h : BorOk c F ω H) (x : Xt none F H F' H') : BorOk c F' ω H' := fun b e => by
  obtain ⟨h0, h1, us, h2, h3⟩ := h b e
  exact ⟨h0, by rw [x.new b (by rw [h2]; simp)]; exact h1, us, x.keep b _ h2 (by simp), h3.mono x.ff⟩
structure Frm (c : CM) (F : Hp) (ω : Wd) (H : Hp) : Prop where
  xt : Xt c.b c.F0 c.H0 F H
  bo : BorOk c F ω H
structure Md where
  O : List Nat := []
  B : Option Nat := none
structure SR (c : CM) (m : Md) (F : Hp) (ρ : Ev) (ω : Wd) (σ : L2.St) (H : Hp) : Prop where
  fr : Frm c F ω H
  len : ρ.length = σ.length
  dat : ∀ i d, ρ[i]? = some (some d) → i ∉ m.O → ∃ v, σ[i]? = some (some v) ∧ Rp c.K F v d
  own : ∀ i d, ρ[i]? = some (some d) → i ∈ m.O → ∃ l us ds, σ[i]? = some (some (.ref l)) ∧ d = .list ds ∧ c.H0 l = none ∧ F l = none ∧ H l = some (.lst us) ∧ RpL c.K F us ds
  sep : ∀ i j l di dj, i ∈ m.O → j ∈ m.O → ρ[i]? = some (some di) → ρ[j]? = some (some dj) → σ[i]? = some (some (.ref l)) → σ[j]? = some (some (.ref l)) → i = j
  bsl : ∀ i, m.B = some i → ρ[i]? = some none ∧ ∃ b, c.b = some b ∧ σ[i]? = some (some (.ref b))
theorem SR.fh {c : CM} {m : Md} {F : Hp} {ρ : Ev} {ω : Wd} {σ : L2.St} {H : Hp} (S : SR c m F ρ ω σ H) : Same F H := S.fr.xt.fh
theorem SR.bo {c : CM} {m : Md} {F : Hp} {ρ : Ev} {ω : Wd} {σ : L2.St} {H : Hp} (S : SR c m F ρ ω σ H) : BorOk c F ω H := S.fr.bo
theorem SR.step {c : CM} {m : Md} {F F' : Hp} {ρ : Ev} {ω ω' : Wd} {σ : L2.St} {H H' : Hp} (S : SR c m F ρ ω σ H) (x : Xt c.b F H F' H') (bo : BorOk c F' ω' H') : SR c m F' ρ ω' σ H' where
  fr := ⟨S.fr.xt.trans x, bo⟩
  len := S.len
  dat := fun i d e n => by
    obtain ⟨v, h1, h2⟩ := S.dat i d e n
    exact ⟨v, h1, h2.mono x.ff⟩
  own := fun i d e n => by
    obtain ⟨l, us, ds, h1, h2, h3, h4, h5, h6⟩ := S.own i d e n
    refine ⟨l, us, ds, h1, h2, h3, by rw [x.new l (by rw [h5]; simp)]; exact h4, x.keep l _ h5 (fun z => ?_), h6.mono x.ff⟩
    exact (S.bo l z).1 h3
  sep := S.sep
  bsl := S.bsl

def RepX (c : CM) (e : Ex) (cls : Value) (dd : Option Addr) (H : Hp) : Prop :=
  ∃ C, c.mg e.name = some (.ref C) ∧ cls = .ref C ∧ match e.fld with
    | none => dd = none
    | some n => ∃ a, dd = some a ∧ H a = some (.xd [("place", .int n)])

def Post {α : Type} (c : CM) (W : WX) (F H : Hp) (σ : L2.St) (R : α → Hp → Hp → Wd → Prop) : Res α → Prop
  | .bad => False
  | .ok a ω => ∀ F' H', Xt c.b F H F' H' → BorOk c F' ω H' → R a F' H' ω
  | .exc e ω => ∀ F' H' cls dd, Xt c.b F H F' H' → BorOk c F' ω H' → RepX c e cls dd H' → W cls dd σ H'
structure PGd {β : Type} (c : CM) (W : WX) (σ : L2.St) (G : Hp → Hp → Res β → Prop) : Prop where
  bad : ∀ F H, ¬ G F H .bad
  exc : ∀ F H e ω, G F H (.exc e ω) → ∀ F' H' cls dd, Xt c.b F H F' H' → BorOk c F' ω H' → RepX c e cls dd H' → W cls dd σ H'
  mono : ∀ F H F1 H1 r, Xt c.b F H F1 H1 → G F H r → G F1 H1 r
theorem Post.pg {α : Type} {c : CM} {W : WX} {σ : L2.St} {R : α → Hp → Hp → Wd → Prop} : PGd c W σ (fun F H r => Post c W F H σ R r) where
  bad := fun _ _ h => h
  exc := fun _ _ _ _ h => h
  mono := fun F H F1 H1 r x h => by
    cases r with
    | bad => exact h
    | ok a ω => exact fun F' H' y bo => h F' H' (x.trans y) bo
    | exc e ω => exact fun F' H' cls dd y bo r => h F' H' cls dd (x.trans y) bo r
theorem bindT {α β : Type} {c : CM} {W : WX} {m : Md} {F H : Hp} {ρ : Ev} {ω : Wd} {σ : L2.St} {G : Hp → Hp → Res β → Prop} (S : SR c m F ρ ω σ H) (pg : PGd c W σ G) {r1 : Res α} {k : α → Wd → Res β} (h : G F H (r1.bind k))
    {R : α → Hp → Hp → Wd → Prop} (cont : ∀ a F1 H1 ω1, Xt c.b F H F1 H1 → SR c m F1 ρ ω1 σ H1 → G F1 H1 (k a ω1) → R a F1 H1 ω1) : Post c W F H σ R r1 := by
  cases r1 with
  | bad => exact pg.bad _ _ h
  | exc e w => exact pg.exc _ _ _ _ h
  | ok a w => exact fun F' H' x bo => cont a F' H' w x (S.step x bo) (pg.mono _ _ _ _ _ x h)

def TD (c : CM) (W : WX) (m : Md) (d : Ev → MM D) : TE := fun σ H Q => ∃ F ρ ω, SR c m F ρ ω σ H ∧ Post c W F H σ (fun v F' H' _ => ∀ x, Rp c.K F' x v → Q x H') (d ρ ω)
def TDb (c : CM) (W : WX) (m : Md) (d : Ev → MM Bool) : TT := fun σ H Q => ∃ F ρ ω, SR c m F ρ ω σ H ∧ Post c W F H σ (fun b _ H' _ => Q b H') (d ρ ω)
def TDa (c : CM) (W : WX) (m : Md) (d : Ev → MM (List D)) : TA := fun σ H Q => ∃ F ρ ω, SR c m F ρ ω σ H ∧ Post c W F H σ (fun vs F' H' _ => ∀ xs, RpL c.K F' xs vs → Q xs H') (d ρ ω)
section
variable {X : Cx} {e : Expr} {es : List Expr} {st : Stmt} {sts : List Stmt}
theorem PEimp {t t' : TE} (h : PE X e t) (i : ∀ σ H Q, t' σ H Q → t σ H Q) : PE X e t' := ⟨fun p s σ H Q I q => h.run p s σ H Q I (i _ _ _ q)⟩
theorem PTimp {t t' : TT} (h : PT X e t) (i : ∀ σ H Q, t' σ H Q → t σ H Q) : PT X e t' := ⟨fun p s σ H Q I q => h.run p s σ H Q I (i _ _ _ q)⟩
theorem PWimp {t t' : TT} (h : PW X e t) (i : ∀ σ H Q, t' σ H Q → t σ H Q) : PW X e t' := ⟨fun w p s σ H Q I q => h.run w p s σ H Q I (i _ _ _ q)⟩
theorem PAimp {t t' : TA} (h : PA X es t) (i : ∀ σ H Q, t' σ H Q → t σ H Q) : PA X es t' := ⟨fun p pp s σ H Q I q => h.run p pp s σ H Q I (i _ _ _ q)⟩
theorem PSimp {t t' : TS} (h : PS X st t) (i : ∀ D σ H, t' D σ H → t D σ H) : PS X st t' := ⟨fun p s σ H D I q => h.run p s σ H D I (i _ _ _ q)⟩
theorem PSsimp {t t' : TS} (h : PSs X sts t) (i : ∀ D σ H, t' D σ H → t D σ H) : PSs X sts t' := ⟨fun p s σ H D I q => h.run p s σ H D I (i _ _ _ q)⟩
end
end M

set_option Elab.async false
set_option linter.all false
set_option maxRecDepth 100000
set_option maxHeartbeats 4000000
namespace M
open PySem PySem.Spec PyProof.Rows L2

/-! ### denotations of expressions -/
def look : Ev → Nat → Option D
  | [], _ => none
  | o :: _, 0 => o
  | _ :: r, n + 1 => look r n
theorem look_iff : ∀ {ρ : Ev} {i : Nat} {d : D}, look ρ i = some d → ρ[i]? = some (some d)
  | [], _, _, h => by simp [look] at h
  | o :: _, 0, _, h => by simp [look] at h; simp [h]
  | _ :: r, n + 1, _, h => by simp [look] at h; simpa using look_iff h
def eVar (i : Nat) : Ev → MM D := fun ρ ω => ofO (look ρ i) ω
def eC (d : D) : Ev → MM D := fun _ ω => .ok d ω
def eUn (f : D → Option D) (d1 : Ev → MM D) : Ev → MM D := fun ρ ω => (d1 ρ ω).bind fun a w => ofO (f a) w
def eBin (f : D → D → Option D) (d1 d2 : Ev → MM D) : Ev → MM D := fun ρ ω => (d1 ρ ω).bind fun a w => (d2 ρ w).bind fun b w => ofO (f a b) w
def bBin (f : D → D → Option Bool) (d1 d2 : Ev → MM D) : Ev → MM Bool := fun ρ ω => (d1 ρ ω).bind fun a w => (d2 ρ w).bind fun b w => ofO (f a b) w
def bChain (f g : D → D → Option Bool) (d1 d2 d3 : Ev → MM D) : Ev → MM Bool := fun ρ ω => (d1 ρ ω).bind fun a w => (d2 ρ w).bind fun b w => (ofO (f a b) w).bind fun t w => match t with
  | true => (d3 ρ w).bind fun c w => ofO (g b c) w
  | false => .ok false w
def eOfB (d : Ev → MM Bool) : Ev → MM D := fun ρ ω => (d ρ ω).bind fun b w => .ok (.bool b) w
def asB : D → Option Bool
  | .bool b => some b
  | _ => none
def bOfE (d : Ev → MM D) : Ev → MM Bool := fun ρ ω => (d ρ ω).bind fun a w => ofO (asB a) w
def truth : D → Option Bool
  | .none => some false
  | .bool b => some b
  | .int i => some (i != 0)
  | .list xs => some (!xs.isEmpty)
  | .tuple xs => some (!xs.isEmpty)
  | _ => none
def bTru (d : Ev → MM D) : Ev → MM Bool := fun ρ ω => (d ρ ω).bind fun a w => ofO (truth a) w
def bNot (d : Ev → MM Bool) : Ev → MM Bool := fun ρ ω => (d ρ ω).bind fun b w => .ok (!b) w
def bAnd (d1 d2 : Ev → MM Bool) : Ev → MM Bool := fun ρ ω => (d1 ρ ω).bind fun b w => match b with
  | true => d2 ρ w
  | false => .ok false w
def bOr (d1 d2 : Ev → MM Bool) : Ev → MM Bool := fun ρ ω => (d1 ρ ω).bind fun b w => match b with
  | true => .ok true w
  | false => d2 ρ w
def eIf (t : Ev → MM Bool) (d1 d2 : Ev → MM D) : Ev → MM D := fun ρ ω => (t ρ ω).bind fun b w => match b with
  | true => d1 ρ w
  | false => d2 ρ w
def aNil : Ev → MM (List D) := fun _ ω => .ok [] ω
def aCons (d : Ev → MM D) (ds : Ev → MM (List D)) : Ev → MM (List D) := fun ρ ω => (d ρ ω).bind fun a w => (ds ρ w).bind fun r w => .ok (a :: r) w
def eTup (ds : Ev → MM (List D)) : Ev → MM D := fun ρ ω => (ds ρ ω).bind fun r w => .ok (.tuple r) w
def eLst (ds : Ev → MM (List D)) : Ev → MM D := fun ρ ω => (ds ρ ω).bind fun r w => .ok (.list r) w
def eArgs (f : List D → Option D) (ds : Ev → MM (List D)) : Ev → MM D := fun ρ ω => (ds ρ ω).bind fun r w => ofO (f r) w
def Res.at {α : Type} : Res α → Wd → Res α
  | .bad, _ => .bad
  | .exc e _, w => .exc e w
  | .ok a _, w => .ok a w
@[simp] theorem at_ok {α : Type} (a : α) (w v : Wd) : (Res.ok a w).at v = .ok a v := rfl
@[simp] theorem at_exc {α : Type} (e : Ex) (w v : Wd) : (Res.exc e w : Res α).at v = .exc e v := rfl
@[simp] theorem at_bad {α : Type} (v : Wd) : (Res.bad : Res α).at v = .bad := rfl
def eCall (f : List D → Res D) (ds : Ev → MM (List D)) : Ev → MM D := fun ρ ω => (ds ρ ω).bind fun r w => (f r).at w
/-- a call whose first argument is the borrowed list -/
def eCallS (f : List D → MM D) (ds : Ev → MM (List D)) : Ev → MM D := fun ρ ω => (ds ρ ω).bind fun r w => f r w

def AL (n : Nat) (ds : Ev → MM (List D)) : Prop := ∀ ρ ω r w, ds ρ ω = .ok r w → r.length = n
theorem AL.nil : AL 0 aNil := fun ρ ω r w h => by simp [aNil] at h; simp [← h.1]
theorem AL.cons {n : Nat} {d : Ev → MM D} {ds : Ev → MM (List D)} (h : AL n ds) : AL (n + 1) (aCons d ds) := fun ρ ω r w e => by
  unfold aCons at e
  cases e1 : d ρ ω with
  | bad => rw [e1] at e; cases e
  | exc x y => rw [e1] at e; cases e
  | ok a w1 =>
    rw [e1, bind_ok] at e
    cases e2 : ds ρ w1 with
    | bad => rw [e2] at e; cases e
    | exc x y => rw [e2] at e; cases e
    | ok b w2 =>
      rw [e2, bind_ok] at e
      cases e
      simp [h _ _ _ _ e2]

/-! ### the judgements -/
abbrev E (c : CM) (W : WX) (m : Md) (X : Cx) (e : Expr) (d : Ev → MM D) : Prop := PE X e (TD c W m d)
abbrev B (c : CM) (W : WX) (m : Md) (X : Cx) (e : Expr) (d : Ev → MM Bool) : Prop := PT X e (TDb c W m d)
abbrev BW (c : CM) (W : WX) (m : Md) (X : Cx) (e : Expr) (d : Ev → MM Bool) : Prop := PW X e (TDb c W m d)
structure A (c : CM) (W : WX) (m : Md) (X : Cx) (es : List Expr) (d : Ev → MM (List D)) : Prop where
  pa : PA X es (TDa c W m d)
  len : AL es.length d
/-- values out of values; what is new is frozen -/
def VOp (K : PySem.W.Frag) (r : R2) (f : D → D → Option D) : Prop := ∀ F H x y a b v Q, Same F H → Rp K F x a → Rp K F y b → f a b = some v → (∀ F' H' z, Xt none F H F' H' → Rp K F' z v → Q z H') → r x y H Q
def VOpB (K : PySem.W.Frag) (r : R2) (f : D → D → Option Bool) : Prop := ∀ F H x y a b v Q, Same F H → Rp K F x a → Rp K F y b → f a b = some v → Q (.bl v) H → r x y H Q
def VUn (K : PySem.W.Frag) (r : V → Hp → VK → Prop) (f : D → Option D) : Prop := ∀ F H x a v Q, Same F H → Rp K F x a → f a = some v → (∀ F' H' z, Xt none F H F' H' → Rp K F' z v → Q z H') → r x H Q
def VAr (K : PySem.W.Frag) (r : List V → Hp → VK → Prop) (f : List D → Option D) : Prop := ∀ F H xs as v Q, Same F H → RpL K F xs as → f as = some v → (∀ F' H' z, Xt none F H F' H' → Rp K F' z v → Q z H') → r xs H Q

section
variable {c : CM} {W : WX} {m : Md} {X : Cx} {e a b : Expr} {es : List Expr} {pos : Pos}
/-- the end of a pure step -/
theorem post_ofO {α : Type} {F H : Hp} {σ : L2.St} {ω : Wd} {R : α → Hp → Hp → Wd → Prop} {o : Option α} (S : Same F H) (bo : BorOk c F ω H) (h : Post c W F H σ R (ofO o ω)) : ∃ v, o = some v ∧ ∀ F' H', Xt none F H F' H' → R v F' H' ω := by
  cases o with
  | none => exact h.elim
  | some v => exact ⟨v, rfl, fun F' H' x => h F' H' x.any (bo.ext x)⟩
theorem e_var {i : Nat} {x : Str} (hi : i ∉ m.O) (h : PE X (.Name x pos) (tVar i)) : E c W m X (.Name x pos) (eVar i) := PEimp h fun σ H Q ⟨F, ρ, ω, S, q⟩ => by
  obtain ⟨d, e1, q⟩ := post_ofO S.fh S.bo q
  obtain ⟨v, h1, h2⟩ := S.dat i d (look_iff e1) hi
  exact ⟨v, h1, q F H (Xt.refl S.fh) v h2⟩
theorem e_c {v : V} {d : D} (h : PE X e (tC v)) (r : ∀ F, Rp c.K F v d) : E c W m X e (eC d) := PEimp h fun σ H Q ⟨F, ρ, ω, S, q⟩ => q F H (Xt.refl S.fh) S.bo v (r F)
theorem e_int {i j} : E c W m X (.Constant (.int i) j pos) (eC (.int i)) := e_c pe_int fun _ => .int i
theorem e_bl {i j} : E c W m X (.Constant (.bool i) j pos) (eC (.bool i)) := e_c pe_bl fun _ => .bl i
theorem e_str {i j} : E c W m X (.Constant (.str i) j pos) (eC (.str i)) := e_c pe_str fun _ => .str i
theorem e_non {j} : E c W m X (.Constant .none j pos) (eC .none) := e_c pe_non fun _ => .non

theorem bin_step {F H : Hp} {ρ : Ev} {ω : Wd} {σ : L2.St} {β : Type} {G : Hp → Hp → Res β → Prop} {d1 d2 : Ev → MM D} {k : D → D → Wd → Res β} {R : V → V → Hp → Prop} (S : SR c m F ρ ω σ H) (pg : PGd c W σ G)
    (q : G F H ((d1 ρ ω).bind fun a w => (d2 ρ w).bind fun b w => k a b w))
    (cont : ∀ F2 H2 x y a b w, Xt c.b F H F2 H2 → SR c m F2 ρ w σ H2 → Rp c.K F2 x a → Rp c.K F2 y b → G F2 H2 (k a b w) → R x y H2) :
    TD c W m d1 σ H fun x H1 => TD c W m d2 σ H1 fun y H2 => R x y H2 := by
  refine ⟨F, ρ, ω, S, bindT S pg q fun a F1 H1 w1 x1 S1 q1 x r1 => ?_⟩
  refine ⟨F1, ρ, w1, S1, bindT S1 pg q1 fun b F2 H2 w2 x2 S2 q2 y r2 => ?_⟩
  exact cont F2 H2 x y a b w2 (x1.trans x2) S2 (r1.mono x2.ff) r2 q2
theorem e_bin {op : Operator} {r : R2} {f : D → D → Option D} {d1 d2 : Ev → MM D} (ho : OpR X (binaryOp op) r) (v : VOp c.K r f) (h1 : E c W m X a d1) (h2 : E c W m X b d2) : E c W m X (.BinOp a op b pos) (eBin f d1 d2) :=
  PEimp (pe_op ho h1 h2) fun σ H Q ⟨F, ρ, ω, S, q⟩ => bin_step S Post.pg q fun F2 H2 x y a b w _ S2 r1 r2 q2 => by
    obtain ⟨z, e1, q3⟩ := post_ofO S2.fh S2.bo q2
    exact v F2 H2 x y a b z Q S2.fh r1 r2 e1 fun F' H' z' xt rz => q3 F' H' xt z' rz
theorem e_un {op : UnaryOp} {r : V → Hp → VK → Prop} {f : D → Option D} {d1 : Ev → MM D} (ho : UnR X (unaryOp op) r) (v : VUn c.K r f) (h1 : E c W m X a d1) : E c W m X (.UnaryOp op a pos) (eUn f d1) :=
  PEimp (pe_un ho h1) fun σ H Q ⟨F, ρ, ω, S, q⟩ => ⟨F, ρ, ω, S, bindT S Post.pg q fun a F1 H1 w1 x1 S1 q1 x r1 => by
    obtain ⟨z, e1, q3⟩ := post_ofO S1.fh S1.bo q1
    exact v F1 H1 x a z Q S1.fh r1 e1 fun F' H' z' xt rz => q3 F' H' xt z' rz⟩
theorem e_ix {r : R2} {f : D → D → Option D} {d1 d2 : Ev → MM D} (ho : IxR X r) (v : VOp c.K r f) (h1 : E c W m X a d1) (h2 : E c W m X b d2) (hs : PlainIx b) : E c W m X (.Subscript a b pos) (eBin f d1 d2) :=
  PEimp (pe_ix ho h1 h2 hs) fun σ H Q ⟨F, ρ, ω, S, q⟩ => bin_step S Post.pg q fun F2 H2 x y a b w _ S2 r1 r2 q2 => by
    obtain ⟨z, e1, q3⟩ := post_ofO S2.fh S2.bo q2
    exact v F2 H2 x y a b z Q S2.fh r1 r2 e1 fun F' H' z' xt rz => q3 F' H' xt z' rz
theorem e_cmp {op : CmpOp} {r : R2} {f : D → D → Option Bool} {d1 d2 : Ev → MM D} (ho : OpR X (compareOp op) r) (v : VOpB c.K r f) (h1 : E c W m X a d1) (h2 : E c W m X b d2) (hm : behindInMarks op b = false) : E c W m X (.Compare a [op] [b] pos) (eOfB (bBin f d1 d2)) :=
  PEimp (pe_cmpR ho h1 h2 hm) fun σ H Q ⟨F, ρ, ω, S, q⟩ => by
    have q' : Post c W F H σ (fun v F' H' _ => ∀ x, Rp c.K F' x v → Q x H') ((d1 ρ ω).bind fun a w => (d2 ρ w).bind fun b w => (ofO (f a b) w).bind fun t w => .ok (.bool t) w) := by
      unfold eOfB bBin at q
      cases h : d1 ρ ω with
      | ok a w =>
        rw [h] at q
        cases h' : d2 ρ w with
        | ok b w' => simpa [h'] using q
        | _ => simpa [h'] using q
      | _ => rw [h] at q; exact q
    exact bin_step S Post.pg q' fun F2 H2 x y a b w _ S2 r1 r2 q2 => by
      cases e1 : f a b with
      | none => rw [e1] at q2; exact q2.elim
      | some t =>
        rw [e1] at q2
        exact v F2 H2 x y a b t Q S2.fh r1 r2 e1 (q2 F2 H2 (Xt.refl S2.fh) S2.bo _ (.bl t))
theorem b_cmp {op : CmpOp} {r : R2} {f : D → D → Option Bool} {d1 d2 : Ev → MM D} (ho : OpR X (compareOp op) r) (v : VOpB c.K r f) (h1 : E c W m X a d1) (h2 : E c W m X b d2) (hm : behindInMarks op b = false) : B c W m X (.Compare a [op] [b] pos) (bBin f d1 d2) :=
  PTimp (pt_cmpR ho h1 h2 hm) fun σ H Q ⟨F, ρ, ω, S, q⟩ => bin_step S Post.pg q fun F2 H2 x y a b w _ S2 r1 r2 q2 => by
    obtain ⟨z, e1, q3⟩ := post_ofO S2.fh S2.bo q2
    exact v F2 H2 x y a b z _ S2.fh r1 r2 e1 ⟨z, rfl, q3 F2 H2 (Xt.refl S2.fh)⟩
theorem b_chain {op op' : CmpOp} {r r' : R2} {f g : D → D → Option Bool} {d1 d2 d3 : Ev → MM D} {cc : Expr} (ho : OpR X (compareOp op) r) (ho' : OpR X (compareOp op') r') (v : VOpB c.K r f) (v' : VOpB c.K r' g) (h1 : E c W m X a d1) (h2 : E c W m X b d2) (h3 : E c W m X cc d3)
    (hm : lastMarks [op, op'] [b, cc] = false := by with_unfolding_all rfl) : B c W m X (.Compare a [op, op'] [b, cc] pos) (bChain f g d1 d2 d3) :=
  PTimp (pt_chain ho ho' h1 h2 h3 hm) fun σ H Q ⟨F, ρ, ω, S, q⟩ => bin_step S Post.pg q fun F2 H2 x y a b w _ S2 r1 r2 q2 => by
    cases e1 : f a b with
    | none => rw [e1] at q2; exact q2.elim
    | some t =>
      rw [e1, ofO_some, bind_ok] at q2
      refine v F2 H2 x y a b t _ S2.fh r1 r2 e1 ⟨t, rfl, ?_⟩
      cases t with
      | false => exact ⟨false, rfl, q2 F2 H2 (Xt.refl S2.fh) S2.bo⟩
      | true =>
        refine iteT ⟨F2, ρ, w, S2, bindT S2 Post.pg q2 fun z F3 H3 w3 x3 S3 q3 zv r3 => ?_⟩
        obtain ⟨t', e2, q4⟩ := post_ofO S3.fh S3.bo q3
        exact v' F3 H3 y zv b z t' _ S3.fh (r2.mono x3.ff) r3 e2 ⟨t', rfl, q4 F3 H3 (Xt.refl S3.fh)⟩
theorem e_chain {op op' : CmpOp} {r r' : R2} {f g : D → D → Option Bool} {d1 d2 d3 : Ev → MM D} {cc : Expr} (ho : OpR X (compareOp op) r) (ho' : OpR X (compareOp op') r') (v : VOpB c.K r f) (v' : VOpB c.K r' g) (h1 : E c W m X a d1) (h2 : E c W m X b d2) (h3 : E c W m X cc d3)
    (hm : lastMarks [op, op'] [b, cc] = false := by with_unfolding_all rfl) : E c W m X (.Compare a [op, op'] [b, cc] pos) (eOfB (bChain f g d1 d2 d3)) :=
  PEimp (pe_chain ho ho' h1 h2 h3 hm) fun σ H Q ⟨F, ρ, ω, S, q⟩ => by
    have q' : Post c W F H σ (fun v F' H' _ => ∀ x, Rp c.K F' x v → Q x H') ((d1 ρ ω).bind fun a w => (d2 ρ w).bind fun b w => ((ofO (f a b) w).bind fun t w => match t with
        | true => (d3 ρ w).bind fun c w => ofO (g b c) w
        | false => .ok false w).bind fun t w => .ok (.bool t) w) := by
      unfold eOfB bChain at q
      cases h : d1 ρ ω with
      | ok a w =>
        rw [h] at q
        cases h' : d2 ρ w with
        | ok b w' => simpa [h'] using q
        | _ => simpa [h'] using q
      | _ => rw [h] at q; exact q
    exact bin_step S Post.pg q' fun F2 H2 x y a b w _ S2 r1 r2 q2 => by
      cases e1 : f a b with
      | none => rw [e1] at q2; exact q2.elim
      | some t =>
        rw [e1, ofO_some, bind_ok] at q2
        refine v F2 H2 x y a b t _ S2.fh r1 r2 e1 ⟨t, rfl, ?_⟩
        cases t with
        | false => exact iteF (q2 F2 H2 (Xt.refl S2.fh) S2.bo _ (.bl false))
        | true =>
          have q3 : Post c W F2 H2 σ (fun v F' H' _ => ∀ x, Rp c.K F' x v → Q x H') ((d3 ρ w).bind fun z w => (ofO (g b z) w).bind fun t w => .ok (.bool t) w) := by
            cases h : d3 ρ w with
            | _ => simpa [h] using q2
          refine iteT ⟨F2, ρ, w, S2, bindT S2 Post.pg q3 fun z F3 H3 w3 x3 S3 q3 zv r3 => ?_⟩
          cases e2 : g b z with
          | none => rw [e2] at q3; exact q3.elim
          | some t' =>
            rw [e2] at q3
            exact v' F3 H3 y zv b z t' _ S3.fh (r2.mono x3.ff) r3 e2 (q3 F3 H3 (Xt.refl S3.fh) S3.bo _ (.bl t'))
theorem b_val {d : Ev → MM D} (h : E c W m X e d) (he : ∀ whole, isTrue e X.env whole = (do let v ← whole; standAt e.pos; holding [v] (truthy v)) := by intro _; rfl) : B c W m X e (bOfE d) :=
  PTimp (pt_val h he) fun σ H Q ⟨F, ρ, ω, S, q⟩ => ⟨F, ρ, ω, S, bindT S Post.pg q fun a F1 H1 w1 x1 S1 q1 x r1 => by
    obtain ⟨z, e1, q3⟩ := post_ofO S1.fh S1.bo q1
    cases r1 <;> simp [asB] at e1
    subst e1
    exact ⟨_, rfl, q3 F1 H1 (Xt.refl S1.fh)⟩⟩
theorem b_tru {d : Ev → MM D} (h : E c W m X e d) (hk : X.K = c.K) (he : ∀ whole, isTrue e X.env whole = (do let v ← whole; standAt e.pos; holding [v] (truthy v)) := by intro _; rfl) : B c W m X e (bTru d) :=
  PTimp (pt_truth h he) fun σ H Q ⟨F, ρ, ω, S, q⟩ => ⟨F, ρ, ω, S, bindT S Post.pg q fun a F1 H1 w1 x1 S1 q1 x r1 => by
    obtain ⟨z, e1, q3⟩ := post_ofO S1.fh S1.bo q1
    refine ⟨z, ?_, q3 F1 H1 (Xt.refl S1.fh)⟩
    cases r1 with
    | non => simp [truth] at e1; exact e1
    | bl _ => simp [truth] at e1; exact e1.symm
    | int _ => simp [truth] at e1; exact e1.symm
    | str _ => simp [truth] at e1
    | lst h1 h2 =>
      simp [truth] at e1
      refine .inl ⟨_, SqL.of (S1.fh _ _ h1), ?_⟩
      cases h2 <;> simp_all
    | tup h1 h2 =>
      simp [truth] at e1
      refine .inr (.inl ⟨_, by rw [hk]; exact sameT S1.fh h1, ?_⟩)
      cases h2 <;> simp_all⟩
theorem b_not {d : Ev → MM Bool} (h : B c W m X a d) : B c W m X (.UnaryOp .Not a pos) (bNot d) :=
  PTimp (pt_not h) fun σ H Q ⟨F, ρ, ω, S, q⟩ => ⟨F, ρ, ω, S, bindT S Post.pg q fun a F1 H1 w1 x1 S1 q1 => q1 F1 H1 (Xt.refl S1.fh) S1.bo⟩
theorem e_not {d : Ev → MM D} (h : E c W m X a d) : E c W m X (.UnaryOp .Not a pos) (eOfB (bNot (bOfE d))) :=
  PEimp (pe_not h) fun σ H Q ⟨F, ρ, ω, S, q⟩ => by
    have q' : Post c W F H σ (fun v F' H' _ => ∀ x, Rp c.K F' x v → Q x H') ((d ρ ω).bind fun a w => (ofO (asB a) w).bind fun t w => .ok (.bool (!t)) w) := by
      unfold eOfB bNot bOfE at q
      cases h : d ρ ω with
      | ok a w => cases h' : asB a <;> simpa [h, h'] using q
      | _ => rw [h] at q; exact q
    refine ⟨F, ρ, ω, S, bindT S Post.pg q' fun a F1 H1 w1 x1 S1 q1 x r1 => ?_⟩
    cases r1 <;> first
      | exact q1.elim
      | exact ⟨_, rfl, q1 F1 H1 (Xt.refl S1.fh) S1.bo _ (.bl _)⟩
theorem bw_and1 {d : Ev → MM Bool} (h : B c W m X a d) : BW c W m X (.BoolOp .And [a] pos) d := pw_and1 h
theorem bw_or1 {d : Ev → MM Bool} (h : B c W m X a d) : BW c W m X (.BoolOp .Or [a] pos) d := pw_or1 h
theorem bw_and {rest : List Expr} {d1 d2 : Ev → MM Bool} (h : B c W m X a d1) (h2 : BW c W m X (.BoolOp .And (b :: rest) pos) d2) : BW c W m X (.BoolOp .And (a :: b :: rest) pos) (bAnd d1 d2) :=
  PWimp (pw_and h h2) fun σ H Q ⟨F, ρ, ω, S, q⟩ => ⟨F, ρ, ω, S, bindT S Post.pg q fun t F1 H1 w1 x1 S1 q1 => by
    cases t with
    | true => exact iteT ⟨F1, ρ, w1, S1, q1⟩
    | false => exact iteF (q1 F1 H1 (Xt.refl S1.fh) S1.bo)⟩
theorem bw_or {rest : List Expr} {d1 d2 : Ev → MM Bool} (h : B c W m X a d1) (h2 : BW c W m X (.BoolOp .Or (b :: rest) pos) d2) : BW c W m X (.BoolOp .Or (a :: b :: rest) pos) (bOr d1 d2) :=
  PWimp (pw_or h h2) fun σ H Q ⟨F, ρ, ω, S, q⟩ => ⟨F, ρ, ω, S, bindT S Post.pg q fun t F1 H1 w1 x1 S1 q1 => by
    cases t with
    | true => exact iteT (q1 F1 H1 (Xt.refl S1.fh) S1.bo)
    | false => exact iteF ⟨F1, ρ, w1, S1, q1⟩⟩
theorem b_w {d : Ev → MM Bool} (h : BW c W m X e d) : B c W m X e d := h.pt
def eAnd (d1 d2 : Ev → MM D) : Ev → MM D := fun ρ ω => (d1 ρ ω).bind fun a w => (ofO (asB a) w).bind fun t w => match t with
  | true => d2 ρ w
  | false => .ok (.bool false) w
def eOr (d1 d2 : Ev → MM D) : Ev → MM D := fun ρ ω => (d1 ρ ω).bind fun a w => (ofO (asB a) w).bind fun t w => match t with
  | true => .ok (.bool true) w
  | false => d2 ρ w
theorem e_one {op} {d : Ev → MM D} (h : E c W m X a d) : E c W m X (.BoolOp op [a] pos) d := pe_one h
theorem e_and {rest : List Expr} {d1 d2 : Ev → MM D} (h : E c W m X a d1) (h2 : E c W m X (.BoolOp .And (b :: rest) pos) d2) : E c W m X (.BoolOp .And (a :: b :: rest) pos) (eAnd d1 d2) :=
  PEimp (pe_and h h2) fun σ H Q ⟨F, ρ, ω, S, q⟩ => ⟨F, ρ, ω, S, bindT S Post.pg q fun t F1 H1 w1 x1 S1 q1 x r1 => by
    cases r1 with
    | bl t => cases t with
      | true => exact ⟨true, rfl, iteT ⟨F1, ρ, w1, S1, q1⟩⟩
      | false => exact ⟨false, rfl, iteF (q1 F1 H1 (Xt.refl S1.fh) S1.bo _ (.bl _))⟩
    | _ => exact q1.elim⟩
theorem e_or {rest : List Expr} {d1 d2 : Ev → MM D} (h : E c W m X a d1) (h2 : E c W m X (.BoolOp .Or (b :: rest) pos) d2) : E c W m X (.BoolOp .Or (a :: b :: rest) pos) (eOr d1 d2) :=
  PEimp (pe_or h h2) fun σ H Q ⟨F, ρ, ω, S, q⟩ => ⟨F, ρ, ω, S, bindT S Post.pg q fun t F1 H1 w1 x1 S1 q1 x r1 => by
    cases r1 with
    | bl t => cases t with
      | true => exact ⟨true, rfl, iteT (q1 F1 H1 (Xt.refl S1.fh) S1.bo _ (.bl _))⟩
      | false => exact ⟨false, rfl, iteF ⟨F1, ρ, w1, S1, q1⟩⟩
    | _ => exact q1.elim⟩
theorem e_if {t : Expr} {dt : Ev → MM Bool} {d1 d2 : Ev → MM D} (ht : B c W m X t dt) (h1 : E c W m X a d1) (h2 : E c W m X b d2) : E c W m X (.IfExp t a b pos) (eIf dt d1 d2) :=
  PEimp (pe_ifExp ht h1 h2) fun σ H Q ⟨F, ρ, ω, S, q⟩ => ⟨F, ρ, ω, S, bindT S Post.pg q fun t F1 H1 w1 x1 S1 q1 => by
    cases t with
    | true => exact iteT ⟨F1, ρ, w1, S1, q1⟩
    | false => exact iteF ⟨F1, ρ, w1, S1, q1⟩⟩
theorem a_nil : A c W m X [] aNil := ⟨PAimp pa_nil fun σ H Q ⟨F, ρ, ω, S, q⟩ => q F H (Xt.refl S.fh) S.bo _ .nil, AL.nil⟩
theorem a_cons {d : Ev → MM D} {ds : Ev → MM (List D)} (h : E c W m X e d) (hr : A c W m X es ds) (hs : starEach (e :: es) X.env = (false, eval e X.env) :: starEach es X.env := by rfl) : A c W m X (e :: es) (aCons d ds) :=
  ⟨PAimp (pa_cons h hr.pa hs) fun σ H Q ⟨F, ρ, ω, S, q⟩ => ⟨F, ρ, ω, S, bindT S Post.pg q fun a F1 H1 w1 x1 S1 q1 x r1 =>
    ⟨F1, ρ, w1, S1, bindT S1 Post.pg q1 fun r F2 H2 w2 x2 S2 q2 xs r2 => q2 F2 H2 (Xt.refl S2.fh) S2.bo _ (.cons (r1.mono x2.ff) r2)⟩⟩, AL.cons hr.len⟩
theorem e_tup {k} {ds : Ev → MM (List D)} (h : A c W m X es ds) (hl : es.length ≤ 1000 := by decide) : E c W m X (.Tuple es k pos) (eTup ds) :=
  PEimp (pe_tup h.pa) fun σ H Q ⟨F, ρ, ω, S, q⟩ => by
    refine ⟨F, ρ, ω, S, ?_⟩
    have al := h.len ρ ω
    unfold eTup at q
    cases e : ds ρ ω with
    | bad => rw [e] at q; exact q.elim
    | exc x y => rw [e] at q; exact q
    | ok r w =>
      rw [e] at q
      intro F' H' xt bo xs rp
      have hz : xs.length ≤ sizeLine := by rw [rp.length, al r w e]; exact Nat.le_of_lt (small1000 hl)
      refine ⟨hz, fun p np => ?_⟩
      have x2 : Xt none F' H' (upd F' p (.tup xs)) (upd H' p (.tup xs)) := Xt.alloc xt.fh np
      exact q _ _ (xt.trans x2.any) (bo.ext x2) _ (.tup (SqT.of upd_same) (rp.mono x2.ff))
theorem e_lst {ds : Ev → MM (List D)} (h : A c W m X es ds) (hl : es.length ≤ 1000 := by decide) : E c W m X (.List es pos) (eLst ds) :=
  PEimp (pe_lst h.pa) fun σ H Q ⟨F, ρ, ω, S, q⟩ => by
    refine ⟨F, ρ, ω, S, ?_⟩
    have al := h.len ρ ω
    unfold eLst at q
    cases e : ds ρ ω with
    | bad => rw [e] at q; exact q.elim
    | exc x y => rw [e] at q; exact q
    | ok r w =>
      rw [e] at q
      intro F' H' xt bo xs rp
      have hz : xs.length ≤ sizeLine := by rw [rp.length, al r w e]; exact Nat.le_of_lt (small1000 hl)
      refine ⟨hz, fun p np => ?_⟩
      have x2 : Xt none F' H' (upd F' p (.lst xs)) (upd H' p (.lst xs)) := Xt.alloc xt.fh np
      exact q _ _ (xt.trans x2.any) (bo.ext x2) _ (.lst upd_same (rp.mono x2.ff))
theorem args_step {F H : Hp} {ρ : Ev} {ω : Wd} {σ : L2.St} {ds : Ev → MM (List D)} {f : List D → Option D} {r : List V → Hp → VK → Prop} {Q : VK} (v : VAr c.K r f) (S : SR c m F ρ ω σ H) (q : Post c W F H σ (fun v F' H' _ => ∀ x, Rp c.K F' x v → Q x H') (eArgs f ds ρ ω)) :
    TDa c W m ds σ H fun xs H1 => r xs H1 Q := ⟨F, ρ, ω, S, bindT S Post.pg q fun as F1 H1 w1 x1 S1 q1 xs r1 => by
    obtain ⟨z, e1, q3⟩ := post_ofO S1.fh S1.bo q1
    exact v F1 H1 xs as z Q S1.fh r1 e1 fun F' H' z' xt rz => q3 F' H' xt z' rz⟩
theorem e_callB {x : Str} {p : Pos} {id : String} {r : List V → Hp → VK → Prop} {f : List D → Option D} {ds : Ev → MM (List D)} (hc : CallR X (.builtin id) r) (v : VAr c.K r f) (hg : Gl X x) (hm : X.mg x = none) (hv : bootBuiltins x = some (.builtin id)) (ha : A c W m X (e :: es) ds)
    (hn : x ≠ "__name__" := by decide) (hdb : (x == ("__debug__" : Str)) = false := by decide)
    (he : starEach (e :: es) X.env = (false, eval e X.env) :: starEach es X.env := by rfl) (hpl : (backTo pos (starEach es X.env)).any (·.1) = false := by rfl) : E c W m X (.Call (.Name x p) (e :: es) [] pos) (eArgs f ds) :=
  PEimp (pe_callB hc hg hm hv ha.pa hn hdb he hpl) fun σ H Q ⟨F, ρ, ω, S, q⟩ => args_step v S q
theorem e_callTy {x : Str} {p : Pos} {id : String} {r : List V → Hp → VK → Prop} {f : List D → Option D} {ds : Ev → MM (List D)} (hc : CallR X (.type id) r) (v : VAr c.K r f) (hg : Gl X x) (hm : X.mg x = none) (hv : bootBuiltins x = some (.type id)) (ha : A c W m X (e :: es) ds)
    (hn : x ≠ "__name__" := by decide) (hdb : (x == ("__debug__" : Str)) = false := by decide)
    (he : starEach (e :: es) X.env = (false, eval e X.env) :: starEach es X.env := by rfl) (hpl : (backTo pos (starEach es X.env)).any (·.1) = false := by rfl) : E c W m X (.Call (.Name x p) (e :: es) [] pos) (eArgs f ds) :=
  PEimp (pe_callTy hc hg hm hv ha.pa hn hdb he hpl) fun σ H Q ⟨F, ρ, ω, S, q⟩ => args_step v S q
end

/-! ### own defs -/
def PostF (K : PySem.W.Frag) (mg : Str → Option Value) (F H : Hp) (Q : VK) (E : XK) : Res D → Prop
  | .bad => False
  | .ok d _ => ∀ F' H' x, Xt none F H F' H' → Rp K F' x d → Q x H'
  | .exc e _ => ∀ F' H' cls dd, Xt none F H F' H' → RepX ⟨K, mg, fun _ => none, fun _ => none, none⟩ e cls dd H' → E cls dd H'
/-- a def that changes nothing that it is handed -/
def spP (K : PySem.W.Frag) (mg : Str → Option Value) (n : Nat) (fd : List D → Res D) : Sp := fun vs H Q E => ∃ F ds, vs.length = n ∧ Same F H ∧ RpL K F vs ds ∧ PostF K mg F H Q E (fd ds)
/-- a def whose first argument is a list that it may change -/
def spS (K : PySem.W.Frag) (mg : Str → Option Value) (n : Nat) (fd : List D → MM D) : Sp := fun vs H Q E => ∃ F b us ω vs' ds, vs = .ref b :: vs' ∧ vs.length = n ∧ Same F H ∧ F b = none ∧ H b = some (.lst us) ∧ RpL K F us ω ∧ RpL K F vs' ds ∧ match fd ds ω with
  | .bad => False
  | .ok d ω' => ∀ F' H' x us', Xt (some b) F H F' H' → H' b = some (.lst us') → RpL K F' us' ω' → Rp K F' x d → Q x H'
  | .exc e ω' => ∀ F' H' cls dd us', Xt (some b) F H F' H' → H' b = some (.lst us') → RpL K F' us' ω' → RepX ⟨K, mg, fun _ => none, fun _ => none, none⟩ e cls dd H' → E cls dd H'
structure Own (P : Program) (w : World) (K : PySem.W.Frag) (mg : Str → Option Value) (base : Heap) (x : Str) (k : Nat) (sp : Sp) : Prop where
  ex : ∃ f fdat ps, mg x = some (.ref f) ∧ PySem.W.keepIn K (.ref f) = true ∧ Binds K fdat ps [] ∧ FnOk P w K mg base (L2.CX P w) k f fdat ps sp
abbrev FnD (P : Program) (w : World) (K : PySem.W.Frag) (mg : Str → Option Value) (base : Heap) (x : Str) (k n : Nat) (fd : List D → Res D) : Prop := Own P w K mg base x k (spP K mg n fd)
abbrev FnS (P : Program) (w : World) (K : PySem.W.Frag) (mg : Str → Option Value) (base : Heap) (x : Str) (k n : Nat) (fd : List D → MM D) : Prop := Own P w K mg base x k (spS K mg n fd)
section
variable {c : CM} {W : WX} {m : Md} {X : Cx} {e : Expr} {es : List Expr} {pos p p1 : Pos}
theorem e_call {x : Str} {j k n : Nat} {fd : List D → Res D} {ds : Ev → MM (List D)} (G : FnD X.prog X.w X.K X.mg X.base x j n fd) (hr : Room k X.A) (hk : X.K = c.K) (hmg : X.mg = c.mg) (tk : Takes X W) (ha : A c W m X (e :: es) ds) (hg : Gl X x) (hjk : j ≤ k := by decide) (hn : (e :: es).length = n := by rfl)
    (hdb : (x == ("__debug__" : Str)) = false := by decide) (he : starEach (e :: es) X.env = (false, eval e X.env) :: starEach es X.env := by rfl) (hpl : (backTo pos (starEach es X.env)).any (·.1) = false := by rfl) :
    E c W m X (.Call (.Name x p) (e :: es) [] pos) (eCall fd ds) := by
  obtain ⟨f, fdat, ps, gm, kp, bd, ok⟩ := G.ex
  refine PEimp (pe_callS (ok.mono hjk) hr hg gm kp bd (fun σ => passAt tk σ) ha.pa hdb he hpl) fun σ H Q ⟨F, ρ, ω, S, q⟩ => ?_
  refine ⟨F, ρ, ω, S, ?_⟩
  have al := ha.len ρ ω
  unfold eCall at q
  cases ed : ds ρ ω with
  | bad => rw [ed] at q; exact q.elim
  | exc x y => rw [ed] at q; exact q
  | ok r w =>
    rw [ed] at q
    intro F1 H1 xt bo xs rp
    refine ⟨F1, r, by rw [rp.length, al r w ed]; exact hn, xt.fh, by rw [hk]; exact rp, ?_⟩
    show PostF X.K X.mg F1 H1 Q (WE W σ) (fd r)
    have q2 : Post c W F H σ (fun v F' H' _ => ∀ x, Rp c.K F' x v → Q x H') ((fd r).at w) := q
    cases ef : fd r with
    | bad => rw [ef] at q2; exact q2.elim
    | ok d w' =>
      rw [ef] at q2
      exact fun F' H' z x2 rz => q2 F' H' (xt.trans x2.any) (bo.ext x2) z (by rw [← hk]; exact rz)
    | exc ex w' =>
      rw [ef] at q2
      refine fun F' H' cls dd x2 rx => q2 F' H' cls dd (xt.trans x2.any) (bo.ext x2) ?_
      rw [hmg] at rx
      exact rx
theorem e_callS {x xs : Str} {j k n i : Nat} {fd : List D → MM D} {ds : Ev → MM (List D)} (G : FnS X.prog X.w X.K X.mg X.base x j n fd) (hr : Room k X.A) (hk : X.K = c.K) (hmg : X.mg = c.mg) (tk : Takes X W) (hi : m.B = some i) (hv : PE X (.Name xs p1) (tVar i)) (ha : A c W m X es ds) (hg : Gl X x)
    (hjk : j ≤ k := by decide) (hn : es.length + 1 = n := by rfl)
    (hdb : (x == ("__debug__" : Str)) = false := by decide) (he : starEach (.Name xs p1 :: es) X.env = (false, eval (.Name xs p1) X.env) :: starEach es X.env := by rfl) (hpl : (backTo pos (starEach es X.env)).any (·.1) = false := by rfl) :
    E c W m X (.Call (.Name x p) (.Name xs p1 :: es) [] pos) (eCallS fd ds) := by
  obtain ⟨f, fdat, ps, gm, kp, bd, ok⟩ := G.ex
  refine PEimp (pe_callS (ok.mono hjk) hr hg gm kp bd (fun σ => passAt tk σ) (pa_cons hv ha.pa he) hdb he hpl) fun σ H Q ⟨F, ρ, ω, S, q⟩ => ?_
  obtain ⟨_, b, hb, hσ⟩ := S.bsl i hi
  refine ⟨_, hσ, F, ρ, ω, S, ?_⟩
  have al := ha.len ρ ω
  unfold eCallS at q
  cases ed : ds ρ ω with
  | bad => rw [ed] at q; exact q.elim
  | exc x y => rw [ed] at q; exact q
  | ok r w =>
    rw [ed] at q
    intro F1 H1 xt bo xs rp
    obtain ⟨h0, h1, us, h2, h3⟩ := bo b hb
    refine ⟨F1, b, us, w, xs, r, rfl, by rw [List.length_cons, rp.length, al r w ed]; exact hn, xt.fh, h1, h2, by rw [hk]; exact h3, by rw [hk]; exact rp, ?_⟩
    have q2 : Post c W F H σ (fun v F' H' _ => ∀ x, Rp c.K F' x v → Q x H') (fd r w) := q
    have hnew : ∀ {F' H' : Hp} {us' : List V} {w' : Wd}, Xt (some b) F1 H1 F' H' → H' b = some (.lst us') → RpL X.K F' us' w' → BorOk c F' w' H' := fun {F' H' us' w'} x2 e1 e2 b' hb' => by
      rw [hb] at hb'
      cases hb'
      exact ⟨h0, by rw [x2.new b (by rw [h2]; simp)]; exact h1, us', e1, by rw [← hk]; exact e2⟩
    cases ef : fd r w with
    | bad => rw [ef] at q2; exact q2.elim
    | ok d w' =>
      rw [ef] at q2
      exact fun F' H' z us' x2 e1 e2 rz => q2 F' H' (xt.trans (by rw [hb]; exact x2)) (hnew x2 e1 e2) z (by rw [← hk]; exact rz)
    | exc ex w' =>
      rw [ef] at q2
      refine fun F' H' cls dd us' x2 e1 e2 rx => q2 F' H' cls dd (xt.trans (by rw [hb]; exact x2)) (hnew x2 e1 e2) ?_
      rw [hmg] at rx
      exact rx
end
end M

set_option Elab.async false
set_option linter.all false
set_option maxRecDepth 100000
set_option maxHeartbeats 4000000
namespace M
open PySem PySem.Spec PyProof.Rows L2

theorem OpR.or {X : Cx} {f : Value → Value → Sem Value} {r r' : R2} (h : OpR X f r) (h' : OpR X f r') : OpR X f (fun x y H Q => r x y H Q ∨ r' x y H Q) := by
  intro pins s σ H x y v u Q I rx ry h0
  rcases h0 with q | q
  · exact h pins s σ H x y v u Q I rx ry q
  · exact h' pins s σ H x y v u Q I rx ry q
section
variable {K : PySem.W.Frag} {H : Hp}
theorem Rp.vint {v : V} {i : Int} (h : Rp K H v (.int i)) : v = .int i := by cases h; rfl
theorem Rp.vbl {v : V} {i : Bool} (h : Rp K H v (.bool i)) : v = .bl i := by cases h; rfl
theorem Rp.vstr {v : V} {i : Str} (h : Rp K H v (.str i)) : v = .str i := by cases h; rfl
theorem Rp.vnon {v : V} (h : Rp K H v .none) : v = .non := by cases h; rfl
theorem Rp.vlst {v : V} {ds : List D} (h : Rp K H v (.list ds)) : ∃ a xs, v = .ref a ∧ H a = some (.lst xs) ∧ RpL K H xs ds := by cases h with | lst h1 h2 => exact ⟨_, _, rfl, h1, h2⟩
theorem Rp.vtup {v : V} {ds : List D} (h : Rp K H v (.tuple ds)) : ∃ a xs, v = .ref a ∧ SqT K H a xs ∧ RpL K H xs ds := by cases h with | tup h1 h2 => exact ⟨_, _, rfl, h1, h2⟩
theorem RpL.one {vs : List V} {d : D} (h : RpL K H vs [d]) : ∃ v, vs = [v] ∧ Rp K H v d := by
  cases h with | cons h1 h2 => cases h2; exact ⟨_, rfl, h1⟩
theorem RpL.two {vs : List V} {d e : D} (h : RpL K H vs [d, e]) : ∃ v u, vs = [v, u] ∧ Rp K H v d ∧ Rp K H u e := by
  cases h with | cons h1 h2 => obtain ⟨u, rfl, h3⟩ := h2.one; exact ⟨_, _, rfl, h1, h3⟩
theorem RpL.three {vs : List V} {d e f : D} (h : RpL K H vs [d, e, f]) : ∃ v u w, vs = [v, u, w] ∧ Rp K H v d ∧ Rp K H u e ∧ Rp K H w f := by
  cases h with | cons h1 h2 => obtain ⟨u, w, rfl, h3, h4⟩ := h2.two; exact ⟨_, _, _, rfl, h1, h3, h4⟩
end

/-! ### arithmetic -/
def vSub : D → D → Option D
  | .int i, .int j => some (.int (i - j))
  | _, _ => none
def mulOk (i j : Int) : Prop := i.natAbs.log2 + j.natAbs.log2 < 1000000
instance (i j : Int) : Decidable (mulOk i j) := by unfold mulOk; infer_instance
def divOk (j : Int) : Prop := j ≠ 0 ∧ j.natAbs.log2 < 9000
instance (j : Int) : Decidable (divOk j) := by unfold divOk; infer_instance
def powOk (i j : Int) : Prop := 0 ≤ j ∧ j ≤ 1000000 ∧ i.natAbs < 2 ^ 64
instance (i j : Int) : Decidable (powOk i j) := by unfold powOk; infer_instance
def vFdiv : D → D → Option D
  | .int i, .int j => if divOk j then some (.int (i.fdiv j)) else none
  | _, _ => none
def vMod : D → D → Option D
  | .int i, .int j => if j = 0 then none else some (.int (i.fmod j))
  | _, _ => none
def vPow : D → D → Option D
  | .int i, .int j => if powOk i j then some (.int (i ^ j.toNat)) else none
  | _, _ => none
def vNeg : D → Option D
  | .int i => some (.int (-i))
  | _ => none
/-- +: ints, lists, tuples -/
def vAdd : D → D → Option D
  | .int i, .int j => some (.int (i + j))
  | .list xs, .list ys => if xs.length + ys.length ≤ sizeLine then some (.list (xs ++ ys)) else none
  | .tuple xs, .tuple ys => if xs.length + ys.length ≤ sizeLine then some (.tuple (xs ++ ys)) else none
  | _, _ => none
/-- *: ints, a list times an int -/
def vMul : D → D → Option D
  | .int i, .int j => if mulOk i j then some (.int (i * j)) else none
  | .list xs, .int k => if -(2 ^ 63) ≤ k ∧ k < 2 ^ 63 ∧ xs.length * k.toNat ≤ sizeLine then some (.list (List.replicate k.toNat xs).flatten) else none
  | _, _ => none
section
variable {X : Cx}
theorem op_fdivG : OpR X (binaryOp .FloorDiv) (rI (fun _ j => divOk j) fun i j => .int (i.fdiv j)) := opI fun _ _ _ _ _ _ _ hc q => floordiv_int hc.1 q (.inl (PyProof.noPylong_of_log2 hc.2))
theorem iop_fdivG : OpR X (inplaceOp .FloorDiv) (rI (fun _ j => divOk j) fun i j => .int (i.fdiv j)) := opI fun _ _ _ _ _ _ _ hc q => ifloordiv_int hc.1 q (.inl (PyProof.noPylong_of_log2 hc.2))
theorem iop_modG : OpR X (inplaceOp .Mod) (rI (fun _ j => j ≠ 0) fun i j => .int (i.fmod j)) := opI fun _ _ _ _ _ _ _ hc q => imod_int hc q
theorem mulOk_ok {i j : Int} (h : mulOk i j) : IntMulOk i j := CMulW.ok h
theorem iop_mulW : OpR X (inplaceOp .Mult) (rI mulOk fun i j => .int (i * j)) := opI fun _ _ _ _ _ _ _ hc q => imul_int q (mulOk_ok hc)
theorem op_addX : OpR X (binaryOp .Add) (fun x y H Q => rI0 (fun i j => .int (i + j)) x y H Q ∨ (rCat x y H Q ∨ rCatA X.K x y H Q)) := op_add.or (op_cat.or op_catA)
theorem op_mulX : OpR X (binaryOp .Mult) (fun x y H Q => rI mulOk (fun i j => .int (i * j)) x y H Q ∨ rRep x y H Q) := OpR.or (opI fun _ _ _ _ _ _ _ hc q => mul_int q (mulOk_ok hc)) op_rep
end
section
variable {K : PySem.W.Frag}
theorem vop_sub {r : R2} (h : ∀ i j H Q, Q (.int (i - j)) H → r (.int i) (.int j) H Q) : VOp K r vSub := by
  intro F H x y a b v Q S r1 r2 e q
  cases r1 <;> cases r2 <;> simp [vSub] at e
  subst e
  exact h _ _ _ _ (q F H _ (Xt.refl S) (.int _))
theorem v_sub : VOp K (rI0 fun i j => .int (i - j)) vSub := vop_sub fun i j H Q q => ⟨i, j, rfl, rfl, q⟩
theorem v_fdiv : VOp K (rI (fun _ j => divOk j) fun i j => .int (i.fdiv j)) vFdiv := by
  intro F H x y a b v Q S r1 r2 e q
  cases r1 <;> cases r2 <;> simp [vFdiv] at e
  obtain ⟨e1, e⟩ := e
  subst e
  exact ⟨_, _, rfl, rfl, e1, q F H _ (Xt.refl S) (.int _)⟩
theorem v_mod : VOp K (rI (fun _ j => j ≠ 0) fun i j => .int (i.fmod j)) vMod := by
  intro F H x y a b v Q S r1 r2 e q
  cases r1 <;> cases r2 <;> simp [vMod] at e
  obtain ⟨e1, e⟩ := e
  subst e
  exact ⟨_, _, rfl, rfl, e1, q F H _ (Xt.refl S) (.int _)⟩
theorem v_pow : VOp K (rI CPow fun i j => .int (i ^ j.toNat)) vPow := by
  intro F H x y a b v Q S r1 r2 e q
  cases r1 <;> cases r2 <;> simp [vPow] at e
  obtain ⟨e1, e⟩ := e
  subst e
  exact ⟨_, _, rfl, rfl, e1, q F H _ (Xt.refl S) (.int _)⟩
theorem v_neg : VUn K (rU fun i => .int (-i)) vNeg := by
  intro F H x a v Q S r1 e q
  cases r1 <;> simp [vNeg] at e
  subst e
  exact ⟨_, rfl, q F H _ (Xt.refl S) (.int _)⟩
theorem rp_new_lst {F H : Hp} {p : Addr} {xs : List V} {ds : List D} {Q : VK} (S : Same F H) (np : H p = none) (r : RpL K F xs ds) (q : ∀ F' H' z, Xt none F H F' H' → Rp K F' z (.list ds) → Q z H') : Q (.ref p) (upd H p (.lst xs)) := by
  have x : Xt none F H (upd F p (.lst xs)) (upd H p (.lst xs)) := Xt.alloc S np
  exact q _ _ _ x (.lst upd_same (r.mono x.ff))
theorem rp_new_tup {F H : Hp} {p : Addr} {xs : List V} {ds : List D} {Q : VK} (S : Same F H) (np : H p = none) (r : RpL K F xs ds) (q : ∀ F' H' z, Xt none F H F' H' → Rp K F' z (.tuple ds) → Q z H') : Q (.ref p) (upd H p (.tup xs)) := by
  have x : Xt none F H (upd F p (.tup xs)) (upd H p (.tup xs)) := Xt.alloc S np
  exact q _ _ _ x (.tup (SqT.of upd_same) (r.mono x.ff))
theorem v_add {K' : PySem.W.Frag} (hk : K' = K) : VOp K (fun x y H Q => rI0 (fun i j => .int (i + j)) x y H Q ∨ (rCat x y H Q ∨ rCatA K' x y H Q)) vAdd := by
  subst hk
  intro F H x y a b v Q S r1 r2 e q
  cases r1 with
  | int i => cases r2 <;> simp [vAdd] at e; subst e; exact .inl ⟨_, _, rfl, rfl, q F H _ (Xt.refl S) (.int _)⟩
  | lst h1 h2 =>
    cases r2 with
    | lst h3 h4 =>
      simp [vAdd] at e
      obtain ⟨e1, e⟩ := e
      subst e
      refine .inr (.inl ⟨_, _, _, _, rfl, rfl, S _ _ h1, S _ _ h3, by rw [h2.length, h4.length]; exact e1, fun p np => ?_⟩)
      exact rp_new_lst S np (h2.append h4) q
    | _ => simp [vAdd] at e
  | tup h1 h2 =>
    cases r2 with
    | tup h3 h4 =>
      simp [vAdd] at e
      obtain ⟨e1, e⟩ := e
      subst e
      refine .inr (.inr ⟨_, _, _, _, rfl, rfl, sameT S h1, sameT S h3, by rw [h2.length, h4.length]; exact e1, fun z => ?_, fun z z' => ?_, fun _ _ p np => ?_⟩)
      · subst z
        cases h2
        exact q F H _ (Xt.refl S) (.tup h3 h4)
      · subst z'
        cases h4
        rw [List.append_nil] at q
        exact q F H _ (Xt.refl S) (.tup h1 h2)
      · exact rp_new_tup S np (h2.append h4) q
    | _ => simp [vAdd] at e
  | _ => simp [vAdd] at e
theorem RpL.rep {F : Hp} {xs : List V} {ds : List D} (h : RpL K F xs ds) : ∀ k, RpL K F (List.replicate k xs).flatten (List.replicate k ds).flatten
  | 0 => .nil
  | k + 1 => by simp only [List.replicate_succ, List.flatten_cons]; exact h.append (h.rep k)
theorem v_mul : VOp K (fun x y H Q => rI mulOk (fun i j => .int (i * j)) x y H Q ∨ rRep x y H Q) vMul := by
  intro F H x y a b v Q S r1 r2 e q
  cases r1 with
  | int i => cases r2 <;> simp [vMul] at e; obtain ⟨e1, e⟩ := e; subst e; exact .inl ⟨_, _, rfl, rfl, e1, q F H _ (Xt.refl S) (.int _)⟩
  | lst h1 h2 =>
    cases r2 with
    | int k =>
      simp [vMul] at e
      obtain ⟨⟨e1, e2, e3⟩, e⟩ := e
      subst e
      refine .inr ⟨_, _, _, rfl, rfl, S _ _ h1, e1, e2, by rw [h2.length]; exact e3, fun p np => ?_⟩
      exact rp_new_lst S np (h2.rep _) q
    | _ => simp [vMul] at e
  | _ => simp [vMul] at e
/-! in place, ints alone -/
def vAddI : D → D → Option D
  | .int i, .int j => some (.int (i + j))
  | _, _ => none
def vMulI : D → D → Option D
  | .int i, .int j => if mulOk i j then some (.int (i * j)) else none
  | _, _ => none
theorem v_addI : VOp K (rI0 fun i j => .int (i + j)) vAddI := by
  intro F H x y a b v Q S r1 r2 e q
  cases r1 <;> cases r2 <;> simp [vAddI] at e
  subst e
  exact ⟨_, _, rfl, rfl, q F H _ (Xt.refl S) (.int _)⟩
theorem v_mulI : VOp K (rI mulOk fun i j => .int (i * j)) vMulI := by
  intro F H x y a b v Q S r1 r2 e q
  cases r1 <;> cases r2 <;> simp [vMulI] at e
  obtain ⟨e1, e⟩ := e
  subst e
  exact ⟨_, _, rfl, rfl, e1, q F H _ (Xt.refl S) (.int _)⟩
end

/-! ### comparisons -/
def cI (p : Int → Int → Bool) : D → D → Option Bool
  | .int i, .int j => some (p i j)
  | _, _ => none
def vEq (a b : D) : Option Bool := if SeqAt.shaped a = true ∧ SeqAt.shaped b = true then some (PyData.eqv a b) else none
def vNe (a b : D) : Option Bool := if SeqAt.shaped a = true ∧ SeqAt.shaped b = true then some (!PyData.eqv a b) else none
def vIsN : D → D → Option Bool
  | a, .none => some (match a with | .none => true | _ => false)
  | _, _ => none
def vNotN : D → D → Option Bool
  | a, .none => some (match a with | .none => false | _ => true)
  | _, _ => none
def vIsB : D → D → Option Bool
  | .bool a, .bool b => some (a == b)
  | _, _ => none
def vNotB : D → D → Option Bool
  | .bool a, .bool b => some (!(a == b))
  | _, _ => none
def vIn : D → D → Option Bool
  | d, .list ds => if SeqAt.shaped d = true ∧ SeqAt.shaped (.list ds) = true then some (ds.any fun z => PyData.eqv z d) else none
  | d, .tuple ds => if SeqAt.shaped d = true ∧ SeqAt.shaped (.tuple ds) = true then some (ds.any fun z => PyData.eqv z d) else none
  | _, _ => none
def vNotIn : D → D → Option Bool
  | d, .list ds => if SeqAt.shaped d = true ∧ SeqAt.shaped (.list ds) = true then some (!ds.any fun z => PyData.eqv z d) else none
  | d, .tuple ds => if SeqAt.shaped d = true ∧ SeqAt.shaped (.tuple ds) = true then some (!ds.any fun z => PyData.eqv z d) else none
  | _, _ => none
def rInT (K : PySem.W.Frag) : R2 := fun x y H Q => ∃ d ds, Dp K H x d ∧ Dp K H y (.tuple ds) ∧ SeqAt.shaped d = true ∧ SeqAt.shaped (.tuple ds) = true ∧ Q (.bl (ds.any fun z => PyData.eqv z d)) H
def rNotInT (K : PySem.W.Frag) : R2 := fun x y H Q => ∃ d ds, Dp K H x d ∧ Dp K H y (.tuple ds) ∧ SeqAt.shaped d = true ∧ SeqAt.shaped (.tuple ds) = true ∧ Q (.bl (!ds.any fun z => PyData.eqv z d)) H
section
variable {X : Cx}
theorem op_inTD (hu : X.A.units + 65 < cLine) : OpR X (compareOp .In) (rInT X.K) := by
  intro pins s σ H x y v u Q I rx ry h
  obtain ⟨d, ds, hd, he, sd, se, q⟩ := h
  obtain ⟨as, r1⟩ := Dp.reads I d x v hd rx
  obtain ⟨bs, r2⟩ := Dp.reads I (.tuple ds) y u he ry
  exact SeqAt.in_tuple_reads r2 r1 (SeqAt.canLay_of_shaped se) (SeqAt.canLay_of_shaped sd) (room_in_shaped sd hu) ⟨.bl _, H, I, rfl, q⟩
theorem op_notInTD (hu : X.A.units + 65 < cLine) : OpR X (compareOp .NotIn) (rNotInT X.K) := by
  intro pins s σ H x y v u Q I rx ry h
  obtain ⟨d, ds, hd, he, sd, se, q⟩ := h
  obtain ⟨as, r1⟩ := Dp.reads I d x v hd rx
  obtain ⟨bs, r2⟩ := Dp.reads I (.tuple ds) y u he ry
  exact SeqAt.notIn_tuple_reads r2 r1 (SeqAt.canLay_of_shaped se) (SeqAt.canLay_of_shaped sd) (room_in_shaped sd hu) ⟨.bl _, H, I, rfl, q⟩
theorem units65 {k : Nat} {A : Around} (r : Room k A) : A.units + 65 < cLine := by have := r.un; omega
theorem op_in (hu : X.A.units + 65 < cLine) : OpR X (compareOp .In) (fun x y H Q => rInD X.K x y H Q ∨ rInT X.K x y H Q) := (op_inD hu).or (op_inTD hu)
theorem op_notIn (hu : X.A.units + 65 < cLine) : OpR X (compareOp .NotIn) (fun x y H Q => rNotInD X.K x y H Q ∨ rNotInT X.K x y H Q) := (op_notInD hu).or (op_notInTD hu)
end
def cLt : D → D → Option Bool := cI fun i j => decide (i < j)
def cLe : D → D → Option Bool := cI fun i j => decide (i ≤ j)
def cGt : D → D → Option Bool := cI fun i j => decide (j < i)
def cGe : D → D → Option Bool := cI fun i j => decide (j ≤ i)
section
variable {K : PySem.W.Frag}
theorem v_cI (p : Int → Int → Bool) : VOpB K (rI0 fun i j => .bl (p i j)) (cI p) := by
  intro F H x y a b v Q S r1 r2 e q
  cases r1 <;> cases r2 <;> simp [cI] at e
  subst e
  exact ⟨_, _, rfl, rfl, q⟩
theorem v_eq {K' : PySem.W.Frag} (hk : K' = K) : VOpB K (rEqD K') vEq := by
  subst hk
  intro F H x y a b v Q S r1 r2 e q
  simp only [vEq, Option.ite_none_right_eq_some, Option.some.injEq] at e
  obtain ⟨⟨e1, e2⟩, e⟩ := e
  subst e
  exact ⟨a, b, (r1.mono S).dp, (r2.mono S).dp, e1, e2, q⟩
theorem v_ne {K' : PySem.W.Frag} (hk : K' = K) : VOpB K (rNeD K') vNe := by
  subst hk
  intro F H x y a b v Q S r1 r2 e q
  simp only [vNe, Option.ite_none_right_eq_some, Option.some.injEq] at e
  obtain ⟨⟨e1, e2⟩, e⟩ := e
  subst e
  exact ⟨a, b, (r1.mono S).dp, (r2.mono S).dp, e1, e2, q⟩
theorem v_isN : VOpB K (fun x y H Q => y = .non ∧ Q (.bl (decide (x = .non))) H) vIsN := by
  intro F H x y a b v Q S r1 r2 e q
  cases r2 <;> simp [vIsN] at e
  subst e
  refine ⟨rfl, ?_⟩
  cases r1 <;> exact q
theorem v_notN : VOpB K (fun x y H Q => y = .non ∧ Q (.bl (!decide (x = .non))) H) vNotN := by
  intro F H x y a b v Q S r1 r2 e q
  cases r2 <;> simp [vNotN] at e
  subst e
  refine ⟨rfl, ?_⟩
  cases r1 <;> exact q
theorem v_isB : VOpB K rIsB vIsB := by
  intro F H x y a b v Q S r1 r2 e q
  cases r1 <;> cases r2 <;> simp [vIsB] at e
  subst e
  refine ⟨_, _, rfl, rfl, ?_⟩
  rw [← Bool.beq_eq_decide_eq]
  exact q
theorem v_notB : VOpB K rNotB vNotB := by
  intro F H x y a b v Q S r1 r2 e q
  cases r1 with
  | bl a => cases r2 with
    | bl b =>
      have e : some (!(a == b)) = some v := e
      cases e
      refine ⟨_, _, rfl, rfl, ?_⟩
      rw [← Bool.beq_eq_decide_eq]
      exact q
    | _ => simp [vNotB] at e
  | _ => simp [vNotB] at e
theorem v_in {K' : PySem.W.Frag} (hk : K' = K) : VOpB K (fun x y H Q => rInD K' x y H Q ∨ rInT K' x y H Q) vIn := by
  subst hk
  intro F H x y a b v Q S r1 r2 e q
  cases r2 with
  | lst h1 h2 =>
    simp only [vIn, Option.ite_none_right_eq_some, Option.some.injEq] at e
    obtain ⟨⟨e1, e2⟩, e⟩ := e
    subst e
    exact .inl ⟨a, _, (r1.mono S).dp, (Rp.mono S _ _ (.lst h1 h2)).dp, e1, e2, q⟩
  | tup h1 h2 =>
    simp only [vIn, Option.ite_none_right_eq_some, Option.some.injEq] at e
    obtain ⟨⟨e1, e2⟩, e⟩ := e
    subst e
    exact .inr ⟨a, _, (r1.mono S).dp, (Rp.mono S _ _ (.tup h1 h2)).dp, e1, e2, q⟩
  | _ => simp [vIn] at e
theorem v_notIn {K' : PySem.W.Frag} (hk : K' = K) : VOpB K (fun x y H Q => rNotInD K' x y H Q ∨ rNotInT K' x y H Q) vNotIn := by
  subst hk
  intro F H x y a b v Q S r1 r2 e q
  cases r2 with
  | lst h1 h2 =>
    simp only [vNotIn, Option.ite_none_right_eq_some, Option.some.injEq] at e
    obtain ⟨⟨e1, e2⟩, e⟩ := e
    subst e
    exact .inl ⟨a, _, (r1.mono S).dp, (Rp.mono S _ _ (.lst h1 h2)).dp, e1, e2, q⟩
  | tup h1 h2 =>
    simp only [vNotIn, Option.ite_none_right_eq_some, Option.some.injEq] at e
    obtain ⟨⟨e1, e2⟩, e⟩ := e
    subst e
    exact .inr ⟨a, _, (r1.mono S).dp, (Rp.mono S _ _ (.tup h1 h2)).dp, e1, e2, q⟩
  | _ => simp [vNotIn] at e
theorem v_lt : VOpB K (rI0 fun i j => .bl (decide (i < j))) cLt := v_cI _
theorem v_le : VOpB K (rI0 fun i j => .bl (decide (i ≤ j))) cLe := v_cI _
theorem v_gt : VOpB K (rI0 fun i j => .bl (decide (j < i))) cGt := v_cI _
theorem v_ge : VOpB K (rI0 fun i j => .bl (decide (j ≤ i))) cGe := v_cI _
end

/-! ### subscripts -/
def vIx : D → D → Option D
  | .list xs, .int i => atI xs i
  | .tuple xs, .int i => atI xs i
  | .str z, .int i => if z.length ≤ sizeLine then (atI z.cps.toList i).map fun c => .str ⟨#[c]⟩ else none
  | _, _ => none
theorem v_ix {K K' : PySem.W.Frag} (hk : K' = K) : VOp K (rIx K') vIx := by
  subst hk
  intro F H x y a b v Q S r1 r2 e q
  cases r1 with
  | lst h1 h2 =>
    cases r2 with
    | int i =>
      have e : atI _ i = some v := e
      obtain ⟨j, e1, e2⟩ := Option.bind_eq_some_iff.mp e
      obtain ⟨u, e3, e4⟩ := h2.get e2
      refine .inl ⟨_, _, i, u, rfl, rfl, SqL.of (S _ _ h1), ?_, q F H u (Xt.refl S) e4⟩
      show (ixN _ i).bind _ = _
      rw [h2.length, e1]
      exact e3
    | _ => simp [vIx] at e
  | tup h1 h2 =>
    cases r2 with
    | int i =>
      have e : atI _ i = some v := e
      obtain ⟨j, e1, e2⟩ := Option.bind_eq_some_iff.mp e
      obtain ⟨u, e3, e4⟩ := h2.get e2
      refine .inr (.inl ⟨_, _, i, u, rfl, rfl, sameT S h1, ?_, q F H u (Xt.refl S) e4⟩)
      show (ixN _ i).bind _ = _
      rw [h2.length, e1]
      exact e3
    | _ => simp [vIx] at e
  | str z =>
    cases r2 with
    | int i =>
      simp only [vIx, Option.ite_none_right_eq_some, Option.map_eq_some_iff] at e
      obtain ⟨e1, cc, e2, e3⟩ := e
      subst e3
      exact .inr (.inr ⟨z, i, cc, rfl, rfl, e1, e2, q F H _ (Xt.refl S) (.str _)⟩)
    | _ => simp [vIx] at e
  | _ => simp [vIx] at e

/-! ### slices -/
def oPart (d : Ev → MM D) : Ev → MM (Option Int) := fun ρ ω => (d ρ ω).bind fun a w => match a with
  | .int i => .ok (some i) w
  | _ => .bad
def oNone : Ev → MM (Option Int) := fun _ ω => .ok none ω
def TDo (c : CM) (W : WX) (m : Md) (d : Ev → MM (Option Int)) : TO := fun σ H Q => ∃ F ρ ω, SR c m F ρ ω σ H ∧ Post c W F H σ (fun b _ H' _ => Q b H') (d ρ ω)
def cutD (xs : List D) (lo hi : Option Int) : List D := (xs.drop (HT.sIx xs.length 0 lo)).take (HT.sIx xs.length xs.length hi - HT.sIx xs.length 0 lo)
def vSl : D → Option Int → Option Int → Option D
  | .list xs, lo, hi => some (.list (cutD xs lo hi))
  | .tuple xs, lo, hi => some (.tuple (cutD xs lo hi))
  | _, _, _ => none
def eSl (d : Ev → MM D) (dl dh : Ev → MM (Option Int)) : Ev → MM D := fun ρ ω => (d ρ ω).bind fun a w => (dl ρ w).bind fun l w => (dh ρ w).bind fun h w => ofO (vSl a l h) w
section
variable {c : CM} {W : WX} {m : Md} {X : Cx} {e : Expr} {lo hi : Option Expr} {pos p2 : Pos}
theorem o_none : PO X none (TDo c W m oNone) := ⟨fun pins s σ H Q I ⟨F, ρ, ω, S, q⟩ => po_none.run pins s σ H Q I (q F H (Xt.refl S.fh) S.bo)⟩
theorem o_some {d : Ev → MM D} (h : E c W m X e d) : PO X (some e) (TDo c W m (oPart d)) := ⟨fun pins s σ H Q I ⟨F, ρ, ω, S, q⟩ => (po_some h).run pins s σ H Q I ⟨F, ρ, ω, S, bindT S Post.pg q fun a F1 H1 w1 x1 S1 q1 x r1 => by
  cases r1 with
  | int i => exact ⟨i, rfl, q1 F1 H1 (Xt.refl S1.fh) S1.bo⟩
  | _ => exact q1.elim⟩⟩
theorem RpL.cut {K : PySem.W.Frag} {F : Hp} {xs : List V} {ds : List D} (h : RpL K F xs ds) (lo hi : Option Int) : RpL K F (cutV xs lo hi) (cutD ds lo hi) := by
  unfold cutV cutD
  rw [h.length]
  exact (h.drop _).take _
theorem e_sl {d : Ev → MM D} {dl dh : Ev → MM (Option Int)} (hk : X.K = c.K) (h : E c W m X e d) (hl : PO X lo (TDo c W m dl)) (hh : PO X hi (TDo c W m dh)) : E c W m X (.Subscript e (.Slice lo hi none p2) pos) (eSl d dl dh) :=
  PEimp (pe_slice (SlR.or sl_list sl_tupA) h hl hh) fun σ H Q ⟨F, ρ, ω, S, q⟩ => ⟨F, ρ, ω, S, bindT S Post.pg q fun a F1 H1 w1 x1 S1 q1 x r1 =>
    ⟨F1, ρ, w1, S1, bindT S1 Post.pg q1 fun l F2 H2 w2 x2 S2 q2 => ⟨F2, ρ, w2, S2, bindT S2 Post.pg q2 fun u F3 H3 w3 x3 S3 q3 => by
      obtain ⟨z, e1, q4⟩ := post_ofO S3.fh S3.bo q3
      have r3 := (r1.mono x2.ff).mono x3.ff
      cases r3 with
      | lst h1 h2 =>
        simp only [vSl, Option.some.injEq] at e1
        subst e1
        refine .inl ⟨_, _, rfl, SqL.of (S3.fh _ _ h1), fun p np => ?_⟩
        exact rp_new_lst S3.fh np (h2.cut l u) fun F' H' z' xt rz => q4 F' H' xt z' rz
      | tup h1 h2 =>
        simp only [vSl, Option.some.injEq] at e1
        subst e1
        refine .inr ⟨_, _, rfl, by rw [hk]; exact sameT S3.fh h1, fun hw => ?_, fun hw p np => ?_⟩
        · refine q4 F3 H3 (Xt.refl S3.fh) _ (.tup h1 ?_)
          have r4 := h2.cut l u
          unfold cutV at r4
          rw [hw.1, hw.2] at r4
          simpa using r4
        · exact rp_new_tup S3.fh np (h2.cut l u) fun F' H' z' xt rz => q4 F' H' xt z' rz
      | _ => simp [vSl] at e1⟩⟩⟩
end

/-! ### calls of built-ins by values -/
def fLen : List D → Option D
  | [.list xs] => some (.int xs.length)
  | [.tuple xs] => some (.int xs.length)
  | [.str z] => if z.length ≤ sizeLine then some (.int z.length) else none
  | _ => none
def fAbs : List D → Option D
  | [.int i] => some (.int (if i < 0 then -i else i))
  | _ => none
def fInt : List D → Option D
  | [.int i] => some (.int i)
  | [.bool b] => some (.int (if b then 1 else 0))
  | _ => none
def fMax2 : List D → Option D
  | [.int i, .int j] => some (.int (if j > i then j else i))
  | _ => none
def fMin2 : List D → Option D
  | [.int i, .int j] => some (.int (if j < i then j else i))
  | _ => none
def fList : List D → Option D
  | [.list xs] => some (.list xs)
  | [.tuple xs] => some (.list xs)
  | _ => none
def fTuple : List D → Option D
  | [.list xs] => some (.tuple xs)
  | [.tuple xs] => some (.tuple xs)
  | _ => none
def fSum : List D → Option D
  | [.list xs] => (intsOf xs).map fun ns => .int ns.sum
  | _ => none
def fAll : List D → Option D
  | [.list xs] => (boolsOf xs).map fun ns => .bool (ns.all id)
  | _ => none
def fAny : List D → Option D
  | [.list xs] => (boolsOf xs).map fun ns => .bool (ns.any id)
  | _ => none
def maxI : List Int → Option Int
  | [] => none
  | x :: r => some (r.foldl max x)
def minI : List Int → Option Int
  | [] => none
  | x :: r => some (r.foldl min x)
def fMax : List D → Option D
  | [.list xs] => (intsOf xs).bind fun ns => (maxI ns).map .int
  | _ => none
def fMin : List D → Option D
  | [.list xs] => (intsOf xs).bind fun ns => (minI ns).map .int
  | _ => none
def insI (x : Int) : List Int → List Int
  | [] => [x]
  | y :: r => if x ≤ y then x :: y :: r else y :: insI x r
def sortI : List Int → List Int
  | [] => []
  | x :: r => insI x (sortI r)
def fSorted : List D → Option D
  | [.list xs] => (intsOf xs).map fun ns => .list ((sortI ns).map .int)
  | _ => none
theorem insI_perm (x : Int) : ∀ l, (insI x l).Perm (x :: l)
  | [] => .refl _
  | y :: r => by
    unfold insI
    split
    · exact .refl _
    · exact ((insI_perm x r).cons y).trans (.swap _ _ _)
theorem sortI_perm : ∀ l, (sortI l).Perm l
  | [] => .refl _
  | x :: r => (insI_perm x _).trans ((sortI_perm r).cons x)
theorem insI_sorted (x : Int) : ∀ {l : List Int}, l.Pairwise (· ≤ ·) → (insI x l).Pairwise (· ≤ ·)
  | [], _ => by simp [insI]
  | y :: r, h => by
    unfold insI
    rw [List.pairwise_cons] at h
    split
    · rename_i hxy
      refine List.pairwise_cons.mpr ⟨fun z hz => ?_, List.pairwise_cons.mpr h⟩
      rcases List.mem_cons.mp hz with rfl | hz
      · exact hxy
      · exact Int.le_trans hxy (h.1 z hz)
    · rename_i hxy
      refine List.pairwise_cons.mpr ⟨fun z hz => ?_, insI_sorted x h.2⟩
      rcases List.mem_cons.mp ((insI_perm x r).mem_iff.mp hz) with rfl | hz
      · omega
      · exact h.1 z hz
theorem sortI_sorted : ∀ l : List Int, (sortI l).Pairwise (· ≤ ·)
  | [] => .nil
  | x :: r => insI_sorted x (sortI_sorted r)
theorem sorted_eq {l l' : List Int} (p : l.Perm l') (h : l.Pairwise (· ≤ ·)) (h' : l'.Pairwise (· ≤ ·)) : l = l' := p.eq_of_pairwise (fun _ _ _ _ a b => Int.le_antisymm a b) h h'
theorem foldl_max_mem : ∀ (r : List Int) (x : Int), r.foldl max x ∈ x :: r ∧ ∀ y ∈ x :: r, y ≤ r.foldl max x
  | [], x => by simp
  | z :: r, x => by
    obtain ⟨h1, h2⟩ := foldl_max_mem r (max x z)
    refine ⟨?_, fun y hy => ?_⟩
    · simp only [List.foldl_cons]
      rcases List.mem_cons.mp h1 with h | h
      · rw [h]; simp only [List.mem_cons]; omega
      · simp [h]
    · simp only [List.foldl_cons]
      have h3 := h2 (max x z) (by simp)
      simp only [List.mem_cons] at hy
      rcases hy with rfl | rfl | hy
      · omega
      · omega
      · exact h2 y (by simp [hy])
theorem foldl_min_mem : ∀ (r : List Int) (x : Int), r.foldl min x ∈ x :: r ∧ ∀ y ∈ x :: r, r.foldl min x ≤ y
  | [], x => by simp
  | z :: r, x => by
    obtain ⟨h1, h2⟩ := foldl_min_mem r (min x z)
    refine ⟨?_, fun y hy => ?_⟩
    · simp only [List.foldl_cons]
      rcases List.mem_cons.mp h1 with h | h
      · rw [h]; simp only [List.mem_cons]; omega
      · simp [h]
    · simp only [List.foldl_cons]
      have h3 := h2 (min x z) (by simp)
      simp only [List.mem_cons] at hy
      rcases hy with rfl | rfl | hy
      · omega
      · omega
      · exact h2 y (by simp [hy])
section
variable {K K' : PySem.W.Frag}
theorem v_len (hk : K' = K) : VAr K (fun xs H Q => ∃ x n, xs = [x] ∧ LenV K' x H n ∧ Q (.int n) H) fLen := by
  subst hk
  intro F H xs as v Q S r e q
  match as, e, r with
  | [.list ds], e, r =>
    obtain ⟨u, rfl, r1⟩ := r.one
    obtain ⟨a, ys, rfl, h1, h2⟩ := r1.vlst
    simp only [fLen, Option.some.injEq] at e
    subst e
    exact ⟨_, ds.length, rfl, .inl ⟨ys, SqL.of (S _ _ h1), h2.length.symm⟩, q F H _ (Xt.refl S) (.int _)⟩
  | [.tuple ds], e, r =>
    obtain ⟨u, rfl, r1⟩ := r.one
    obtain ⟨a, ys, rfl, h1, h2⟩ := r1.vtup
    simp only [fLen, Option.some.injEq] at e
    subst e
    exact ⟨_, ds.length, rfl, .inr ⟨ys, sameT S h1, h2.length.symm⟩, q F H _ (Xt.refl S) (.int _)⟩
  | [.str z], e, r =>
    obtain ⟨u, rfl, r1⟩ := r.one
    cases r1
    simp only [fLen, Option.ite_none_right_eq_some, Option.some.injEq] at e
    obtain ⟨e1, e⟩ := e
    subst e
    exact ⟨_, z.length, rfl, ⟨e1, rfl⟩, q F H _ (Xt.refl S) (.int _)⟩
theorem v_abs : VAr K (fun xs H Q => ∃ i, xs = [.int i] ∧ Q (.int (if i < 0 then -i else i)) H) fAbs := by
  intro F H xs as v Q S r e q
  match as, e, r with
  | [.int i], e, r =>
    obtain ⟨u, rfl, r1⟩ := r.one
    cases r1
    simp only [fAbs, Option.some.injEq] at e
    subst e
    exact ⟨i, rfl, q F H _ (Xt.refl S) (.int _)⟩
theorem v_int1 : VAr K (fun xs H Q => (∃ i, xs = [.int i] ∧ Q (.int i) H) ∨ ∃ k : Bool, xs = [.bl k] ∧ Q (.int (if k then 1 else 0)) H) fInt := by
  intro F H xs as v Q S r e q
  match as, e, r with
  | [.int i], e, r =>
    obtain ⟨u, rfl, r1⟩ := r.one
    cases r1
    simp only [fInt, Option.some.injEq] at e
    subst e
    exact .inl ⟨i, rfl, q F H _ (Xt.refl S) (.int _)⟩
  | [.bool i], e, r =>
    obtain ⟨u, rfl, r1⟩ := r.one
    cases r1
    simp only [fInt, Option.some.injEq] at e
    subst e
    exact .inr ⟨i, rfl, q F H _ (Xt.refl S) (.int _)⟩
theorem v_max2 : VAr K (fun xs H Q => ∃ i j, xs = [.int i, .int j] ∧ Q (.int (if j > i then j else i)) H) fMax2 := by
  intro F H xs as v Q S r e q
  match as, e, r with
  | [.int i, .int j], e, r =>
    obtain ⟨u, u', rfl, r1, r2⟩ := r.two
    cases r1
    cases r2
    simp only [fMax2, Option.some.injEq] at e
    subst e
    exact ⟨i, j, rfl, q F H _ (Xt.refl S) (.int _)⟩
theorem v_min2 : VAr K (fun xs H Q => ∃ i j, xs = [.int i, .int j] ∧ Q (.int (if j < i then j else i)) H) fMin2 := by
  intro F H xs as v Q S r e q
  match as, e, r with
  | [.int i, .int j], e, r =>
    obtain ⟨u, u', rfl, r1, r2⟩ := r.two
    cases r1
    cases r2
    simp only [fMin2, Option.some.injEq] at e
    subst e
    exact ⟨i, j, rfl, q F H _ (Xt.refl S) (.int _)⟩
theorem v_list (hk : K' = K) : VAr K (fun xs H Q => ∃ p ys, xs = [.ref p] ∧ (SqL K' H p ys ∨ SqT K' H p ys) ∧ ∀ l, H l = none → Q (.ref l) (upd H l (.lst ys))) fList := by
  subst hk
  intro F H xs as v Q S r e q
  match as, e, r with
  | [.list ds], e, r =>
    obtain ⟨u, rfl, r1⟩ := r.one
    obtain ⟨a, ys, rfl, h1, h2⟩ := r1.vlst
    simp only [fList, Option.some.injEq] at e
    subst e
    exact ⟨_, ys, rfl, .inl (SqL.of (S _ _ h1)), fun p np => rp_new_lst S np h2 q⟩
  | [.tuple ds], e, r =>
    obtain ⟨u, rfl, r1⟩ := r.one
    obtain ⟨a, ys, rfl, h1, h2⟩ := r1.vtup
    simp only [fList, Option.some.injEq] at e
    subst e
    exact ⟨_, ys, rfl, .inr (sameT S h1), fun p np => rp_new_lst S np h2 q⟩
theorem v_tuple (hk : K' = K) : VAr K (fun xs H Q => ∃ p ys, xs = [.ref p] ∧ ((SqL K' H p ys ∧ ∀ l, H l = none → Q (.ref l) (upd H l (.tup ys))) ∨ (SqT K' H p ys ∧ Q (.ref p) H))) fTuple := by
  subst hk
  intro F H xs as v Q S r e q
  match as, e, r with
  | [.list ds], e, r =>
    obtain ⟨u, rfl, r1⟩ := r.one
    obtain ⟨a, ys, rfl, h1, h2⟩ := r1.vlst
    simp only [fTuple, Option.some.injEq] at e
    subst e
    exact ⟨_, ys, rfl, .inl ⟨SqL.of (S _ _ h1), fun p np => rp_new_tup S np h2 q⟩⟩
  | [.tuple ds], e, r =>
    obtain ⟨u, rfl, r1⟩ := r.one
    obtain ⟨a, ys, rfl, h1, h2⟩ := r1.vtup
    simp only [fTuple, Option.some.injEq] at e
    subst e
    exact ⟨_, ys, rfl, .inr ⟨sameT S h1, q F H _ (Xt.refl S) (.tup h1 h2)⟩⟩
theorem ints_arg (hk : K' = K) {F H : Hp} {xs : List V} {ds : List D} {ns : List Int} (S : Same F H) (r : RpL K F xs [.list ds]) (e : intsOf ds = some ns) : ∃ a, xs = [V.ref a] ∧ SqL K' H a (ns.map V.int) := by
  obtain ⟨u, rfl, r1⟩ := r.one
  obtain ⟨a, ys, rfl, h1, h2⟩ := r1.vlst
  rw [intsOf_eq e] at h2
  rw [h2.ints] at h1
  exact ⟨a, rfl, SqL.of (S _ _ h1)⟩
theorem bools_arg (hk : K' = K) {F H : Hp} {xs : List V} {ds : List D} {ns : List Bool} (S : Same F H) (r : RpL K F xs [.list ds]) (e : boolsOf ds = some ns) : ∃ a, xs = [V.ref a] ∧ SqL K' H a (ns.map V.bl) := by
  obtain ⟨u, rfl, r1⟩ := r.one
  obtain ⟨a, ys, rfl, h1, h2⟩ := r1.vlst
  rw [boolsOf_eq e] at h2
  rw [h2.bools] at h1
  exact ⟨a, rfl, SqL.of (S _ _ h1)⟩
theorem v_sum (hk : K' = K) : VAr K (rSum K') fSum := by
  intro F H xs as v Q S r e q
  match as, e, r with
  | [.list ds], e, r =>
    simp only [fSum, Option.map_eq_some_iff] at e
    obtain ⟨ns, e1, e2⟩ := e
    subst e2
    obtain ⟨a, rfl, h⟩ := ints_arg hk S r e1
    exact ⟨a, ns, rfl, h, q F H _ (Xt.refl S) (.int _)⟩
theorem v_max (hk : K' = K) : VAr K (rMax K') fMax := by
  intro F H xs as v Q S r e q
  match as, e, r with
  | [.list ds], e, r =>
    simp only [fMax, Option.bind_eq_some_iff, Option.map_eq_some_iff] at e
    obtain ⟨ns, e1, mm, e2, e3⟩ := e
    subst e3
    obtain ⟨a, rfl, h⟩ := ints_arg hk S r e1
    cases ns with
    | nil => simp [maxI] at e2
    | cons n ns =>
      simp only [maxI, Option.some.injEq] at e2
      obtain ⟨g1, g2⟩ := foldl_max_mem ns n
      rw [e2] at g1 g2
      refine ⟨a, n :: ns, rfl, h, by simp, fun m1 k1 k2 => ?_⟩
      have : m1 = mm := Int.le_antisymm (g2 _ k1) (k2 _ g1)
      subst this
      exact q F H _ (Xt.refl S) (.int _)
theorem v_min (hk : K' = K) : VAr K (rMin K') fMin := by
  intro F H xs as v Q S r e q
  match as, e, r with
  | [.list ds], e, r =>
    simp only [fMin, Option.bind_eq_some_iff, Option.map_eq_some_iff] at e
    obtain ⟨ns, e1, mm, e2, e3⟩ := e
    subst e3
    obtain ⟨a, rfl, h⟩ := ints_arg hk S r e1
    cases ns with
    | nil => simp [minI] at e2
    | cons n ns =>
      simp only [minI, Option.some.injEq] at e2
      obtain ⟨g1, g2⟩ := foldl_min_mem ns n
      rw [e2] at g1 g2
      refine ⟨a, n :: ns, rfl, h, by simp, fun m1 k1 k2 => ?_⟩
      have : m1 = mm := Int.le_antisymm (k2 _ g1) (g2 _ k1)
      subst this
      exact q F H _ (Xt.refl S) (.int _)
theorem v_sorted (hk : K' = K) : VAr K (rSortedI K') fSorted := by
  intro F H xs as v Q S r e q
  match as, e, r with
  | [.list ds], e, r =>
    simp only [fSorted, Option.map_eq_some_iff] at e
    obtain ⟨ns, e1, e2⟩ := e
    subst e2
    obtain ⟨a, rfl, h⟩ := ints_arg hk S r e1
    refine ⟨a, ns, rfl, h, fun ns' p h1 h2 np => ?_⟩
    have : ns' = sortI ns := sorted_eq (h1.trans (sortI_perm ns).symm) h2 (sortI_sorted ns)
    subst this
    exact rp_new_lst S np (RpL.of_ints _) q
theorem v_all (hk : K' = K) : VAr K (fun vs H Q => ∃ (a : Addr) (bs : List Bool), vs = [V.ref a] ∧ SqL K' H a (bs.map V.bl) ∧ Q (.bl (bs.all id)) H) fAll := by
  intro F H xs as v Q S r e q
  match as, e, r with
  | [.list ds], e, r =>
    simp only [fAll, Option.map_eq_some_iff] at e
    obtain ⟨ns, e1, e2⟩ := e
    subst e2
    obtain ⟨a, rfl, h⟩ := bools_arg hk S r e1
    exact ⟨a, ns, rfl, h, q F H _ (Xt.refl S) (.bl _)⟩
theorem v_any (hk : K' = K) : VAr K (fun vs H Q => ∃ (a : Addr) (bs : List Bool), vs = [V.ref a] ∧ SqL K' H a (bs.map V.bl) ∧ Q (.bl (bs.any id)) H) fAny := by
  intro F H xs as v Q S r e q
  match as, e, r with
  | [.list ds], e, r =>
    simp only [fAny, Option.map_eq_some_iff] at e
    obtain ⟨ns, e1, e2⟩ := e
    subst e2
    obtain ⟨a, rfl, h⟩ := bools_arg hk S r e1
    exact ⟨a, ns, rfl, h, q F H _ (Xt.refl S) (.bl _)⟩
end
end M

set_option Elab.async false
set_option linter.all false
set_option maxRecDepth 100000
set_option maxHeartbeats 4000000
namespace M
open PySem PySem.Spec PyProof.Rows L2

inductive Fl where
  | next (ρ : Ev)
  | ret (d : D)
  | brk (ρ : Ev)
  | cont (ρ : Ev)
def put (ρ : Ev) (i : Nat) (d : D) : Ev := ρ.set i (some d)
def Md.del (m : Md) (i : Nat) : Md := { m with O := m.O.filter (· != i) }
def Md.add (m : Md) (i : Nat) : Md := { m with O := i :: m.O.filter (· != i) }
theorem mem_del {m : Md} {i j : Nat} : j ∈ (m.del i).O ↔ j ∈ m.O ∧ j ≠ i := by simp [Md.del]
theorem mem_add {m : Md} {i j : Nat} : j ∈ (m.add i).O ↔ j = i ∨ (j ∈ m.O ∧ j ≠ i) := by simp [Md.add]
def PostS (c : CM) (W : WX) (mn mb mc : Md) (F : Hp) (D' : Ends) : Res Fl → Prop
  | .bad => False
  | .ok (.next ρ) ω => ∀ F' σ' H', Same F F' → SR c mn F' ρ ω σ' H' → D'.nx σ' H'
  | .ok (.brk ρ) ω => ∀ F' σ' H', Same F F' → SR c mb F' ρ ω σ' H' → D'.bk σ' H'
  | .ok (.cont ρ) ω => ∀ F' σ' H', Same F F' → SR c mc F' ρ ω σ' H' → D'.ct σ' H'
  | .ok (.ret d) ω => ∀ F' H' x, Same F F' → Frm c F' ω H' → Rp c.K F' x d → D'.rt x H'
  | .exc e ω => ∀ F' σ' H' cls dd, Same F F' → Frm c F' ω H' → RepX c e cls dd H' → W cls dd σ' H'
theorem PostS.mono {c : CM} {W : WX} {mn mb mc : Md} {F F1 : Hp} {D' : Ends} (x : Same F F1) : ∀ {r : Res Fl}, PostS c W mn mb mc F D' r → PostS c W mn mb mc F1 D' r
  | .bad, h => h
  | .ok (.next _) _, h => fun F' σ' H' s => h F' σ' H' (x.trans s)
  | .ok (.brk _) _, h => fun F' σ' H' s => h F' σ' H' (x.trans s)
  | .ok (.cont _) _, h => fun F' σ' H' s => h F' σ' H' (x.trans s)
  | .ok (.ret _) _, h => fun F' H' z s => h F' H' z (x.trans s)
  | .exc _ _, h => fun F' σ' H' cls dd s => h F' σ' H' cls dd (x.trans s)
def GS (c : CM) (W : WX) (mn mb mc : Md) (D' : Ends) (F H : Hp) (r : Res Fl) : Prop := Xt c.b c.F0 c.H0 F H ∧ PostS c W mn mb mc F D' r
theorem GS.pg {c : CM} {W : WX} {mn mb mc : Md} {D' : Ends} {σ : L2.St} : PGd c W σ (GS c W mn mb mc D') where
  bad := fun _ _ h => h.2
  exc := fun F H e ω h F' H' cls dd x bo r => h.2 F' σ H' cls dd x.ff ⟨h.1.trans x, bo⟩ r
  mono := fun F H F1 H1 r x h => ⟨h.1.trans x, h.2.mono x.ff⟩
def TSD (c : CM) (W : WX) (m mn mb mc : Md) (d : Ev → MM Fl) : TS := fun D' σ H => ∃ F ρ ω, SR c m F ρ ω σ H ∧ PostS c W mn mb mc F D' (d ρ ω)

/-! ### storing into slots -/
section
variable {c : CM} {m : Md} {F : Hp} {ρ : Ev} {ω : Wd} {σ : L2.St} {H : Hp}
theorem set_some {α : Type} {l : List (Option α)} {i j : Nat} {v w : α} (h : (l.set i (some v))[j]? = some (some w)) : (j = i ∧ v = w) ∨ (j ≠ i ∧ l[j]? = some (some w)) := by
  by_cases e : i = j
  · subst e
    by_cases hl : i < l.length
    · rw [List.getElem?_set_self hl] at h
      simp at h
      exact .inl ⟨rfl, h⟩
    · rw [List.getElem?_eq_none (by simpa using hl)] at h
      cases h
  · rw [List.getElem?_set_ne e] at h
    exact .inr ⟨fun z => e z.symm, h⟩
theorem lt_of_some {l : List (Option D)} {i : Nat} {x : Option D} (h : l[i]? = some x) : i < l.length := (List.getElem?_eq_some_iff.mp h).1
theorem SR.putD (S : SR c m F ρ ω σ H) {i : Nat} {d : D} {v : V} (r : Rp c.K F v d) (hb : m.B ≠ some i) : SR c (m.del i) F (put ρ i d) ω (σ.set i (some v)) H where
  fr := S.fr
  len := by simp [M.put, S.len]
  dat := fun j d' e n => by
    rcases set_some e with ⟨h1, h2⟩ | ⟨h1, h2⟩
    · subst h1 h2
      have hl : j < σ.length := by
        rw [← S.len]
        have := lt_of_some e
        simpa [M.put] using this
      exact ⟨v, by rw [List.getElem?_set_self hl], r⟩
    · have n' : j ∉ m.O := fun z => n (mem_del.mpr ⟨z, h1⟩)
      obtain ⟨u, h3, h4⟩ := S.dat j d' h2 n'
      exact ⟨u, by rw [List.getElem?_set_ne (Ne.symm h1)]; exact h3, h4⟩
  own := fun j d' e n => by
    obtain ⟨n1, n2⟩ := mem_del.mp n
    rcases set_some e with ⟨h1, h2⟩ | ⟨h1, h2⟩
    · exact absurd h1 n2
    · obtain ⟨l, us, ds, g1, g⟩ := S.own j d' h2 n1
      exact ⟨l, us, ds, by rw [List.getElem?_set_ne (Ne.symm h1)]; exact g1, g⟩
  sep := fun j k l dj dk oj ok ej ek sj sk => by
    obtain ⟨n1, n2⟩ := mem_del.mp oj
    obtain ⟨n3, n4⟩ := mem_del.mp ok
    rw [List.getElem?_set_ne (Ne.symm n2)] at sj
    rw [List.getElem?_set_ne (Ne.symm n4)] at sk
    have ej' : ρ[j]? = some (some dj) := by rw [← ej]; exact (List.getElem?_set_ne (Ne.symm n2)).symm
    have ek' : ρ[k]? = some (some dk) := by rw [← ek]; exact (List.getElem?_set_ne (Ne.symm n4)).symm
    exact S.sep j k l dj dk n1 n3 ej' ek' sj sk
  bsl := fun j e => by
    have hne : i ≠ j := fun z => hb (by rw [z]; exact e)
    obtain ⟨h1, b, h2, h3⟩ := S.bsl j e
    exact ⟨by show (ρ.set i (some d))[j]? = _; rw [List.getElem?_set_ne hne]; exact h1, b, h2, by rw [List.getElem?_set_ne hne]; exact h3⟩
/-- a list of one's own goes into a slot -/
theorem SR.putOwn (S : SR c m F ρ ω σ H) {i : Nat} {ds : List D} {l : Addr} {us : List V} (h0 : c.H0 l = none) (h1 : F l = none) (h2 : H l = some (.lst us)) (h3 : RpL c.K F us ds) (hb : m.B ≠ some i)
    (hs : ∀ j dj, j ≠ i → j ∈ m.O → ρ[j]? = some (some dj) → σ[j]? ≠ some (some (.ref l))) : SR c (m.add i) F (put ρ i (.list ds)) ω (σ.set i (some (.ref l))) H where
  fr := S.fr
  len := by simp [M.put, S.len]
  dat := fun j d' e n => by
    rcases set_some e with ⟨g1, g2⟩ | ⟨g1, g2⟩
    · exact absurd (mem_add.mpr (.inl g1)) n
    · have n' : j ∉ m.O := fun z => n (mem_add.mpr (.inr ⟨z, g1⟩))
      obtain ⟨u, g3, g4⟩ := S.dat j d' g2 n'
      exact ⟨u, by rw [List.getElem?_set_ne (Ne.symm g1)]; exact g3, g4⟩
  own := fun j d' e n => by
    rcases set_some e with ⟨g1, g2⟩ | ⟨g1, g2⟩
    · subst g1 g2
      have hl : j < σ.length := by
        rw [← S.len]
        have := lt_of_some e
        simpa [M.put] using this
      exact ⟨l, us, ds, by rw [List.getElem?_set_self hl], rfl, h0, h1, h2, h3⟩
    · have n' : j ∈ m.O := by
        rcases mem_add.mp n with z | z
        · exact absurd z g1
        · exact z.1
      obtain ⟨l', us', ds', k1, k⟩ := S.own j d' g2 n'
      exact ⟨l', us', ds', by rw [List.getElem?_set_ne (Ne.symm g1)]; exact k1, k⟩
  sep := fun j k a dj dk oj ok ej ek sj sk => by
    by_cases hj : j = i
    · by_cases hk : k = i
      · rw [hj, hk]
      · exfalso
        subst hj
        have hl : j < σ.length := (List.getElem?_eq_some_iff.mp sj).1 |> fun z => by simpa using z
        rw [List.getElem?_set_self hl] at sj
        simp at sj
        subst sj
        rw [List.getElem?_set_ne (Ne.symm hk)] at sk
        have ek' : ρ[k]? = some (some dk) := by rw [← ek]; exact (List.getElem?_set_ne (Ne.symm hk)).symm
        rcases mem_add.mp ok with z | z
        · exact hk z
        · exact hs k dk hk z.1 ek' sk
    · by_cases hk : k = i
      · exfalso
        subst hk
        have hl : k < σ.length := (List.getElem?_eq_some_iff.mp sk).1 |> fun z => by simpa using z
        rw [List.getElem?_set_self hl] at sk
        simp at sk
        subst sk
        rw [List.getElem?_set_ne (Ne.symm hj)] at sj
        have ej' : ρ[j]? = some (some dj) := by rw [← ej]; exact (List.getElem?_set_ne (Ne.symm hj)).symm
        rcases mem_add.mp oj with z | z
        · exact hj z
        · exact hs j dj hj z.1 ej' sj
      · rw [List.getElem?_set_ne (Ne.symm hj)] at sj
        rw [List.getElem?_set_ne (Ne.symm hk)] at sk
        have ej' : ρ[j]? = some (some dj) := by rw [← ej]; exact (List.getElem?_set_ne (Ne.symm hj)).symm
        have ek' : ρ[k]? = some (some dk) := by rw [← ek]; exact (List.getElem?_set_ne (Ne.symm hk)).symm
        have oj' := (mem_add.mp oj).resolve_left hj
        have ok' := (mem_add.mp ok).resolve_left hk
        exact S.sep j k a dj dk oj'.1 ok'.1 ej' ek' sj sk
  bsl := fun j e => by
    have hne : i ≠ j := fun z => hb (by rw [z]; exact e)
    obtain ⟨g1, b, g2, g3⟩ := S.bsl j e
    exact ⟨by show (ρ.set i (some (.list ds)))[j]? = _; rw [List.getElem?_set_ne hne]; exact g1, b, g2, by rw [List.getElem?_set_ne hne]; exact g3⟩
/-- a list of one's own is frozen -/
theorem SR.freeze (S : SR c m F ρ ω σ H) (i : Nat) : ∃ F', Same F F' ∧ SR c (m.del i) F' ρ ω σ H := by
  by_cases hi : i ∈ m.O
  · cases hρ : ρ[i]? with
    | none =>
      refine ⟨F, Same.refl _, S.fr, S.len, fun j d e n => ?_, fun j d e n => S.own j d e (mem_del.mp n).1, fun j k l dj dk oj ok => S.sep j k l dj dk (mem_del.mp oj).1 (mem_del.mp ok).1, S.bsl⟩
      by_cases hj : j = i
      · rw [hj, hρ] at e; cases e
      · exact S.dat j d e fun z => n (mem_del.mpr ⟨z, hj⟩)
    | some o =>
      cases o with
      | none =>
        refine ⟨F, Same.refl _, S.fr, S.len, fun j d e n => ?_, fun j d e n => S.own j d e (mem_del.mp n).1, fun j k l dj dk oj ok => S.sep j k l dj dk (mem_del.mp oj).1 (mem_del.mp ok).1, S.bsl⟩
        by_cases hj : j = i
        · rw [hj, hρ] at e; cases e
        · exact S.dat j d e fun z => n (mem_del.mpr ⟨z, hj⟩)
      | some d0 =>
        obtain ⟨l, us, ds, g1, g2, g3, g4, g5, g6⟩ := S.own i d0 hρ hi
        have sF : Same F (upd F l (.lst us)) := same_upd g4
        have fH : Same (upd F l (.lst us)) H := fun a o e => by
          by_cases ha : a = l
          · subst ha; rw [upd_same] at e; cases e; exact g5
          · rw [upd_ne ha] at e; exact S.fh _ _ e
        refine ⟨upd F l (.lst us), sF, ⟨⟨S.fr.xt.ff.trans sF, fH, S.fr.xt.keep, S.fr.xt.dom, fun a h => ?_⟩, fun b e => ?_⟩, S.len, fun j d e n => ?_, fun j d e n => ?_, fun j k a dj dk oj ok => S.sep j k a dj dk (mem_del.mp oj).1 (mem_del.mp ok).1, S.bsl⟩
        · have ha : a ≠ l := fun z => h (z ▸ g3)
          rw [upd_ne ha]; exact S.fr.xt.new a h
        · obtain ⟨k0, k1, us', k2, k3⟩ := S.bo b e
          have hbl : b ≠ l := fun z => k0 (z ▸ g3)
          exact ⟨k0, by rw [upd_ne hbl]; exact k1, us', k2, k3.mono sF⟩
        · by_cases hj : j = i
          · subst hj
            rw [hρ] at e
            cases e
            exact ⟨_, g1, by rw [g2]; exact .lst upd_same (g6.mono sF)⟩
          · obtain ⟨u, k1, k2⟩ := S.dat j d e fun z => n (mem_del.mpr ⟨z, hj⟩)
            exact ⟨u, k1, k2.mono sF⟩
        · obtain ⟨n1, n2⟩ := mem_del.mp n
          obtain ⟨l', us', ds', k1, k2, k3, k4, k5, k6⟩ := S.own j d e n1
          have hll : l' ≠ l := fun z => n2 (S.sep j i l d d0 n1 hi e hρ (by rw [← z]; exact k1) g1)
          exact ⟨l', us', ds', k1, k2, k3, by rw [upd_ne hll]; exact k4, k5, k6.mono sF⟩
  · refine ⟨F, Same.refl _, S.fr, S.len, fun j d e n => S.dat j d e fun z => n (mem_del.mpr ⟨z, fun w => hi (w ▸ z)⟩), fun j d e n => S.own j d e (mem_del.mp n).1, fun j k l dj dk oj ok => S.sep j k l dj dk (mem_del.mp oj).1 (mem_del.mp ok).1, S.bsl⟩
/-- a list of one's own is changed -/
theorem SR.write (S : SR c m F ρ ω σ H) {i : Nat} {ds ds' : List D} (hi : i ∈ m.O) (hρ : ρ[i]? = some (some (.list ds))) {l : Addr} {us us' : List V} (g1 : σ[i]? = some (some (.ref l))) (h2 : H l = some (.lst us)) (r : RpL c.K F us' ds') :
    SR c m F (put ρ i (.list ds')) ω σ (upd H l (.lst us')) := by
  obtain ⟨l0, us0, ds0, k1, k2, k3, k4, k5, k6⟩ := S.own i _ hρ hi
  rw [g1] at k1
  simp only [Option.some.injEq, V.ref.injEq] at k1
  subst k1
  have fH : Same F (upd H l (.lst us')) := fun a o e => by
    have ha : a ≠ l := fun z => by rw [z, k4] at e; cases e
    rw [upd_ne ha]; exact S.fh _ _ e
  refine ⟨⟨⟨S.fr.xt.ff, fH, fun a o e n => ?_, fun a h => ?_, S.fr.xt.new⟩, fun b e => ?_⟩, by simp [M.put, S.len], fun j d e n => ?_, fun j d e n => ?_, fun j k a dj dk oj ok ej ek sj sk => ?_, fun j e => ?_⟩
  · have ha : a ≠ l := fun z => by rw [z, k3] at e; cases e
    rw [upd_ne ha]; exact S.fr.xt.keep a o e n
  · by_cases ha : a = l
    · rw [ha, upd_same]; simp
    · rw [upd_ne ha]; exact S.fr.xt.dom a h
  · obtain ⟨b0, b1, bu, b2, b3⟩ := S.bo b e
    have hbl : b ≠ l := fun z => b0 (z ▸ k3)
    exact ⟨b0, b1, bu, by rw [upd_ne hbl]; exact b2, b3⟩
  · rcases set_some e with ⟨z1, z2⟩ | ⟨z1, z2⟩
    · exact absurd (z1 ▸ hi) n
    · exact S.dat j d z2 n
  · rcases set_some e with ⟨z1, z2⟩ | ⟨z1, z2⟩
    · subst z1 z2
      exact ⟨l, us', ds', g1, rfl, k3, k4, upd_same, r⟩
    · obtain ⟨l', us1, ds1, q1, q2, q3, q4, q5, q6⟩ := S.own j d z2 n
      have hll : l' ≠ l := fun z => z1 (S.sep j i l d _ n hi z2 hρ (by rw [← z]; exact q1) g1)
      exact ⟨l', us1, ds1, q1, q2, q3, q4, by rw [upd_ne hll]; exact q5, q6⟩
  · have nn : ∀ {t : Nat} {dt : D}, (put ρ i (.list ds'))[t]? = some (some dt) → ∃ d0, ρ[t]? = some (some d0) := fun {t dt} et => by
      rcases set_some et with ⟨z1, z2⟩ | ⟨z1, z2⟩
      · exact ⟨_, z1 ▸ hρ⟩
      · exact ⟨_, z2⟩
    obtain ⟨d1, e1⟩ := nn ej
    obtain ⟨d2, e2⟩ := nn ek
    exact S.sep j k a d1 d2 oj ok e1 e2 sj sk
  · obtain ⟨q1, b, q2, q3⟩ := S.bsl j e
    have hne : i ≠ j := fun z => by rw [← z, hρ] at q1; cases q1
    exact ⟨by show (ρ.set i _)[j]? = _; rw [List.getElem?_set_ne hne]; exact q1, b, q2, q3⟩
/-- the borrowed list is changed -/
theorem SR.writeB (S : SR c m F ρ ω σ H) {b : Addr} (hb : c.b = some b) {us' : List V} {ω' : Wd} (r : RpL c.K F us' ω') : SR c m F ρ ω' σ (upd H b (.lst us')) := by
  obtain ⟨b0, b1, bu, b2, b3⟩ := S.bo b hb
  refine ⟨⟨⟨S.fr.xt.ff, fun a o e => ?_, fun a o e n => ?_, fun a h => ?_, S.fr.xt.new⟩, fun b' e => ?_⟩, S.len, S.dat, fun j d e n => ?_, S.sep, S.bsl⟩
  · have ha : a ≠ b := fun z => by rw [z, b1] at e; cases e
    rw [upd_ne ha]; exact S.fh _ _ e
  · have ha : a ≠ b := fun z => n (by rw [z]; exact hb)
    rw [upd_ne ha]; exact S.fr.xt.keep a o e n
  · by_cases ha : a = b
    · rw [ha, upd_same]; simp
    · rw [upd_ne ha]; exact S.fr.xt.dom a h
  · rw [hb] at e
    cases e
    exact ⟨b0, b1, us', upd_same, r⟩
  · obtain ⟨l', us1, ds1, q1, q2, q3, q4, q5, q6⟩ := S.own j d e n
    have hll : l' ≠ b := fun z => b0 (z ▸ q3)
    exact ⟨l', us1, ds1, q1, q2, q3, q4, by rw [upd_ne hll]; exact q5, q6⟩
end

/-! ### targets -/
def gN (i : Nat) : D → Ev → Option Ev := fun d ρ => some (put ρ i d)
def gsNil : List D → Ev → Option Ev
  | [], ρ => some ρ
  | _, _ => none
def gsCons (g : D → Ev → Option Ev) (gs : List D → Ev → Option Ev) : List D → Ev → Option Ev
  | d :: ds, ρ => (g d ρ).bind (gs ds)
  | [], _ => none
def gT (gs : List D → Ev → Option Ev) : D → Ev → Option Ev
  | .tuple ds, ρ => gs ds ρ
  | _, _ => none
def Off (is : List Nat) (σ σ' : L2.St) : Prop := σ'.length = σ.length ∧ ∀ j : Nat, j ∉ is → σ'[j]? = σ[j]?
def TGD (c : CM) (m mn : Md) (is : List Nat) (g : D → Ev → Option Ev) : TG := fun v σ H Q => ∃ F ρ ω d ρ', SR c m F ρ ω σ H ∧ Rp c.K F v d ∧ g d ρ = some ρ' ∧ ∀ σ', SR c mn F ρ' ω σ' H → Off is σ σ' → Q σ' H
def TGDs (c : CM) (m mn : Md) (is : List Nat) (g : List D → Ev → Option Ev) : TGs := fun vs σ H Q => ∃ F ρ ω ds ρ', SR c m F ρ ω σ H ∧ RpL c.K F vs ds ∧ g ds ρ = some ρ' ∧ ∀ σ', SR c mn F ρ' ω σ' H → Off is σ σ' → Q σ' H
theorem PGimp {X : Cx} {e : Expr} {t t' : TG} (h : PG X e t) (i : ∀ v σ H Q, t' v σ H Q → t v σ H Q) : PG X e t' := ⟨fun p s σ H v u Q I r q => h.run p s σ H v u Q I r (i _ _ _ _ q)⟩
theorem PGsimp {X : Cx} {e : List Expr} {t t' : TGs} (h : PGs X e t) (i : ∀ v σ H Q, t' v σ H Q → t v σ H Q) : PGs X e t' := ⟨fun p s σ H v u Q I r q => h.run p s σ H v u Q I r (i _ _ _ _ q)⟩
section
variable {c : CM} {W : WX} {m m1 mn mb mc : Md} {X : Cx} {e tg : Expr} {es : List Expr} {pos : Pos}
theorem gN_imp {i : Nat} (hb : m.B ≠ some i) : ∀ v σ H Q, TGD c m (m.del i) [i] (gN i) v σ H Q → gName i v σ H Q := fun v σ H Q ⟨F, ρ, ω, d, ρ', S, r, e, q⟩ => by
  simp only [gN, Option.some.injEq] at e
  subst e
  exact q _ (S.putD r hb) ⟨by simp, fun j hj => List.getElem?_set_ne fun z => hj (by simp [z])⟩
theorem g_name {i : Nat} {x : Str} (h : PG X (.Name x pos) (gName i)) (hb : m.B ≠ some i := by decide) : PG X (.Name x pos) (TGD c m (m.del i) [i] (gN i)) := PGimp h (gN_imp hb)
theorem gs_nil : PGs X [] (TGDs c m m [] gsNil) := PGsimp pgs_nil fun vs σ H Q ⟨F, ρ, ω, ds, ρ', S, r, e, q⟩ => by
  cases ds with
  | nil =>
    simp only [gsNil, Option.some.injEq] at e
    subst e
    cases r
    exact ⟨rfl, q _ S ⟨rfl, fun _ _ => rfl⟩⟩
  | cons d ds => simp [gsNil] at e
theorem gs_cons {is js : List Nat} {g : D → Ev → Option Ev} {gs : List D → Ev → Option Ev} (h : PG X e (TGD c m m1 is g)) (h2 : PGs X es (TGDs c m1 mn js gs))
    (hs : (assignEach (e :: es) X.env).map (·.2) = assign e X.env :: (assignEach es X.env).map (·.2) := by rfl) : PGs X (e :: es) (TGDs c m mn (is ++ js) (gsCons g gs)) := PGsimp (pgs_cons h h2 hs) fun vs σ H Q ⟨F, ρ, ω, ds, ρ', S, r, e, q⟩ => by
  cases ds with
  | nil => simp [gsCons] at e
  | cons d ds =>
    simp only [gsCons, Option.bind_eq_some_iff] at e
    obtain ⟨ρ1, e1, e2⟩ := e
    cases r with
    | cons r1 r2 => exact ⟨_, _, rfl, F, ρ, ω, d, ρ1, S, r1, e1, fun σ' S' o => ⟨F, ρ1, ω, ds, ρ', S', r2, e2, fun σ'' S'' o' => q σ'' S'' ⟨o'.1.trans o.1, fun j hj => (o'.2 j fun z => hj (by simp [z])).trans (o.2 j fun z => hj (by simp [z]))⟩⟩⟩
theorem len_gs {gs : List D → Ev → Option Ev} : ∀ {n : Nat} {ds : List D} {ρ ρ' : Ev}, (∀ ds ρ ρ', gs ds ρ = some ρ' → ds.length = n) → gT gs (.tuple ds) ρ = some ρ' → ds.length = n := fun h e => h _ _ _ e
theorem g_tup {is : List Nat} {k : Nat} {gs : List D → Ev → Option Ev} {n : Nat} (hk : X.K = c.K) (hc : X.calm = true) (h : PGs X es (TGDs c m mn is gs)) (hl : ∀ ds ρ ρ', gs ds ρ = some ρ' → ds.length = n)
    (hn : (assignEach es X.env).length = n := by rfl) (hst : (assignEach es X.env).findIdx? (·.1) = none := by rfl) : PG X (.Tuple es k pos) (TGD c m mn is (gT gs)) := PGimp (pg_tup hc h hn hst) fun v σ H Q ⟨F, ρ, ω, d, ρ', S, r, e, q⟩ => by
  cases r with
  | tup h1 h2 =>
    have e : gs _ ρ = some ρ' := e
    exact ⟨_, _, rfl, by rw [hk]; exact sameT S.fh h1, by rw [h2.length]; exact hl _ _ _ e, F, ρ, ω, _, ρ', S, h2, e, q⟩
  | _ => simp [gT] at e
theorem gl_nil : ∀ ds ρ ρ', gsNil ds ρ = some ρ' → ds.length = 0
  | [], _, _, _ => rfl
  | _ :: _, _, _, h => by simp [gsNil] at h
theorem gl_cons {g : D → Ev → Option Ev} {gs : List D → Ev → Option Ev} {n : Nat} (h : ∀ ds ρ ρ', gs ds ρ = some ρ' → ds.length = n) : ∀ ds ρ ρ', gsCons g gs ds ρ = some ρ' → ds.length = n + 1
  | [], _, _, e => by simp [gsCons] at e
  | d :: ds, ρ, ρ', e => by
    simp only [gsCons, Option.bind_eq_some_iff] at e
    obtain ⟨ρ1, e1, e2⟩ := e
    simp [h _ _ _ e2]
end

/-! ### statements -/
def sAsg (d : Ev → MM D) (g : D → Ev → Option Ev) : Ev → MM Fl := fun ρ ω => (d ρ ω).bind fun v w => (ofO (g v ρ) w).bind fun ρ' w => .ok (.next ρ') w
def sSeq (d1 d2 : Ev → MM Fl) : Ev → MM Fl := fun ρ ω => (d1 ρ ω).bind fun f w => match f with
  | .next ρ' => d2 ρ' w
  | .ret v => .ok (.ret v) w
  | .brk ρ' => .ok (.brk ρ') w
  | .cont ρ' => .ok (.cont ρ') w
def sNext : Ev → MM Fl := fun ρ ω => .ok (.next ρ) ω
def sBrk : Ev → MM Fl := fun ρ ω => .ok (.brk ρ) ω
def sCont : Ev → MM Fl := fun ρ ω => .ok (.cont ρ) ω
def sRet (d : Ev → MM D) : Ev → MM Fl := fun ρ ω => (d ρ ω).bind fun v w => .ok (.ret v) w
def sExpr (d : Ev → MM D) : Ev → MM Fl := fun ρ ω => (d ρ ω).bind fun _ w => .ok (.next ρ) w
def sIf (t : Ev → MM Bool) (d1 d2 : Ev → MM Fl) : Ev → MM Fl := fun ρ ω => (t ρ ω).bind fun b w => match b with
  | true => d1 ρ w
  | false => d2 ρ w
def sPar (i j : Nat) (d1 d2 : Ev → MM D) : Ev → MM Fl := fun ρ ω => (d1 ρ ω).bind fun a w => (d2 ρ w).bind fun b w => .ok (.next (put (put ρ i a) j b)) w
def sPar3 (i j k : Nat) (d1 d2 d3 : Ev → MM D) : Ev → MM Fl := fun ρ ω => (d1 ρ ω).bind fun a w => (d2 ρ w).bind fun b w => (d3 ρ w).bind fun e w => .ok (.next (put (put (put ρ i a) j b) k e)) w
def sAug (i : Nat) (f : D → D → Option D) (d : Ev → MM D) : Ev → MM Fl := fun ρ ω => match look ρ i with
  | none => .bad
  | some a => (d ρ ω).bind fun b w => (ofO (f a b) w).bind fun v w => .ok (.next (put ρ i v)) w
def sRaise (e : Ex) : Ev → MM Fl := fun _ ω => .exc e ω
def sFor (di : Ev → MM (List D)) (g : D → Ev → Option Ev) (db : Ev → MM Fl) : Ev → MM Fl := fun ρ ω => (di ρ ω).bind fun ds w => go ds ρ w
where go : List D → Ev → MM Fl
  | [], ρ, w => .ok (.next ρ) w
  | d :: ds, ρ, w => (ofO (g d ρ) w).bind fun ρ1 w => (db ρ1 w).bind fun f w => match f with
    | .next ρ2 => go ds ρ2 w
    | .cont ρ2 => go ds ρ2 w
    | .brk ρ2 => .ok (.next ρ2) w
    | .ret v => .ok (.ret v) w
def whileN (t : Ev → MM Bool) (db : Ev → MM Fl) : Nat → Ev → MM Fl
  | 0, _, _ => .bad
  | n + 1, ρ, w => (t ρ w).bind fun b w => match b with
    | false => .ok (.next ρ) w
    | true => (db ρ w).bind fun f w => match f with
      | .next ρ2 => whileN t db n ρ2 w
      | .cont ρ2 => whileN t db n ρ2 w
      | .brk ρ2 => .ok (.next ρ2) w
      | .ret v => .ok (.ret v) w
open Classical in
noncomputable def sWhile (t : Ev → MM Bool) (db : Ev → MM Fl) : Ev → MM Fl := fun ρ w =>
  if h : ∃ n, whileN t db n ρ w ≠ .bad then whileN t db h.choose ρ w else .bad
theorem whileN_mono {t : Ev → MM Bool} {db : Ev → MM Fl} : ∀ {n : Nat} {ρ : Ev} {w : Wd}, whileN t db n ρ w ≠ .bad → whileN t db (n + 1) ρ w = whileN t db n ρ w
  | 0, _, _, h => absurd rfl h
  | n + 1, ρ, w, h => by
    rw [whileN] at h ⊢
    conv => rhs; rw [whileN]
    cases e : t ρ w with
    | bad => rw [e] at h; exact absurd rfl h
    | exc x y => rfl
    | ok b w1 =>
      rw [e] at h
      cases b with
      | false => rfl
      | true =>
        simp only [bind_ok] at h ⊢
        cases e2 : db ρ w1 with
        | bad => rw [e2] at h; exact absurd rfl h
        | exc x y => rfl
        | ok f w2 =>
          rw [e2] at h
          simp only [bind_ok] at h ⊢
          cases f with
          | next ρ2 => exact whileN_mono h
          | cont ρ2 => exact whileN_mono h
          | brk ρ2 => rfl
          | ret v => rfl
theorem whileN_le {t : Ev → MM Bool} {db : Ev → MM Fl} {n m : Nat} {ρ : Ev} {w : Wd} (h : whileN t db n ρ w ≠ .bad) (l : n ≤ m) : whileN t db m ρ w = whileN t db n ρ w := by
  induction m with
  | zero => have : n = 0 := by omega
            subst this; rfl
  | succ m ih =>
    by_cases e : n = m + 1
    · rw [e]
    · have i := ih (by omega)
      rw [whileN_mono (by rw [i]; exact h), i]
theorem sWhile_of {t : Ev → MM Bool} {db : Ev → MM Fl} {n : Nat} {ρ : Ev} {w : Wd} (h : whileN t db n ρ w ≠ .bad) : sWhile t db ρ w = whileN t db n ρ w := by
  have hx : ∃ n, whileN t db n ρ w ≠ .bad := ⟨n, h⟩
  unfold sWhile
  rw [dif_pos hx]
  rcases Nat.le_total hx.choose n with l | l
  · exact (whileN_le hx.choose_spec l).symm
  · exact whileN_le h l
theorem sWhile_some {t : Ev → MM Bool} {db : Ev → MM Fl} {ρ : Ev} {w : Wd} (h : sWhile t db ρ w ≠ .bad) : ∃ n, whileN t db n ρ w = sWhile t db ρ w := by
  unfold sWhile at h ⊢
  split at h
  · rename_i hx
    exact ⟨hx.choose, by rw [dif_pos hx]⟩
  · exact absurd rfl h
theorem sWhile_unfold (t : Ev → MM Bool) (db : Ev → MM Fl) (ρ : Ev) (w : Wd) : sWhile t db ρ w = (t ρ w).bind fun b w => match b with
    | false => .ok (.next ρ) w
    | true => (db ρ w).bind fun f w => match f with
      | .next ρ2 => sWhile t db ρ2 w
      | .cont ρ2 => sWhile t db ρ2 w
      | .brk ρ2 => .ok (.next ρ2) w
      | .ret v => .ok (.ret v) w := by
  have fwd : ∀ n, whileN t db n ρ w ≠ .bad → whileN t db n ρ w = (t ρ w).bind fun b w => match b with
    | false => .ok (.next ρ) w
    | true => (db ρ w).bind fun f w => match f with
      | .next ρ2 => sWhile t db ρ2 w
      | .cont ρ2 => sWhile t db ρ2 w
      | .brk ρ2 => .ok (.next ρ2) w
      | .ret v => .ok (.ret v) w := fun n h => by
    cases n with
    | zero => exact absurd rfl h
    | succ n =>
      rw [whileN] at h ⊢
      cases e : t ρ w with
      | bad => rfl
      | exc x y => rfl
      | ok b w1 =>
        rw [e] at h
        cases b with
        | false => rfl
        | true =>
          simp only [bind_ok] at h ⊢
          cases e2 : db ρ w1 with
          | bad => rfl
          | exc x y => rfl
          | ok f w2 =>
            rw [e2] at h
            simp only [bind_ok] at h ⊢
            cases f with
            | next ρ2 => exact (sWhile_of h).symm
            | cont ρ2 => exact (sWhile_of h).symm
            | brk ρ2 => rfl
            | ret v => rfl
  by_cases h : sWhile t db ρ w = .bad
  · rw [h]
    cases e : t ρ w with
    | bad => rfl
    | exc x y =>
      have : whileN t db 1 ρ w ≠ .bad := by rw [whileN, e]; simp
      rw [sWhile_of this] at h
      exact absurd h this
    | ok b w1 =>
      cases b with
      | false =>
        have : whileN t db 1 ρ w ≠ .bad := by rw [whileN, e]; simp
        rw [sWhile_of this] at h
        exact absurd h this
      | true =>
        simp only [bind_ok]
        cases e2 : db ρ w1 with
        | bad => rfl
        | exc x y =>
          have : whileN t db 1 ρ w ≠ .bad := by rw [whileN, e]; simp [e2]
          rw [sWhile_of this] at h
          exact absurd h this
        | ok f w2 =>
          have key : ∀ ρ2, (∀ n, whileN t db (n + 1) ρ w = whileN t db n ρ2 w2) → Res.bad = sWhile t db ρ2 w2 := fun ρ2 hn => by
            cases q : sWhile t db ρ2 w2 with
            | bad => rfl
            | _ =>
              obtain ⟨n, hn2⟩ := sWhile_some (t := t) (db := db) (ρ := ρ2) (w := w2) (by rw [q]; simp)
              have hne : whileN t db (n + 1) ρ w ≠ .bad := by rw [hn n, hn2, q]; simp
              rw [sWhile_of hne] at h
              exact absurd h hne
          cases f with
          | next ρ2 => exact key ρ2 fun n => by rw [whileN, e]; simp [e2]
          | cont ρ2 => exact key ρ2 fun n => by rw [whileN, e]; simp [e2]
          | brk ρ2 =>
            have : whileN t db 1 ρ w ≠ .bad := by rw [whileN, e]; simp [e2]
            rw [sWhile_of this] at h
            exact absurd h this
          | ret v =>
            have : whileN t db 1 ρ w ≠ .bad := by rw [whileN, e]; simp [e2]
            rw [sWhile_of this] at h
            exact absurd h this
  · obtain ⟨n, hn⟩ := sWhile_some h
    rw [← hn]
    exact fwd n (by rw [hn]; exact h)

section
variable {c : CM} {W : WX} {m m1 mn mb mc : Md} {X : Cx} {e tg : Expr} {es : List Expr} {st : Stmt} {sts : List Stmt} {pos : Pos}
theorem asg_imp {is : List Nat} {d : Ev → MM D} {g : D → Ev → Option Ev} : ∀ D' σ H, TSD c W m mn mb mc (sAsg d g) D' σ H → tAsg (TD c W m d) (TGD c m mn is g) D' σ H := fun D' σ H ⟨F, ρ, ω, S, q⟩ =>
  ⟨F, ρ, ω, S, bindT S (GS.pg (D' := D')) (k := fun v w => (ofO (g v ρ) w).bind fun ρ' w => .ok (.next ρ') w) (⟨S.fr.xt, q⟩ : GS c W mn mb mc D' F H _) fun a F1 H1 w1 x1 S1 q1 x r1 => by
    cases eg : g a ρ with
    | none => rw [eg] at q1; exact q1.2.elim
    | some ρ' =>
      rw [eg] at q1
      exact ⟨F1, ρ, w1, a, ρ', S1, r1, eg, fun σ' S' _ => q1.2 F1 σ' H1 (Same.refl _) S'⟩⟩
theorem s_asg {is : List Nat} {d : Ev → MM D} {g : D → Ev → Option Ev} (he : E c W m X e d) (hg : PG X tg (TGD c m mn is g)) (hs : swapsWithSole [tg] e pos.line X.env = pure false := by rfl) (hw : swappedStores [tg] e X.env = pure none := by rfl)
    (h1 : (assignEach [tg] X.env).map (·.2) = [assign tg X.env] := by rfl) : PS X (.Assign [tg] e pos) (TSD c W m mn mb mc (sAsg d g)) := PSimp (ps_asg he hg hs hw h1) asg_imp
theorem s_set {i : Nat} {x : Str} {d : Ev → MM D} {pos' : Pos} (he : E c W m X e d) (h : PE X e (TD c W m d) → PS X (.Assign [.Name x pos'] e pos) (tAsg (TD c W m d) (gName i))) (hb : m.B ≠ some i := by decide) : PS X (.Assign [.Name x pos'] e pos) (TSD c W m (m.del i) mb mc (sAsg d (gN i))) :=
  PSimp (h he) fun D' σ H q => by
    obtain ⟨F, ρ, ω, S, q'⟩ := asg_imp (is := [i]) D' σ H q
    refine ⟨F, ρ, ω, S, ?_⟩
    cases hd : d ρ ω with
    | bad => rw [hd] at q'; exact q'
    | exc x y => rw [hd] at q'; exact q'
    | ok a w =>
      rw [hd] at q'
      exact fun F' H' xt bo x r => gN_imp hb _ _ _ _ (q' F' H' xt bo x r)
theorem s_setLc {d : Ev → MM D} {i : Nat} {te : TE} (h : PS X st (tAsg te (gName i))) (hi : ∀ σ H Q, TD c W m d σ H Q → te σ H Q) (hb : m.B ≠ some i := by decide) : PS X st (TSD c W m (m.del i) mb mc (sAsg d (gN i))) :=
  PSimp h fun D' σ H q => by
    obtain ⟨F, ρ, ω, S, q'⟩ := asg_imp (is := [i]) D' σ H q
    refine hi _ _ _ ⟨F, ρ, ω, S, ?_⟩
    cases hd : d ρ ω with
    | bad => rw [hd] at q'; exact q'
    | exc x y => rw [hd] at q'; exact q'
    | ok a w =>
      rw [hd] at q'
      exact fun F' H' xt bo x r => gN_imp hb _ _ _ _ (q' F' H' xt bo x r)
theorem ss_nil : PSs X [] (TSD c W m m mb mc sNext) := PSsimp pss_nil fun D' σ H ⟨F, ρ, ω, S, q⟩ => q F σ H (Same.refl _) S
theorem seq_imp {d1 d2 : Ev → MM Fl} : ∀ D' σ H, TSD c W m mn mb mc (sSeq d1 d2) D' σ H → tSeq (TSD c W m m1 mb mc d1) (TSD c W m1 mn mb mc d2) D' σ H := fun D' σ H ⟨F, ρ, ω, S, q⟩ => by
  refine ⟨F, ρ, ω, S, ?_⟩
  unfold sSeq at q
  cases e : d1 ρ ω with
  | bad => rw [e] at q; exact q
  | exc x y => rw [e] at q; exact q
  | ok f w =>
    rw [e] at q
    cases f with
    | next ρ' => exact fun F' σ' H' s S' => ⟨F', ρ', w, S', q.mono s⟩
    | ret v => exact q
    | brk ρ' => exact q
    | cont ρ' => exact q
theorem ss_cons {d1 d2 : Ev → MM Fl} (h1 : PS X st (TSD c W m m1 mb mc d1)) (h2 : PSs X sts (TSD c W m1 mn mb mc d2)) : PSs X (st :: sts) (TSD c W m mn mb mc (sSeq d1 d2)) := PSsimp (pss_cons h1 h2) seq_imp
theorem ss_one {d : Ev → MM Fl} (h : PS X st (TSD c W m mn mb mc d)) : PSs X [st] (TSD c W m mn mb mc d) := pss_one h
theorem s_pass : PS X (.Pass pos) (TSD c W m m mb mc sNext) := PSimp ps_pass fun D' σ H ⟨F, ρ, ω, S, q⟩ => q F σ H (Same.refl _) S
theorem s_doc {x j pos'} : PS X (.Expr (.Constant (.str x) j pos) pos') (TSD c W m m mb mc sNext) := PSimp ps_doc fun D' σ H ⟨F, ρ, ω, S, q⟩ => q F σ H (Same.refl _) S
theorem s_brk : PS X (.Break pos) (TSD c W m mn m mc sBrk) := PSimp ps_break fun D' σ H ⟨F, ρ, ω, S, q⟩ => q F σ H (Same.refl _) S
theorem s_cont : PS X (.Continue pos) (TSD c W m mn mb m sCont) := PSimp ps_continue fun D' σ H ⟨F, ρ, ω, S, q⟩ => q F σ H (Same.refl _) S
theorem s_ret {d : Ev → MM D} (h : E c W m X e d) : PS X (.Return (some e) pos) (TSD c W m mn mb mc (sRet d)) := PSimp (ps_ret h) fun D' σ H ⟨F, ρ, ω, S, q⟩ =>
  ⟨F, ρ, ω, S, bindT S (GS.pg (D' := D')) (k := fun v w => .ok (.ret v) w) (⟨S.fr.xt, q⟩ : GS c W mn mb mc D' F H _) fun a F1 H1 w1 x1 S1 q1 x r1 => q1.2 F1 H1 x (Same.refl _) S1.fr r1⟩
theorem s_expr {d : Ev → MM D} (h : E c W m X e d) (hs : swapsWith e none pos.line X.env = pure false := by rfl) : PS X (.Expr e pos) (TSD c W m m mb mc (sExpr d)) := PSimp (ps_expr h hs) fun D' σ H ⟨F, ρ, ω, S, q⟩ =>
  ⟨F, ρ, ω, S, bindT S (GS.pg (D' := D')) (k := fun v w => .ok (.next ρ) w) (⟨S.fr.xt, q⟩ : GS c W m mb mc D' F H _) fun a F1 H1 w1 x1 S1 q1 x r1 => q1.2 F1 σ H1 (Same.refl _) S1⟩
theorem s_if {t : Expr} {a b : List Stmt} {dt : Ev → MM Bool} {d1 d2 : Ev → MM Fl} (ht : B c W m X t dt) (h1 : PSs X a (TSD c W m mn mb mc d1)) (h2 : PSs X b (TSD c W m mn mb mc d2)) : PS X (.If t a b pos) (TSD c W m mn mb mc (sIf dt d1 d2)) := PSimp (ps_if ht h1 h2) fun D' σ H ⟨F, ρ, ω, S, q⟩ => by
  have q' : GS c W mn mb mc D' F H (sIf dt d1 d2 ρ ω) := ⟨S.fr.xt, q⟩
  unfold sIf at q'
  refine ⟨F, ρ, ω, S, bindT S GS.pg q' fun a F1 H1 w1 x1 S1 q1 => ?_⟩
  cases a with
  | true => exact iteT ⟨F1, ρ, w1, S1, q1.2⟩
  | false => exact iteF ⟨F1, ρ, w1, S1, q1.2⟩
theorem par_imp {i j : Nat} {d1 d2 : Ev → MM D} (hi : m.B ≠ some i) (hj : m.B ≠ some j) : ∀ D' σ H, TSD c W m ((m.del i).del j) mb mc (sPar i j d1 d2) D' σ H → tPar i j (TDa c W m (aCons d1 (aCons d2 aNil))) D' σ H := fun D' σ H ⟨F, ρ, ω, S, q⟩ => by
  have q' : GS c W ((m.del i).del j) mb mc D' F H ((aCons d1 (aCons d2 aNil) ρ ω).bind fun r w => match r with
      | [a, b] => .ok (.next (put (put ρ i a) j b)) w
      | _ => .bad) := ⟨S.fr.xt, by
    unfold sPar at q
    unfold aCons aNil
    cases h : d1 ρ ω with
    | ok a w => rw [h] at q; cases h' : d2 ρ w <;> simpa [h'] using q
    | _ => rw [h] at q; exact q⟩
  refine ⟨F, ρ, ω, S, bindT S GS.pg q' fun r F1 H1 w1 x1 S1 q1 xs rx => ?_⟩
  match r, q1, rx with
  | [a, b], q1, rx =>
    obtain ⟨v, u, rfl, r1, r2⟩ := rx.two
    exact ⟨v, u, rfl, q1.2 F1 _ H1 (Same.refl _) ((S1.putD r1 hi).putD r2 hj)⟩
  | [], q1, rx => exact q1.2.elim
  | [_], q1, rx => exact q1.2.elim
  | _ :: _ :: _ :: _, q1, rx => exact q1.2.elim
theorem s_par {i j : Nat} {x y : Str} {a b : Expr} {px py pt : Pos} {kt k2 pt2} {d1 d2 : Ev → MM D} (ha : A c W m X [a, b] (aCons d1 (aCons d2 aNil))) (hc : X.calm = true) (hN : X.N.Nodup) (hi : X.N[i]? = some x) (hj : X.N[j]? = some y) (hij : i ≠ j)
    (hx : X.env.scope.names.lookup x = some .local) (hy : X.env.scope.names.lookup y = some .local)
    (hw : swappedStores [.Tuple [.Name x px, .Name y py] kt pt] (.Tuple [a, b] k2 pt2) X.env = pure (some [x, y]))
    (hs : swapsWithSole [.Tuple [.Name x px, .Name y py] kt pt] (.Tuple [a, b] k2 pt2) pos.line X.env = pure false := by rfl) (bi : m.B ≠ some i := by decide) (bj : m.B ≠ some j := by decide) :
    PS X (.Assign [.Tuple [.Name x px, .Name y py] kt pt] (.Tuple [a, b] k2 pt2) pos) (TSD c W m ((m.del i).del j) mb mc (sPar i j d1 d2)) := PSimp (ps_par hc hN hi hj hij hx hy ha.pa hw hs) (par_imp bi bj)
theorem par3_imp {i j k : Nat} {d1 d2 d3 : Ev → MM D} (hi : m.B ≠ some i) (hj : m.B ≠ some j) (hk : m.B ≠ some k) : ∀ D' σ H, TSD c W m (((m.del i).del j).del k) mb mc (sPar3 i j k d1 d2 d3) D' σ H → tPar3 i j k (TDa c W m (aCons d1 (aCons d2 (aCons d3 aNil)))) D' σ H := fun D' σ H ⟨F, ρ, ω, S, q⟩ => by
  have q' : GS c W (((m.del i).del j).del k) mb mc D' F H ((aCons d1 (aCons d2 (aCons d3 aNil)) ρ ω).bind fun r w => match r with
      | [a, b, e] => .ok (.next (put (put (put ρ i a) j b) k e)) w
      | _ => .bad) := ⟨S.fr.xt, by
    unfold sPar3 at q
    unfold aCons aNil
    cases h : d1 ρ ω with
    | ok a w =>
      rw [h] at q
      cases h' : d2 ρ w with
      | ok b w' =>
        simp only [bind_ok] at q ⊢
        rw [h'] at q ⊢
        simp only [bind_ok] at q ⊢
        cases h'' : d3 ρ w' <;> simpa [h''] using q
      | _ => simpa [h'] using q
    | _ => rw [h] at q; exact q⟩
  refine ⟨F, ρ, ω, S, bindT S GS.pg q' fun r F1 H1 w1 x1 S1 q1 xs rx => ?_⟩
  match r, q1, rx with
  | [a, b, e], q1, rx =>
    obtain ⟨v, u, w, rfl, r1, r2, r3⟩ := rx.three
    exact ⟨v, u, w, rfl, q1.2 F1 _ H1 (Same.refl _) (((S1.putD r1 hi).putD r2 hj).putD r3 hk)⟩
  | [], q1, rx => exact q1.2.elim
  | [_], q1, rx => exact q1.2.elim
  | [_, _], q1, rx => exact q1.2.elim
  | _ :: _ :: _ :: _ :: _, q1, rx => exact q1.2.elim
theorem s_par3 {i j k : Nat} {x y z : Str} {a b e3 : Expr} {px py pz pt : Pos} {kt k2 pt2} {d1 d2 d3 : Ev → MM D} (ha : A c W m X [a, b, e3] (aCons d1 (aCons d2 (aCons d3 aNil)))) (hc : X.calm = true) (hN : X.N.Nodup) (hi : X.N[i]? = some x) (hj : X.N[j]? = some y) (hl : X.N[k]? = some z) (hij : i ≠ j) (hil : i ≠ k) (hjl : j ≠ k)
    (hx : X.env.scope.names.lookup x = some .local) (hy : X.env.scope.names.lookup y = some .local) (hz : X.env.scope.names.lookup z = some .local)
    (hw : swappedStores [.Tuple [.Name x px, .Name y py, .Name z pz] kt pt] (.Tuple [a, b, e3] k2 pt2) X.env = pure (some [x, y, z]))
    (hs : swapsWithSole [.Tuple [.Name x px, .Name y py, .Name z pz] kt pt] (.Tuple [a, b, e3] k2 pt2) pos.line X.env = pure false := by rfl) (bi : m.B ≠ some i := by decide) (bj : m.B ≠ some j := by decide) (bk : m.B ≠ some k := by decide) :
    PS X (.Assign [.Tuple [.Name x px, .Name y py, .Name z pz] kt pt] (.Tuple [a, b, e3] k2 pt2) pos) (TSD c W m (((m.del i).del j).del k) mb mc (sPar3 i j k d1 d2 d3)) := PSimp (ps_par3 hc hN hi hj hl hij hil hjl hx hy hz ha.pa hw hs) (par3_imp bi bj bk)
theorem s_aug {i : Nat} {r : R2} {f : D → D → Option D} {d : Ev → MM D} {x1 v1 : Expr} {op1 : Operator} (v : VOp c.K r f) (hO : i ∉ m.O) (he : E c W m X v1 d) (h : PE X v1 (TD c W m d) → PS X (.AugAssign x1 op1 v1 pos) (tAug i (TD c W m d) r)) (hb : m.B ≠ some i := by decide) : PS X (.AugAssign x1 op1 v1 pos) (TSD c W m (m.del i) mb mc (sAug i f d)) := PSimp (h he) fun D' σ H ⟨F, ρ, ω, S, q⟩ => by
  unfold sAug at q
  cases hl : look ρ i with
  | none => rw [hl] at q; exact q.elim
  | some a =>
    rw [hl] at q
    obtain ⟨x, h1, h2⟩ := S.dat i a (look_iff hl) hO
    refine ⟨x, h1, F, ρ, ω, S, bindT S (GS.pg (D' := D')) (k := fun b w => (ofO (f a b) w).bind fun v w => .ok (.next (put ρ i v)) w) (⟨S.fr.xt, q⟩ : GS c W (m.del i) mb mc D' F H _) fun b F1 H1 w1 x1 S1 q1 y r1 => ?_⟩
    cases ef : f a b with
    | none => rw [ef] at q1; exact q1.2.elim
    | some z =>
      rw [ef] at q1
      refine v F1 H1 x y a b z _ S1.fh (h2.mono x1.ff) r1 ef fun F' H' zv xt rz => ?_
      exact q1.2 F' _ H' xt.ff ((S1.step xt.any (S1.bo.ext xt)).putD rz hb)
theorem s_raise {C : Addr} {x mm : Str} {j : Nat} {p p2 p3 : Pos} {Bs newId initId : String} {bmB : List Value} (hk : X.K = c.K) (hmg : X.mg = c.mg) (hc : X.calm = true) (tk : Takes X W) (Fx : ExcBaseFacts Bs newId initId bmB) (q : PySem.W.excIn X.K C bmB newId = true) (gC : X.mg x = some (.ref C)) (kC : PySem.W.keepIn X.K (.ref C) = true) (r : Raises X (.ref C)) (hg : Gl X x)
    (hdb : (x == ("__debug__" : Str)) = false := by decide) : PS X (.Raise (some (.Call (.Name x p) [.Constant (.str mm) j p2] [] p3)) none pos) (TSD c W m mn mb mc (sRaise ⟨x, none⟩)) :=
  PSimp (ps_raise hc tk (pmk_own Fx q gC kC r hg hdb)) fun D' σ H ⟨F, ρ, ω, S, q⟩ => q F σ H (.ref C) none (Same.refl _) S.fr ⟨C, by rw [← hmg]; exact gC, rfl, rfl⟩
/-- a list of one's own is frozen ahead of the statements -/
theorem ss_frz {d : Ev → MM Fl} (i : Nat) (h : PSs X sts (TSD c W (m.del i) mn mb mc d)) : PSs X sts (TSD c W m mn mb mc d) := PSsimp h fun D' σ H ⟨F, ρ, ω, S, q⟩ => by
  obtain ⟨F', s, S'⟩ := S.freeze i
  exact ⟨F', ρ, ω, S', q.mono s⟩
theorem frz_end {D' : Ends} {F : Hp} {i : Nat} : ∀ {r : Res Fl}, PostS c W (mn.del i) mb mc F D' r → PostS c W mn mb mc F D' r
  | .bad, h => h
  | .ok (.next _) _, h => fun F' σ' H' s S => by
    obtain ⟨F2, s2, S2⟩ := S.freeze i
    exact h F2 σ' H' (s.trans s2) S2
  | .ok (.brk _) _, h => h
  | .ok (.cont _) _, h => h
  | .ok (.ret _) _, h => h
  | .exc _ _, h => h
/-- .. behind them -/
theorem ss_frzE {d : Ev → MM Fl} (i : Nat) (h : PSs X sts (TSD c W m mn mb mc d)) : PSs X sts (TSD c W m (mn.del i) mb mc d) := PSsimp h fun D' σ H ⟨F, ρ, ω, S, q⟩ => ⟨F, ρ, ω, S, frz_end q⟩
theorem s_frzE {d : Ev → MM Fl} (i : Nat) (h : PS X st (TSD c W m mn mb mc d)) : PS X st (TSD c W m (mn.del i) mb mc d) := PSimp h fun D' σ H ⟨F, ρ, ω, S, q⟩ => ⟨F, ρ, ω, S, frz_end q⟩
end
end M

set_option Elab.async false
set_option linter.all false
set_option maxRecDepth 100000
set_option maxHeartbeats 4000000
namespace M
open PySem PySem.Spec PyProof.Rows L2

/-! ### what is walked -/
structure Wk (K : PySem.W.Frag) (F : Hp) (J : It) (ds : List D) : Prop where
  go : ∀ i F1 H1, i < ds.length → Same F F1 → Same F1 H1 → J.go i H1
  stop : ∀ F1 H1, Same F F1 → Same F1 H1 → J.stop ds.length H1
  yld : ∀ i d F1 H1 x H2, ds[i]? = some d → Same F F1 → Same F1 H1 → J.yld i H1 x H2 → ∃ F2, Xt none F1 H1 F2 H2 ∧ Rp K F2 x d
def TID (c : CM) (W : WX) (m : Md) (d : Ev → MM (List D)) : TI := fun σ H R => ∃ F ρ ω, SR c m F ρ ω σ H ∧ Post c W F H σ (fun ds F' H' _ => ∀ J, Wk c.K F' J ds → R J H') (d ρ ω)
theorem PIimp {X : Cx} {tg it : Expr} {t t' : TI} (h : PI X tg it t) (i : ∀ σ H R, t' σ H R → t σ H R) : PI X tg it t' := ⟨fun p s σ H R I q => h.run p s σ H R I (i _ _ _ q)⟩
theorem PIor {X : Cx} {tg it : Expr} {t t' u : TI} (h : PI X tg it t) (h' : PI X tg it t') (i : ∀ σ H R, u σ H R → t σ H R ∨ t' σ H R) : PI X tg it u := ⟨fun p s σ H R I q => by
  rcases i _ _ _ q with q | q
  · exact h.run p s σ H R I q
  · exact h'.run p s σ H R I q⟩
def iSeq (d : Ev → MM D) : Ev → MM (List D) := fun ρ ω => (d ρ ω).bind fun v w => match v with
  | .list ds => .ok ds w
  | .tuple ds => .ok ds w
  | _ => .bad
def rangeL (lo c : Int) : Nat → List D
  | 0 => []
  | n + 1 => .int lo :: rangeL (lo + c) c n
theorem rangeL_len (c : Int) : ∀ (n : Nat) (lo : Int), (rangeL lo c n).length = n
  | 0, _ => rfl
  | n + 1, lo => by simp [rangeL, rangeL_len c n]
theorem rangeL_get (c : Int) : ∀ (n : Nat) (lo : Int) (i : Nat) (d : D), (rangeL lo c n)[i]? = some d → d = .int (lo + i * c) ∧ i < n
  | 0, _, _, _, h => by simp [rangeL] at h
  | n + 1, lo, 0, d, h => by simp [rangeL] at h; simp [← h]
  | n + 1, lo, i + 1, d, h => by
    obtain ⟨h1, h2⟩ := rangeL_get c n (lo + c) i d (by simpa [rangeL] using h)
    refine ⟨?_, by omega⟩
    rw [h1]
    congr 1
    rw [Int.natCast_add, Int.add_mul]
    omega
def okR (i : Int) : Prop := -(2 ^ 62) ≤ i ∧ i < 2 ^ 62
instance (i : Int) : Decidable (okR i) := by unfold okR; infer_instance
def iRange : List D → Option (List D)
  | [.int j] => if okR j then some (rangeL 0 1 j.toNat) else none
  | [.int i, .int j] => if okR i ∧ okR j then some (rangeL i 1 (j - i).toNat) else none
  | [.int i, .int j, .int k] => if k ≠ 0 ∧ k.natAbs < 1073741824 ∧ Builtin.Range.small i j k = true ∧ 0 ≤ Builtin.Range.rangeSize i j k then some (rangeL i k (Builtin.Range.rangeSize i j k).toNat) else none
  | _ => none
def iArgs (f : List D → Option (List D)) (ds : Ev → MM (List D)) : Ev → MM (List D) := fun ρ ω => (ds ρ ω).bind fun r w => ofO (f r) w
def enumL : Nat → List D → List D
  | _, [] => []
  | n, d :: ds => .tuple [.int n, d] :: enumL (n + 1) ds
def iEnumF : List D → Option (List D)
  | [.list ds] => some (enumL 0 ds)
  | _ => none
def zipL : List D → List D → List D
  | a :: as, b :: bs => .tuple [a, b] :: zipL as bs
  | _, _ => []
def iZipF : List D → Option (List D)
  | [.list as, .list bs] => some (zipL as bs)
  | _ => none
def iRevF : List D → Option (List D)
  | [.list ds] => some ds.reverse
  | _ => none
theorem enumL_len : ∀ (n : Nat) (ds : List D), (enumL n ds).length = ds.length
  | _, [] => rfl
  | n, d :: ds => by simp [enumL, enumL_len (n + 1) ds]
theorem enumL_get : ∀ (n : Nat) (ds : List D) (i : Nat) (d : D), (enumL n ds)[i]? = some d → ∃ e, ds[i]? = some e ∧ d = .tuple [.int ((n + i : Nat) : Int), e]
  | _, [], _, _, h => by simp [enumL] at h
  | n, d :: ds, 0, e, h => by simp [enumL] at h; exact ⟨d, rfl, by simp [← h]⟩
  | n, d :: ds, i + 1, e, h => by
    obtain ⟨x, h1, h2⟩ := enumL_get (n + 1) ds i e (by simpa [enumL] using h)
    exact ⟨x, by simpa using h1, by rw [h2, show n + 1 + i = n + (i + 1) by omega]⟩
theorem zipL_len : ∀ (as bs : List D), (zipL as bs).length = min as.length bs.length
  | [], _ => by simp [zipL]
  | _ :: _, [] => by simp [zipL]
  | a :: as, b :: bs => by simp [zipL, zipL_len as bs]
theorem zipL_get : ∀ (as bs : List D) (i : Nat) (d : D), (zipL as bs)[i]? = some d → ∃ a b, as[i]? = some a ∧ bs[i]? = some b ∧ d = .tuple [a, b]
  | [], _, _, _, h => by simp [zipL] at h
  | _ :: _, [], _, _, h => by simp [zipL] at h
  | a :: as, b :: bs, 0, d, h => by simp [zipL] at h; exact ⟨a, b, rfl, rfl, h.symm⟩
  | a :: as, b :: bs, i + 1, d, h => by
    obtain ⟨x, y, h1, h2, h3⟩ := zipL_get as bs i d (by simpa [zipL] using h)
    exact ⟨x, y, by simpa using h1, by simpa using h2, h3⟩
section
variable {c : CM} {W : WX} {m m1 mn mb mc : Md} {X : Cx} {e tg iter : Expr} {es : List Expr} {st : Stmt} {sts : List Stmt} {pos p : Pos}
theorem wk_range {K : PySem.W.Frag} {F : Hp} (lo : Int) (n : Nat) : Wk K F (Itr lo n) (rangeL lo 1 n) where
  go := fun i F1 H1 h _ _ => by rw [rangeL_len] at h; exact h
  stop := fun F1 H1 _ _ => by rw [rangeL_len]; exact Nat.le_refl _
  yld := fun i d F1 H1 x H2 h s1 s2 y => by
    obtain ⟨e1, e2⟩ := rangeL_get 1 n lo i d h
    obtain ⟨rfl, rfl⟩ := y
    subst e1
    exact ⟨F1, Xt.refl s2, by simpa using Rp.int (K := K) (H := F1) (lo + i)⟩
theorem wk_rangeC {K : PySem.W.Frag} {F : Hp} (lo k : Int) (n : Nat) : Wk K F (Itc lo k n) (rangeL lo k n) where
  go := fun i F1 H1 h _ _ => by rw [rangeL_len] at h; exact h
  stop := fun F1 H1 _ _ => by rw [rangeL_len]; exact Nat.le_refl _
  yld := fun i d F1 H1 x H2 h s1 s2 y => by
    obtain ⟨e1, e2⟩ := rangeL_get k n lo i d h
    obtain ⟨rfl, rfl⟩ := y
    subst e1
    exact ⟨F1, Xt.refl s2, .int _⟩
theorem wk_list {K : PySem.W.Frag} {F : Hp} {a : Addr} {xs : List V} {ds : List D} (h : F a = some (.lst xs)) (r : RpL K F xs ds) : Wk K F (Itl K a) ds where
  go := fun i F1 H1 hi s1 s2 => ⟨xs, xs[i]'(by rw [r.length]; exact hi), SqL.of (s2 _ _ (s1 _ _ h)), by simp [r.length, hi]⟩
  stop := fun F1 H1 s1 s2 => ⟨xs, SqL.of (s2 _ _ (s1 _ _ h)), by rw [r.length]; exact Nat.le_refl _⟩
  yld := fun i d F1 H1 x H2 hd s1 s2 y => by
    obtain ⟨rfl, y⟩ := y
    have q := y xs (SqL.of (s2 _ _ (s1 _ _ h)))
    obtain ⟨v, h1, h2⟩ := r.get hd
    rw [h1] at q
    cases q
    exact ⟨F1, Xt.refl s2, h2.mono s1⟩
theorem wk_tup {K : PySem.W.Frag} {F : Hp} {a : Addr} {xs : List V} {ds : List D} (h : SqT K F a xs) (r : RpL K F xs ds) : Wk K F (Itt K a) ds where
  go := fun i F1 H1 hi s1 s2 => ⟨xs, xs[i]'(by rw [r.length]; exact hi), sameT s2 (sameT s1 h), by simp [r.length, hi]⟩
  stop := fun F1 H1 s1 s2 => ⟨xs, sameT s2 (sameT s1 h), by rw [r.length]; exact Nat.le_refl _⟩
  yld := fun i d F1 H1 x H2 hd s1 s2 y => by
    obtain ⟨rfl, y⟩ := y
    have q := y xs (sameT s2 (sameT s1 h))
    obtain ⟨v, h1, h2⟩ := r.get hd
    rw [h1] at q
    cases q
    exact ⟨F1, Xt.refl s2, h2.mono s1⟩
theorem wk_enum {K : PySem.W.Frag} {F : Hp} {a : Addr} {xs : List V} {ds : List D} (h : F a = some (.lst xs)) (r : RpL K F xs ds) : Wk K F (Ite K a) (enumL 0 ds) where
  go := fun i F1 H1 hi s1 s2 => by
    rw [enumL_len] at hi
    exact ⟨xs, xs[i]'(by rw [r.length]; exact hi), SqL.of (s2 _ _ (s1 _ _ h)), by simp [r.length, hi]⟩
  stop := fun F1 H1 s1 s2 => ⟨xs, SqL.of (s2 _ _ (s1 _ _ h)), by rw [enumL_len, r.length]; exact Nat.le_refl _⟩
  yld := fun i d F1 H1 x H2 hd s1 s2 y => by
    obtain ⟨T, z, rfl, nT, rfl, y⟩ := y
    have q := y xs (SqL.of (s2 _ _ (s1 _ _ h)))
    obtain ⟨dd, h0, rfl⟩ := enumL_get 0 ds i d hd
    obtain ⟨v, h1, h2⟩ := r.get h0
    rw [h1] at q
    cases q
    have xt : Xt none F1 H1 (upd F1 T (.tup [.int (i : Nat), z])) (upd H1 T (.tup [.int (i : Nat), z])) := Xt.alloc s2 nT
    exact ⟨_, xt, .tup (SqT.of upd_same) (.cons (by rw [Nat.zero_add]; exact .int _) (.cons ((h2.mono s1).mono xt.ff) .nil))⟩
theorem wk_zip {K : PySem.W.Frag} {F : Hp} {a b : Addr} {xs ys : List V} {ds es : List D} (h : F a = some (.lst xs)) (r : RpL K F xs ds) (h' : F b = some (.lst ys)) (r' : RpL K F ys es) : Wk K F (Itz K a b) (zipL ds es) where
  go := fun i F1 H1 hi s1 s2 => by
    rw [zipL_len] at hi
    exact ⟨xs, ys, xs[i]'(by rw [r.length]; omega), ys[i]'(by rw [r'.length]; omega), SqL.of (s2 _ _ (s1 _ _ h)), SqL.of (s2 _ _ (s1 _ _ h')), by simp, by simp⟩
  stop := fun F1 H1 s1 s2 => ⟨xs, ys, SqL.of (s2 _ _ (s1 _ _ h)), SqL.of (s2 _ _ (s1 _ _ h')), by rw [zipL_len, r.length, r'.length]; omega⟩
  yld := fun i d F1 H1 x H2 hd s1 s2 y => by
    obtain ⟨T, z, z', rfl, nT, rfl, y, y'⟩ := y
    have q := y xs (SqL.of (s2 _ _ (s1 _ _ h)))
    have q' := y' ys (SqL.of (s2 _ _ (s1 _ _ h')))
    obtain ⟨d1, d2, h0, h0', rfl⟩ := zipL_get ds es i d hd
    obtain ⟨v, h1, h2⟩ := r.get h0
    obtain ⟨v', h1', h2'⟩ := r'.get h0'
    rw [h1] at q
    cases q
    rw [h1'] at q'
    cases q'
    have xt : Xt none F1 H1 (upd F1 T (.tup [z, z'])) (upd H1 T (.tup [z, z'])) := Xt.alloc s2 nT
    exact ⟨_, xt, .tup (SqT.of upd_same) (.cons ((h2.mono s1).mono xt.ff) (.cons ((h2'.mono s1).mono xt.ff) .nil))⟩
theorem wk_rev {K : PySem.W.Frag} {F : Hp} {a : Addr} {xs : List V} {ds : List D} (h : F a = some (.lst xs)) (r : RpL K F xs ds) : Wk K F (Itv K a xs.length) ds.reverse where
  go := fun i F1 H1 hi s1 s2 => by
    rw [List.length_reverse] at hi
    have hl := r.length
    exact ⟨by omega, xs, xs[xs.length - 1 - i]'(by omega), SqL.of (s2 _ _ (s1 _ _ h)), by simp⟩
  stop := fun F1 H1 s1 s2 => by rw [List.length_reverse, ← r.length]; exact Nat.le_refl _
  yld := fun i d F1 H1 x H2 hd s1 s2 y => by
    obtain ⟨rfl, y⟩ := y
    have q := y xs (SqL.of (s2 _ _ (s1 _ _ h)))
    have hi : i < ds.reverse.length := (List.getElem?_eq_some_iff.mp hd).1
    rw [List.length_reverse] at hi
    rw [List.getElem?_reverse hi] at hd
    obtain ⟨v, h1, h2⟩ := r.get hd
    rw [r.length, h1] at q
    cases q
    exact ⟨F1, Xt.refl s2, h2.mono s1⟩
theorem i_seqL {F H F' H' : Hp} {σ : L2.St} {R : It → Hp → Prop} {w : Wd} {ds : List D} {x : V} (hk : X.K = c.K) (q : Post c W F H σ (fun ds F' H' _ => ∀ J, Wk c.K F' J ds → R J H') (.ok ds w)) (xt : Xt c.b F H F' H') (bo : BorOk c F' w H') (r : Rp c.K F' x (.list ds)) :
    ∃ a, x = V.ref a ∧ (∃ xs, SqL X.K H' a xs) ∧ R (Itl X.K a) H' := by
  obtain ⟨a, xs, rfl, h1, h2⟩ := r.vlst
  refine ⟨a, rfl, ⟨xs, SqL.of (xt.fh _ _ h1)⟩, q F' H' xt bo _ ?_⟩
  rw [hk]
  exact wk_list h1 h2
theorem i_seqT {F H F' H' : Hp} {σ : L2.St} {R : It → Hp → Prop} {w : Wd} {ds : List D} {x : V} (hk : X.K = c.K) (q : Post c W F H σ (fun ds F' H' _ => ∀ J, Wk c.K F' J ds → R J H') (.ok ds w)) (xt : Xt c.b F H F' H') (bo : BorOk c F' w H') (r : Rp c.K F' x (.tuple ds)) :
    ∃ a, x = V.ref a ∧ (∃ xs, SqT X.K H' a xs) ∧ R (Itt X.K a) H' := by
  obtain ⟨a, xs, rfl, h1, h2⟩ := r.vtup
  refine ⟨a, rfl, ⟨xs, by rw [hk]; exact sameT xt.fh h1⟩, q F' H' xt bo _ ?_⟩
  rw [hk]
  exact wk_tup h1 h2
theorem i_seq {d : Ev → MM D} (hk : X.K = c.K) (h : E c W m X iter d) : PI X tg iter (TID c W m (iSeq d)) :=
  PIor (pi_list h) (pi_tup h) fun σ H R ⟨F, ρ, ω, S, q⟩ => by
    cases hd : d ρ ω with
    | bad => simp [iSeq, hd, Post] at q
    | exc x y =>
      simp only [iSeq, hd, bind_exc] at q
      exact .inl ⟨F, ρ, ω, S, by rw [hd]; exact q⟩
    | ok v w =>
      simp only [iSeq, hd, bind_ok] at q
      cases v with
      | list ds =>
        refine .inl ⟨F, ρ, ω, S, by rw [hd]; refine fun F' H' xt bo x r => ?_; exact i_seqL hk q xt bo r⟩
      | tuple ds =>
        refine .inr ⟨F, ρ, ω, S, by rw [hd]; refine fun F' H' xt bo x r => ?_; exact i_seqT hk q xt bo r⟩
      | _ => exact q.elim
theorem iargs_step {f : List D → Option (List D)} {ds : Ev → MM (List D)} {σ : L2.St} {H : Hp} {R : It → Hp → Prop} {r : List V → Hp → Prop} {F : Hp} {ρ : Ev} {ω : Wd} (S : SR c m F ρ ω σ H) (q : Post c W F H σ (fun ds F' H' _ => ∀ J, Wk c.K F' J ds → R J H') (iArgs f ds ρ ω))
    (cont : ∀ F1 H1 xs as l, Same F1 H1 → RpL c.K F1 xs as → f as = some l → (∀ J, Wk c.K F1 J l → R J H1) → r xs H1) : TDa c W m ds σ H r := ⟨F, ρ, ω, S, bindT S Post.pg q fun as F1 H1 w1 x1 S1 q1 xs r1 => by
    obtain ⟨l, e1, q3⟩ := post_ofO S1.fh S1.bo q1
    exact cont F1 H1 xs as l S1.fh r1 e1 fun J hJ => q3 F1 H1 (Xt.refl S1.fh) J hJ⟩
theorem i_range1 {a : Expr} {ds : Ev → MM (List D)} (hg : Gl X "range") (hm : X.mg "range" = none) (ha : A c W m X [a] ds) (hs : starEach [a] X.env = [(false, eval a X.env)] := by rfl) : PI X tg (.Call (.Name "range" p) [a] [] pos) (TID c W m (iArgs iRange ds)) :=
  PIimp (pi_range1 hg hm ha.pa hs) fun σ H R ⟨F, ρ, ω, S, q⟩ => by
    have al := ha.len ρ ω
    refine ⟨F, ρ, ω, S, ?_⟩
    unfold iArgs at q
    cases hd : ds ρ ω with
    | bad => rw [hd] at q; exact q.elim
    | exc x y => rw [hd] at q; exact q
    | ok as w =>
      rw [hd] at q
      have hl := al as w hd
      match as, hl, q with
      | [.int j], _, q =>
        intro F' H' xt bo xs r
        obtain ⟨v, rfl, r1⟩ := r.one
        cases r1
        simp only [bind_ok, iRange] at q
        split at q
        · rename_i ok
          exact ⟨j, rfl, ok.1, ok.2, q F' H' xt bo _ (wk_range 0 _)⟩
        · exact q.elim
      | [.none], _, q => exact q.elim
      | [.bool _], _, q => exact q.elim
      | [.str _], _, q => exact q.elim
      | [.list _], _, q => exact q.elim
      | [.tuple _], _, q => exact q.elim
      | [.dict _], _, q => exact q.elim
theorem i_range2 {a b : Expr} {ds : Ev → MM (List D)} (hg : Gl X "range") (hm : X.mg "range" = none) (ha : A c W m X [a, b] ds) (hs : starEach [a, b] X.env = [(false, eval a X.env), (false, eval b X.env)] := by rfl) (hs2 : starEach [b] X.env = [(false, eval b X.env)] := by rfl) : PI X tg (.Call (.Name "range" p) [a, b] [] pos) (TID c W m (iArgs iRange ds)) :=
  PIimp (pi_range2 hg hm ha.pa hs hs2) fun σ H R ⟨F, ρ, ω, S, q⟩ => by
    have al := ha.len ρ ω
    refine ⟨F, ρ, ω, S, ?_⟩
    unfold iArgs at q
    cases hd : ds ρ ω with
    | bad => rw [hd] at q; exact q.elim
    | exc x y => rw [hd] at q; exact q
    | ok as w =>
      rw [hd, bind_ok] at q
      have hl := al as w hd
      intro F' H' xt bo xs r
      match as, hl with
      | [d1, d2], _ =>
        obtain ⟨v, u, rfl, r1, r2⟩ := r.two
        cases r1 with
        | int i =>
          cases r2 with
          | int j =>
            simp only [iRange] at q
            split at q
            · rename_i ok
              exact ⟨i, j, rfl, ⟨ok.1.1, ok.1.2, ok.2.1, ok.2.2⟩, q F' H' xt bo _ (wk_range i _)⟩
            · exact q.elim
          | _ => exact q.elim
        | _ => exact q.elim
theorem i_range3 {a b cc : Expr} {ds : Ev → MM (List D)} (hg : Gl X "range") (hm : X.mg "range" = none) (ha : A c W m X [a, b, cc] ds) (hs : starEach [a, b, cc] X.env = (false, eval a X.env) :: starEach [b, cc] X.env := by rfl) (hpl : (backTo pos (starEach [b, cc] X.env)).any (·.1) = false := by rfl) : PI X tg (.Call (.Name "range" p) [a, b, cc] [] pos) (TID c W m (iArgs iRange ds)) :=
  PIimp (pi_range3 hg hm ha.pa hs hpl) fun σ H R ⟨F, ρ, ω, S, q⟩ => by
    have al := ha.len ρ ω
    refine ⟨F, ρ, ω, S, ?_⟩
    unfold iArgs at q
    cases hd : ds ρ ω with
    | bad => rw [hd] at q; exact q.elim
    | exc x y => rw [hd] at q; exact q
    | ok as w =>
      rw [hd, bind_ok] at q
      have hl := al as w hd
      intro F' H' xt bo xs r
      match as, hl with
      | [d1, d2, d3], _ =>
        obtain ⟨v, u, t, rfl, r1, r2, r3⟩ := r.three
        cases r1 with
        | int i =>
          cases r2 with
          | int j =>
            cases r3 with
            | int k =>
              simp only [iRange] at q
              split at q
              · rename_i ok
                exact ⟨i, j, k, _, rfl, ⟨ok.1, ok.2.1, ok.2.2.1, by omega⟩, q F' H' xt bo _ (wk_rangeC i k _)⟩
              · exact q.elim
            | _ => exact q.elim
          | _ => exact q.elim
        | _ => exact q.elim
theorem i_enum {elts : List Expr} {kk : Nat} {tpos : Pos} {ds : Ev → MM (List D)} (hk : X.K = c.K) (hg : Gl X "enumerate") (hm : X.mg "enumerate" = none) (ha : A c W m X [e] ds) (hs : starEach [e] X.env = [(false, eval e X.env)] := by rfl) : PI X (.Tuple elts kk tpos) (.Call (.Name "enumerate" p) [e] [] pos) (TID c W m (iArgs iEnumF ds)) :=
  PIimp (pi_enum hg hm ha.pa hs) fun σ H R ⟨F, ρ, ω, S, q⟩ => iargs_step S q fun F1 H1 xs as l s r e1 q1 => by
    match as, e1, r with
    | [.list ds], e1, r =>
      obtain ⟨v, rfl, r1⟩ := r.one
      obtain ⟨a, ys, rfl, h1, h2⟩ := r1.vlst
      simp only [iEnumF, Option.some.injEq] at e1
      subst e1
      refine ⟨a, ys, rfl, SqL.of (s _ _ h1), q1 _ ?_⟩
      rw [hk]
      exact wk_enum h1 h2
theorem i_zip {e2 : Expr} {elts : List Expr} {kk : Nat} {tpos : Pos} {ds : Ev → MM (List D)} (hk : X.K = c.K) (hg : Gl X "zip") (hm : X.mg "zip" = none) (ha : A c W m X [e, e2] ds) (hs : starEach [e, e2] X.env = (false, eval e X.env) :: starEach [e2] X.env := by rfl) (hpl : (backTo pos (starEach [e2] X.env)).any (·.1) = false := by rfl) :
    PI X (.Tuple elts kk tpos) (.Call (.Name "zip" p) [e, e2] [] pos) (TID c W m (iArgs iZipF ds)) :=
  PIimp (pi_zip hg hm ha.pa hs hpl) fun σ H R ⟨F, ρ, ω, S, q⟩ => iargs_step S q fun F1 H1 xs as l s r e1 q1 => by
    match as, e1, r with
    | [.list ds, .list es], e1, r =>
      obtain ⟨v, u, rfl, r1, r2⟩ := r.two
      obtain ⟨a, ys, rfl, h1, h2⟩ := r1.vlst
      obtain ⟨b, zs, rfl, h3, h4⟩ := r2.vlst
      simp only [iZipF, Option.some.injEq] at e1
      subst e1
      refine ⟨a, b, ys, zs, rfl, SqL.of (s _ _ h1), SqL.of (s _ _ h3), q1 _ ?_⟩
      rw [hk]
      exact wk_zip h1 h2 h3 h4
theorem i_rev {ds : Ev → MM (List D)} (hk : X.K = c.K) (hg : Gl X "reversed") (hm : X.mg "reversed" = none) (ha : A c W m X [e] ds) (hs : starEach [e] X.env = [(false, eval e X.env)] := by rfl) : PI X tg (.Call (.Name "reversed" p) [e] [] pos) (TID c W m (iArgs iRevF ds)) :=
  PIimp (pi_reversed hg hm ha.pa hs) fun σ H R ⟨F, ρ, ω, S, q⟩ => iargs_step S q fun F1 H1 xs as l s r e1 q1 => by
    match as, e1, r with
    | [.list ds], e1, r =>
      obtain ⟨v, rfl, r1⟩ := r.one
      obtain ⟨a, ys, rfl, h1, h2⟩ := r1.vlst
      simp only [iRevF, Option.some.injEq] at e1
      subst e1
      refine ⟨a, ys, rfl, SqL.of (s _ _ h1), q1 _ ?_⟩
      rw [hk]
      exact wk_rev h1 h2

/-! ### for, while -/
theorem s_for {is : List Nat} {di : Ev → MM (List D)} {g : D → Ev → Option Ev} {db : Ev → MM Fl} {body : List Stmt} (hp : PassesOwn (model X.prog X.w) X.A X.env X.xe) (hc : X.calm = true) (hi : PI X tg iter (TID c W m di)) (hg : PG X tg (TGD c m m1 is g)) (hb : PSs X body (TSD c W m1 m m m db))
    (hs : ∀ x, foldedSetIterable iter X.env x = pure x := by intro _; rfl) : PS X (.For tg iter body [] pos) (TSD c W m m mb mc (sFor di g db)) := PSimp (ps_for hp hc hi hg hb hs) fun D' σ H ⟨F, ρ, ω, S, q⟩ => by
  have q' : GS c W m mb mc D' F H (sFor di g db ρ ω) := ⟨S.fr.xt, q⟩
  unfold sFor at q'
  refine ⟨F, ρ, ω, S, bindT S GS.pg q' fun ds F1 H1 w1 x1 S1 q1 J hJ => ?_⟩
  refine ⟨fun i n σ' H' => n = ds.length - i ∧ i ≤ ds.length ∧ ∃ F' ρ' ω', Same F1 F' ∧ SR c m F' ρ' ω' σ' H' ∧ PostS c W m mb mc F' D' (sFor.go g db (ds.drop i) ρ' ω'), ⟨_, rfl, Nat.zero_le _, F1, ρ, w1, Same.refl _, S1, q1.2⟩, ?_⟩
  rintro i n σ' H' ⟨rfl, hi, F', ρ', ω', s', S', q2⟩
  by_cases hlt : i < ds.length
  · refine .inr ⟨hJ.go i F' H' hlt s' S'.fh, fun σ2 H2 => ∃ F2 ρ2 ω2, Same F1 F2 ∧ SR c m F2 ρ2 ω2 σ2 H2 ∧ PostS c W m mb mc F2 D' (sFor.go g db (ds.drop (i + 1)) ρ2 ω2), fun σ2 H2 hN => ⟨ds.length - (i + 1), by omega, rfl, hlt, hN⟩, fun x H2 y => ?_⟩
    obtain ⟨F2, x2, r2⟩ := hJ.yld i ds[i] F' H' x H2 (by simp [hlt]) s' S'.fh y
    have S2 := S'.step x2.any (S'.bo.ext x2)
    have q3 := q2.mono x2.ff
    rw [List.drop_eq_getElem_cons hlt, sFor.go] at q3
    cases eg : g ds[i] ρ' with
    | none => rw [eg] at q3; exact q3.elim
    | some ρ1 =>
      rw [eg, ofO_some, bind_ok] at q3
      refine ⟨F2, ρ', ω', ds[i], ρ1, S2, r2, eg, fun σ3 S3 _ => ⟨F2, ρ1, ω', S3, ?_⟩⟩
      cases eb : db ρ1 ω' with
      | bad => rw [eb] at q3; exact q3.elim
      | exc ex y => rw [eb] at q3; exact q3
      | ok f w =>
        rw [eb, bind_ok] at q3
        cases f with
        | next ρ4 => exact fun F4 σ4 H4 s4 S4 => ⟨F4, ρ4, w, (s'.trans x2.ff).trans s4, S4, q3.mono s4⟩
        | cont ρ4 => exact fun F4 σ4 H4 s4 S4 => ⟨F4, ρ4, w, (s'.trans x2.ff).trans s4, S4, q3.mono s4⟩
        | brk ρ4 => exact q3
        | ret v => exact q3
  · have e : i = ds.length := by omega
    subst e
    rw [List.drop_length, sFor.go] at q2
    exact .inl ⟨hJ.stop F' H' s' S'.fh, q2 F' σ' H' (Same.refl _) S'⟩
theorem s_while {t : Expr} {dt : Ev → MM Bool} {db : Ev → MM Fl} {body : List Stmt} (hp : PassesOwn (model X.prog X.w) X.A X.env X.xe) (ht : B c W m X t dt) (hb : PSs X body (TSD c W m m m m db)) : PS X (.While t body [] pos) (TSD c W m m mb mc (sWhile dt db)) := PSimp (ps_while hp ht hb) fun D' σ H ⟨F, ρ, ω, S, q⟩ => by
  have hne : sWhile dt db ρ ω ≠ .bad := fun z => by rw [z] at q; exact q
  obtain ⟨n, hn⟩ := sWhile_some hne
  rw [← hn] at q
  refine ⟨fun n σ' H' => ∃ F' ρ' ω', SR c m F' ρ' ω' σ' H' ∧ PostS c W m mb mc F' D' (whileN dt db n ρ' ω'), ⟨n, F, ρ, ω, S, q⟩, ?_⟩
  rintro n σ' H' ⟨F', ρ', ω', S', q2⟩
  cases n with
  | zero => exact q2.elim
  | succ n =>
    have q' : GS c W m mb mc D' F' H' (whileN dt db (n + 1) ρ' ω') := ⟨S'.fr.xt, q2⟩
    unfold whileN at q'
    refine ⟨F', ρ', ω', S', bindT S' GS.pg q' fun b F1 H1 w1 x1 S1 q1 => ?_⟩
    cases b with
    | false => exact iteF (q1.2 F1 σ' H1 (Same.refl _) S1)
    | true =>
      refine iteT ⟨fun σ2 H2 => ∃ F2 ρ2 ω2, SR c m F2 ρ2 ω2 σ2 H2 ∧ PostS c W m mb mc F2 D' (whileN dt db n ρ2 ω2), fun σ2 H2 hN => ⟨n, by omega, hN⟩, F1, ρ', w1, S1, ?_⟩
      have q3 := q1.2
      cases eb : db ρ' w1 with
      | bad => simp only [eb, bind_bad] at q3; exact q3.elim
      | exc ex y => simp only [eb, bind_exc] at q3; exact q3
      | ok f w =>
        simp only [eb, bind_ok] at q3
        cases f with
        | next ρ4 => exact fun F4 σ4 H4 s4 S4 => ⟨F4, ρ4, w, S4, q3.mono s4⟩
        | cont ρ4 => exact fun F4 σ4 H4 s4 S4 => ⟨F4, ρ4, w, S4, q3.mono s4⟩
        | brk ρ4 => exact q3
        | ret v => exact q3

/-! ### lists that are one's own -/
def TDf (c : CM) (W : WX) (m : Md) (d : Ev → MM (List D)) : TE := fun σ H Q => ∃ F ρ ω, SR c m F ρ ω σ H ∧ Post c W F H σ (fun ds F' H' _ => ∀ l us, H l = none → F' l = none → H' l = some (.lst us) → RpL c.K F' us ds → Q (.ref l) H') (d ρ ω)
abbrev EF (c : CM) (W : WX) (m : Md) (X : Cx) (e : Expr) (d : Ev → MM (List D)) : Prop := PE X e (TDf c W m d)
def eOfF (d : Ev → MM (List D)) : Ev → MM D := fun ρ ω => (d ρ ω).bind fun ds w => .ok (.list ds) w
theorem freeze_new {F H F' H' : Hp} {l : Addr} {us : List V} (xt : Xt c.b F H F' H') (h0 : H l = none) (h1 : F' l = none) (h2 : H' l = some (.lst us)) : Xt c.b F H (upd F' l (.lst us)) H' := by
  refine ⟨xt.ff.trans (same_upd h1), fun a o e => ?_, xt.keep, xt.dom, fun a h => ?_⟩
  · by_cases ha : a = l
    · subst ha; rw [upd_same] at e; cases e; exact h2
    · rw [upd_ne ha] at e; exact xt.fh _ _ e
  · have ha : a ≠ l := fun z => h (z ▸ h0)
    rw [upd_ne ha]; exact xt.new a h
theorem bo_freeze {F' H' : Hp} {ω : Wd} {l : Addr} {us : List V} (bo : BorOk c F' ω H') (h1 : F' l = none) (hb : c.b ≠ some l) : BorOk c (upd F' l (.lst us)) ω H' := fun b e => by
  obtain ⟨b0, b1, bu, b2, b3⟩ := bo b e
  have hbl : b ≠ l := fun z => hb (z ▸ e)
  exact ⟨b0, by rw [upd_ne hbl]; exact b1, bu, b2, b3.mono (same_upd h1)⟩
theorem new_ne_b {F : Hp} {ρ : Ev} {ω : Wd} {σ : L2.St} {H : Hp} {l : Addr} (S : SR c m F ρ ω σ H) (h : H l = none) : c.b ≠ some l := fun z => by
  obtain ⟨_, _, _, b2, _⟩ := S.bo l z
  rw [b2] at h
  cases h
theorem new_h0 {F : Hp} {ρ : Ev} {ω : Wd} {σ : L2.St} {H : Hp} {l : Addr} (S : SR c m F ρ ω σ H) (h : H l = none) : c.H0 l = none := by
  cases e : c.H0 l with
  | none => rfl
  | some o => exact absurd h (S.fr.xt.dom l (by rw [e]; simp))
theorem f_imp {d : Ev → MM (List D)} : ∀ σ H Q, TD c W m (eOfF d) σ H Q → TDf c W m d σ H Q := fun σ H Q ⟨F, ρ, ω, S, q⟩ => by
  refine ⟨F, ρ, ω, S, ?_⟩
  unfold eOfF at q
  cases hd : d ρ ω with
  | bad => rw [hd] at q; exact q
  | exc x y => rw [hd] at q; exact q
  | ok ds w =>
    rw [hd] at q
    exact fun F' H' xt bo l us h0 h1 h2 r => q _ H' (freeze_new xt h0 h1 h2) (bo_freeze bo h1 (new_ne_b S h0)) _ (.lst upd_same (r.mono (same_upd h1)))
theorem e_ofF {d : Ev → MM (List D)} (h : EF c W m X e d) : E c W m X e (eOfF d) := PEimp h f_imp
def sOwn (i : Nat) (d : Ev → MM (List D)) : Ev → MM Fl := fun ρ ω => (d ρ ω).bind fun ds w => .ok (.next (put ρ i (.list ds))) w
theorem own_imp {i : Nat} {d : Ev → MM (List D)} (hb : m.B ≠ some i) : ∀ D' σ H, TSD c W m (m.add i) mb mc (sOwn i d) D' σ H → tAsg (TDf c W m d) (gName i) D' σ H := fun D' σ H ⟨F, ρ, ω, S, q⟩ => by
  refine ⟨F, ρ, ω, S, ?_⟩
  unfold sOwn at q
  cases hd : d ρ ω with
  | bad => rw [hd] at q; exact q
  | exc x y =>
    rw [hd] at q
    exact fun F' H' cls dd xt bo r => q F' σ H' cls dd xt.ff ⟨S.fr.xt.trans xt, bo⟩ r
  | ok ds w =>
    rw [hd] at q
    intro F' H' xt bo l us h0 h1 h2 r
    refine q F' _ H' xt.ff ((S.step xt bo).putOwn (new_h0 S h0) h1 h2 r hb fun j dj hj hO e z => ?_)
    obtain ⟨l', us', ds', k1, k2, k3, k4, k5, k6⟩ := S.own j dj e hO
    rw [z] at k1
    cases k1
    rw [h0] at k5
    cases k5
theorem s_own {i : Nat} {t1 v1 : Expr} {d : Ev → MM (List D)} (hv : EF c W m X v1 d) (h : PE X v1 (TDf c W m d) → PS X (.Assign [t1] v1 pos) (tAsg (TDf c W m d) (gName i))) (hb : m.B ≠ some i := by decide) : PS X (.Assign [t1] v1 pos) (TSD c W m (m.add i) mb mc (sOwn i d)) := PSimp (h hv) (own_imp hb)
theorem s_ownLc {i : Nat} {te : TE} {d : Ev → MM (List D)} (h : PS X st (tAsg te (gName i))) (hi : ∀ σ H Q, TDf c W m d σ H Q → te σ H Q) (hb : m.B ≠ some i := by decide) : PS X st (TSD c W m (m.add i) mb mc (sOwn i d)) := PSimp h fun D' σ H q => hi _ _ _ (own_imp hb D' σ H q)
theorem f_lst {ds : Ev → MM (List D)} (h : A c W m X es ds) (hl : es.length ≤ 1000 := by decide) : EF c W m X (.List es pos) ds :=
  PEimp (pe_lst h.pa) fun σ H Q ⟨F, ρ, ω, S, q⟩ => by
    refine ⟨F, ρ, ω, S, ?_⟩
    have al := h.len ρ ω
    cases e : ds ρ ω with
    | bad => rw [e] at q; exact q
    | exc x y => rw [e] at q; exact q
    | ok r w =>
      rw [e] at q
      intro F' H' xt bo xs rp
      refine ⟨by rw [rp.length, al r w e]; exact Nat.le_of_lt (small1000 hl), fun p np => ?_⟩
      have x2 : Xt none F' H' F' (upd H' p (.lst xs)) := Xt.alloc0 xt.fh np
      have hp : H p = none := by
        cases z : H p with
        | none => rfl
        | some o => exact absurd np (xt.dom p (by rw [z]; simp))
      exact q _ _ (xt.trans x2.any) (bo.ext x2) p xs hp (Same.none xt.fh np) upd_same rp
theorem new_none {F H F' H' : Hp} {p : Addr} {b : Option Addr} (xt : Xt b F H F' H') (np : H' p = none) : H p = none := by
  cases z : H p with
  | none => rfl
  | some o => exact absurd np (xt.dom p (by rw [z]; simp))
/-- xs * k as a list of one's own -/
def fRep (d1 d2 : Ev → MM D) : Ev → MM (List D) := fun ρ ω => (d1 ρ ω).bind fun a w => (d2 ρ w).bind fun b w => match a, b with
  | .list xs, .int k => if -(2 ^ 63) ≤ k ∧ k < 2 ^ 63 ∧ xs.length * k.toNat ≤ sizeLine then .ok (List.replicate k.toNat xs).flatten w else .bad
  | _, _ => .bad
theorem f_rep {a b : Expr} {d1 d2 : Ev → MM D} (h1 : E c W m X a d1) (h2 : E c W m X b d2) : EF c W m X (.BinOp a .Mult b pos) (fRep d1 d2) :=
  PEimp (pe_op op_rep h1 h2) fun σ H Q ⟨F, ρ, ω, S, q⟩ => bin_step S Post.pg q fun F2 H2 x y a b w x2 S2 r1 r2 q2 => by
    cases r1 with
    | lst g1 g2 =>
      cases r2 with
      | int k =>
        by_cases hz : -(2 ^ 63) ≤ k ∧ k < 2 ^ 63 ∧ (List.length ‹List D›) * k.toNat ≤ sizeLine
        · simp only [if_pos hz] at q2
          refine ⟨_, k, _, rfl, rfl, S2.fh _ _ g1, hz.1, hz.2.1, by rw [g2.length]; exact hz.2.2, fun p np => ?_⟩
          exact q2 F2 _ (Xt.alloc0 S2.fh np) (S2.bo.ext (Xt.alloc0 S2.fh np)) p _ (new_none x2 np) (Same.none S2.fh np) upd_same (g2.rep _)
        · simp only [if_neg hz] at q2
          exact q2.elim
      | _ => exact q2.elim
    | _ => exact q2.elim
/-- list(xs) as a list of one's own -/
def fListF (d : Ev → MM (List D)) : Ev → MM (List D) := fun ρ ω => (d ρ ω).bind fun r w => match r with
  | [.list xs] => .ok xs w
  | [.tuple xs] => .ok xs w
  | _ => .bad
theorem f_list {x : PySem.Str} {p : Pos} {ds : Ev → MM (List D)} (hk : X.K = c.K) (hg : Gl X "list") (hm : X.mg "list" = none) (ha : A c W m X [e] ds)
    (he : starEach [e] X.env = (false, eval e X.env) :: starEach [] X.env := by rfl) (hpl : (backTo pos (starEach [] X.env)).any (·.1) = false := by rfl) : EF c W m X (.Call (.Name "list" p) [e] [] pos) (fListF ds) :=
  PEimp (pe_callTy call_list_of hg hm boot_list ha.pa (by decide) (by decide) he hpl) fun σ H Q ⟨F, ρ, ω, S, q⟩ => ⟨F, ρ, ω, S, bindT S Post.pg q fun as F1 H1 w1 x1 S1 q1 xs r => by
    match as, q1, r with
    | [.list ds], q1, r =>
      obtain ⟨v, rfl, r1⟩ := r.one
      obtain ⟨a, ys, rfl, h1, h2⟩ := r1.vlst
      exact ⟨a, ys, rfl, .inl (SqL.of (S1.fh _ _ h1)), fun p np => q1 F1 _ (Xt.alloc0 S1.fh np) (S1.bo.ext (Xt.alloc0 S1.fh np)) p _ (new_none x1 np) (Same.none S1.fh np) upd_same h2⟩
    | [.tuple ds], q1, r =>
      obtain ⟨v, rfl, r1⟩ := r.one
      obtain ⟨a, ys, rfl, h1, h2⟩ := r1.vtup
      exact ⟨a, ys, rfl, .inr (by rw [hk]; exact sameT S1.fh h1), fun p np => q1 F1 _ (Xt.alloc0 S1.fh np) (S1.bo.ext (Xt.alloc0 S1.fh np)) p _ (new_none x1 np) (Same.none S1.fh np) upd_same h2⟩
    | [], q1, r => exact q1.elim
    | [.none], q1, r => exact q1.elim
    | [.bool _], q1, r => exact q1.elim
    | [.int _], q1, r => exact q1.elim
    | [.str _], q1, r => exact q1.elim
    | [.dict _], q1, r => exact q1.elim
    | a :: _ :: _, q1, r => cases a <;> exact q1.elim⟩
def sApp (i : Nat) (d : Ev → MM D) : Ev → MM Fl := fun ρ ω => match look ρ i with
  | some (.list ds) => (d ρ ω).bind fun v w => if ds.length < sizeLine then .ok (.next (put ρ i (.list (ds ++ [v])))) w else .bad
  | _ => .bad
theorem s_app {i : Nat} {o a1 : Expr} {nm : Str} {p2 p3 p4 : Pos} {d : Ev → MM D} (hO : i ∈ m.O) (he : E c W m X a1 d) (h : PE X a1 (TD c W m d) → PS X (.Expr (.Call (.Attribute o nm p2) [a1] [] p3) p4) (tDrop (tBM X.K "list" rAppend (tVar i) (tCons (TD c W m d) tNil)))) : PS X (.Expr (.Call (.Attribute o nm p2) [a1] [] p3) p4) (TSD c W m m mb mc (sApp i d)) := PSimp (h he) fun D' σ H ⟨F, ρ, ω, S, q⟩ => by
  unfold sApp at q
  cases hl : look ρ i with
  | none => rw [hl] at q; exact q.elim
  | some a =>
    rw [hl] at q
    obtain ⟨l, us, ds, k1, k2, k3, k4, k5, k6⟩ := S.own i a (look_iff hl) hO
    subst k2
    refine ⟨_, k1, .inl ⟨rfl, _, SqL.of k5⟩, F, ρ, ω, S, bindT S (GS.pg (D' := D')) (k := fun v w => if ds.length < sizeLine then .ok (.next (put ρ i (.list (ds ++ [v])))) w else .bad) (⟨S.fr.xt, q⟩ : GS c W m mb mc D' F H _) fun v F1 H1 w1 x1 S1 q1 y r1 => ?_⟩
    have h5 : H1 l = some (.lst us) := x1.keep l _ k5 fun z => (S.bo l z).1 k3
    refine ⟨l, us, y, rfl, rfl, h5, ?_, ?_⟩
    · by_cases hz : ds.length < sizeLine
      · rw [k6.length]; exact hz
      · rw [if_neg hz] at q1; exact q1.2.elim
    · by_cases hz : ds.length < sizeLine
      · rw [if_pos hz] at q1
        exact q1.2 F1 σ _ (Same.refl _) (S1.write hO (look_iff hl) k1 h5 ((k6.mono x1.ff).append (.cons r1 .nil)))
      · rw [if_neg hz] at q1; exact q1.2.elim
def sExt (i : Nat) (d : Ev → MM D) : Ev → MM Fl := fun ρ ω => match look ρ i with
  | some (.list ds) => (d ρ ω).bind fun v w => match v with
    | .list es => if ds.length + es.length ≤ sizeLine then .ok (.next (put ρ i (.list (ds ++ es)))) w else .bad
    | _ => .bad
  | _ => .bad
theorem s_ext {i : Nat} {o a1 : Expr} {nm : Str} {p2 p3 p4 : Pos} {d : Ev → MM D} (hO : i ∈ m.O) (he : E c W m X a1 d) (h : PE X a1 (TD c W m d) → PS X (.Expr (.Call (.Attribute o nm p2) [a1] [] p3) p4) (tDrop (tBM X.K "list" rExtend (tVar i) (tCons (TD c W m d) tNil)))) : PS X (.Expr (.Call (.Attribute o nm p2) [a1] [] p3) p4) (TSD c W m m mb mc (sExt i d)) := PSimp (h he) fun D' σ H ⟨F, ρ, ω, S, q⟩ => by
  unfold sExt at q
  cases hl : look ρ i with
  | none => rw [hl] at q; exact q.elim
  | some a =>
    rw [hl] at q
    obtain ⟨l, us, ds, k1, k2, k3, k4, k5, k6⟩ := S.own i a (look_iff hl) hO
    subst k2
    have q' : GS c W m mb mc D' F H _ := ⟨S.fr.xt, q⟩
    refine ⟨_, k1, .inl ⟨rfl, _, SqL.of k5⟩, F, ρ, ω, S, bindT S GS.pg q' fun v F1 H1 w1 x1 S1 q1 y r1 => ?_⟩
    have h5 : H1 l = some (.lst us) := x1.keep l _ k5 fun z => (S.bo l z).1 k3
    cases r1 with
    | lst g1 g2 =>
      by_cases hz : ds.length + (List.length ‹List D›) ≤ sizeLine
      · simp only [if_pos hz] at q1
        exact ⟨l, _, us, _, rfl, rfl, h5, S1.fh _ _ g1, by rw [k6.length, g2.length]; exact hz, q1.2 F1 σ _ (Same.refl _) (S1.write hO (look_iff hl) k1 h5 ((k6.mono x1.ff).append g2))⟩
      · simp only [if_neg hz] at q1
        exact q1.2.elim
    | _ => exact q1.2.elim
/-- xs[i] = v of a list of one's own -/
def sSetIx (i : Nat) (dv dk : Ev → MM D) : Ev → MM Fl := fun ρ ω => (dv ρ ω).bind fun v w => match look ρ i with
  | some (.list ds) => (dk ρ w).bind fun k w => match k with
    | .int k => (ofO (ixN ds.length k) w).bind fun j w => .ok (.next (put ρ i (.list (ds.set j v)))) w
    | _ => .bad
  | _ => .bad
theorem s_setix {i : Nat} {o k1 v1 : Expr} {p2 p3 : Pos} {dv dk : Ev → MM D} (hO : i ∈ m.O) (hv : E c W m X v1 dv) (hk : E c W m X k1 dk) (h : PE X v1 (TD c W m dv) → PE X k1 (TD c W m dk) → PS X (.Assign [.Subscript o k1 p2] v1 p3) (tAsg (TD c W m dv) (gSub (tVar i) (TD c W m dk) rSetL))) : PS X (.Assign [.Subscript o k1 p2] v1 p3) (TSD c W m m mb mc (sSetIx i dv dk)) := PSimp (h hv hk) fun D' σ H ⟨F, ρ, ω, S, q⟩ => by
  have q' : GS c W m mb mc D' F H _ := ⟨S.fr.xt, q⟩
  refine ⟨F, ρ, ω, S, bindT S GS.pg q' fun v F1 H1 w1 x1 S1 q1 y r1 => ?_⟩
  cases hl : look ρ i with
  | none => simp only [hl] at q1; exact q1.2.elim
  | some a =>
    simp only [hl] at q1
    obtain ⟨l, us, ds, k1, k2, k3, k4, k5, k6⟩ := S1.own i a (look_iff hl) hO
    subst k2
    refine ⟨_, k1, F1, ρ, w1, S1, bindT S1 GS.pg q1 fun k F2 H2 w2 x2 S2 q2 z r2 => ?_⟩
    have h5 : H2 l = some (.lst us) := x2.keep l _ k5 fun z => (S1.bo l z).1 k3
    cases r2 with
    | int k =>
      cases hj : ixN ds.length k with
      | none => simp only [hj] at q2; exact q2.2.elim
      | some j =>
        simp only [hj, ofO_some, bind_ok] at q2
        exact ⟨l, us, k, j, rfl, rfl, h5, by rw [k6.length]; exact hj, q2.2 F2 σ _ (Same.refl _) (S2.write hO (look_iff hl) k1 h5 ((k6.mono x2.ff).set (r1.mono x2.ff) j))⟩
    | _ => exact q2.2.elim
/-- xs[i] of a list of one's own -/
def eIxO (i : Nat) (dk : Ev → MM D) : Ev → MM D := fun ρ ω => match look ρ i with
  | some (.list ds) => (dk ρ ω).bind fun k w => match k with
    | .int k => ofO (atI ds k) w
    | _ => .bad
  | _ => .bad
theorem e_ixO {i : Nat} {o k1 : Expr} {dk : Ev → MM D} (hO : i ∈ m.O) (hk : E c W m X k1 dk) (h : PE X k1 (TD c W m dk) → PE X (.Subscript o k1 pos) (tOp (rIxL X.K) (tVar i) (TD c W m dk))) : E c W m X (.Subscript o k1 pos) (eIxO i dk) := PEimp (h hk) fun σ H Q ⟨F, ρ, ω, S, q⟩ => by
  unfold eIxO at q
  cases hl : look ρ i with
  | none => rw [hl] at q; exact q.elim
  | some a =>
    rw [hl] at q
    obtain ⟨l, us, ds, k1, k2, k3, k4, k5, k6⟩ := S.own i a (look_iff hl) hO
    subst k2
    refine ⟨_, k1, F, ρ, ω, S, bindT S Post.pg q fun k F1 H1 w1 x1 S1 q1 z r1 => ?_⟩
    have h5 : H1 l = some (.lst us) := x1.keep l _ k5 fun z => (S.bo l z).1 k3
    cases r1 with
    | int k =>
      obtain ⟨v, e1, q3⟩ := post_ofO S1.fh S1.bo q1
      have e1' := e1
      unfold atI at e1'
      obtain ⟨j, e2, e3⟩ := Option.bind_eq_some_iff.mp e1'
      obtain ⟨u, e4, e5⟩ := k6.get e3
      refine ⟨l, us, k, u, rfl, rfl, SqL.of h5, ?_, q3 F1 H1 (Xt.refl S1.fh) u (e5.mono x1.ff)⟩
      unfold atI
      rw [k6.length, e2]
      exact e4
    | _ => exact q1.elim
/-- len(xs) of a list of one's own -/
def eLenO (i : Nat) : Ev → MM D := fun ρ ω => match look ρ i with
  | some (.list ds) => .ok (.int ds.length) ω
  | _ => .bad
theorem e_lenO {i : Nat} (hO : i ∈ m.O) (h : PE X e (tCB (fun xs H Q => ∃ x n, xs = [x] ∧ LenV X.K x H n ∧ Q (.int n) H) (tCons (tVar i) tNil))) : E c W m X e (eLenO i) := PEimp h fun σ H Q ⟨F, ρ, ω, S, q⟩ => by
  unfold eLenO at q
  cases hl : look ρ i with
  | none => rw [hl] at q; exact q.elim
  | some a =>
    rw [hl] at q
    obtain ⟨l, us, ds, k1, k2, k3, k4, k5, k6⟩ := S.own i a (look_iff hl) hO
    subst k2
    exact ⟨_, k1, _, ds.length, rfl, .inl ⟨us, SqL.of k5, k6.length.symm⟩, q F H (Xt.refl S.fh) S.bo _ (.int _)⟩

/-! ### the borrowed list -/
def eIxB (dk : Ev → MM D) : Ev → MM D := fun ρ ω => (dk ρ ω).bind fun k w => match k with
  | .int k => ofO (atI w k) w
  | _ => .bad
theorem e_ixB {i : Nat} {o k1 : Expr} {dk : Ev → MM D} (hB : m.B = some i) (hk : E c W m X k1 dk) (h : PE X k1 (TD c W m dk) → PE X (.Subscript o k1 pos) (tOp (rIxL X.K) (tVar i) (TD c W m dk))) : E c W m X (.Subscript o k1 pos) (eIxB dk) := PEimp (h hk) fun σ H Q ⟨F, ρ, ω, S, q⟩ => by
  obtain ⟨_, b, hb, k1⟩ := S.bsl i hB
  refine ⟨_, k1, F, ρ, ω, S, bindT S Post.pg q fun k F1 H1 w1 x1 S1 q1 z r1 => ?_⟩
  obtain ⟨_, _, us, h5, k6⟩ := S1.bo b hb
  cases r1 with
  | int k =>
    obtain ⟨v, e1, q3⟩ := post_ofO S1.fh S1.bo q1
    have e1' := e1
    unfold atI at e1'
    obtain ⟨j, e2, e3⟩ := Option.bind_eq_some_iff.mp e1'
    obtain ⟨u, e4, e5⟩ := k6.get e3
    refine ⟨b, us, k, u, rfl, rfl, SqL.of h5, ?_, q3 F1 H1 (Xt.refl S1.fh) u e5⟩
    unfold atI
    rw [k6.length, e2]
    exact e4
  | _ => exact q1.elim
def sSetB (dv dk : Ev → MM D) : Ev → MM Fl := fun ρ ω => (dv ρ ω).bind fun v w => (dk ρ w).bind fun k w => match k with
  | .int k => (ofO (ixN w.length k) w).bind fun j w => .ok (.next ρ) (w.set j v)
  | _ => .bad
theorem s_setB {i : Nat} {o k1 v1 : Expr} {p2 p3 : Pos} {dv dk : Ev → MM D} (hB : m.B = some i) (hv : E c W m X v1 dv) (hk : E c W m X k1 dk) (h : PE X v1 (TD c W m dv) → PE X k1 (TD c W m dk) → PS X (.Assign [.Subscript o k1 p2] v1 p3) (tAsg (TD c W m dv) (gSub (tVar i) (TD c W m dk) rSetL))) : PS X (.Assign [.Subscript o k1 p2] v1 p3) (TSD c W m m mb mc (sSetB dv dk)) := PSimp (h hv hk) fun D' σ H ⟨F, ρ, ω, S, q⟩ => by
  have q' : GS c W m mb mc D' F H _ := ⟨S.fr.xt, q⟩
  refine ⟨F, ρ, ω, S, bindT S GS.pg q' fun v F1 H1 w1 x1 S1 q1 y r1 => ?_⟩
  obtain ⟨_, b, hb, k1⟩ := S1.bsl i hB
  refine ⟨_, k1, F1, ρ, w1, S1, bindT S1 GS.pg q1 fun k F2 H2 w2 x2 S2 q2 z r2 => ?_⟩
  obtain ⟨_, _, us, h5, k6⟩ := S2.bo b hb
  cases r2 with
  | int k =>
    cases hj : ixN w2.length k with
    | none => simp only [hj] at q2; exact q2.2.elim
    | some j =>
      simp only [hj, ofO_some, bind_ok] at q2
      exact ⟨b, us, k, j, rfl, rfl, h5, by rw [k6.length]; exact hj, q2.2 F2 σ _ (Same.refl _) (S2.writeB hb (k6.set (r1.mono x2.ff) j))⟩
  | _ => exact q2.2.elim
end
end M

set_option Elab.async false
set_option linter.all false
set_option maxRecDepth 100000
set_option maxHeartbeats 4000000
namespace M
open PySem PySem.Spec PyProof.Rows L2

/-! ### comprehensions -/
def wipeD (ρ : Ev) : List Nat → Ev
  | [] => ρ
  | v :: vs => (wipeD ρ vs).set v none
def Md.delL (m : Md) : List Nat → Md
  | [] => m
  | v :: vs => (m.delL vs).del v
theorem delL_B (m : Md) : ∀ vs, (m.delL vs).B = m.B
  | [] => rfl
  | v :: vs => delL_B m vs
theorem SR.forget {c : CM} {m : Md} {F : Hp} {ρ : Ev} {ω : Wd} {σ : L2.St} {H : Hp} (S : SR c m F ρ ω σ H) {v : Nat} (hb : m.B ≠ some v) : SR c (m.del v) F (ρ.set v none) ω (σ.set v none) H where
  fr := S.fr
  len := by simp [S.len]
  dat := fun i d e n => by
    have hi : i ≠ v := fun z => by
      subst z
      by_cases hl : i < ρ.length
      · rw [List.getElem?_set_self hl] at e; cases e
      · rw [List.getElem?_eq_none (by simpa using hl)] at e; cases e
    rw [List.getElem?_set_ne (Ne.symm hi)] at e ⊢
    exact S.dat i d e fun z => n (mem_del.mpr ⟨z, hi⟩)
  own := fun i d e n => by
    obtain ⟨n1, n2⟩ := mem_del.mp n
    rw [List.getElem?_set_ne (Ne.symm n2)] at e ⊢
    exact S.own i d e n1
  sep := fun i j l di dj oi oj ei ej si sj => by
    obtain ⟨n1, n2⟩ := mem_del.mp oi
    obtain ⟨n3, n4⟩ := mem_del.mp oj
    rw [List.getElem?_set_ne (Ne.symm n2)] at ei si
    rw [List.getElem?_set_ne (Ne.symm n4)] at ej sj
    exact S.sep i j l di dj n1 n3 ei ej si sj
  bsl := fun i e => by
    have hi : i ≠ v := fun z => hb (by rw [← z]; exact e)
    obtain ⟨h1, b, h2, h3⟩ := S.bsl i e
    exact ⟨by rw [List.getElem?_set_ne (Ne.symm hi)]; exact h1, b, h2, by rw [List.getElem?_set_ne (Ne.symm hi)]; exact h3⟩
theorem SR.wipe {c : CM} {m : Md} {F : Hp} {ρ : Ev} {ω : Wd} {σ : L2.St} {H : Hp} (S : SR c m F ρ ω σ H) : ∀ {vs : List Nat}, (∀ v ∈ vs, m.B ≠ some v) → SR c (m.delL vs) F (wipeD ρ vs) ω (L2.wipe σ vs) H
  | [], _ => S
  | v :: vs, h => (SR.wipe S fun v hv => h v (by simp [hv])).forget (by rw [delL_B]; exact h v (by simp))
theorem wipe_get (σ : L2.St) (j : Nat) : ∀ vs : List Nat, (L2.wipe σ vs)[j]? = if j ∈ vs then (if j < σ.length then some none else none) else σ[j]?
  | [] => by simp [L2.wipe]
  | v :: vs => by
    unfold L2.wipe
    by_cases hj : v = j
    · subst hj
      by_cases hl : v < σ.length
      · rw [List.getElem?_set_self (by rw [wipe_length]; exact hl)]; simp [hl]
      · rw [List.getElem?_eq_none (by simp [wipe_length]; omega)]; simp [hl]
    · rw [List.getElem?_set_ne hj, wipe_get σ j vs]
      have : (j ∈ v :: vs) ↔ j ∈ vs := by simp [Ne.symm hj]
      by_cases hv : j ∈ vs
      · rw [if_pos hv, if_pos (this.mpr hv)]
      · rw [if_neg hv, if_neg (fun z => hv (this.mp z))]
theorem wipe_off {σ σ' : L2.St} {is vs : List Nat} (h : Off is (L2.wipe σ vs) σ') (hs : ∀ i ∈ is, i ∈ vs) : L2.wipe σ' vs = L2.wipe σ vs := by
  have hl : σ'.length = σ.length := by rw [h.1, wipe_length]
  apply List.ext_getElem?
  intro j
  rw [wipe_get, wipe_get, hl]
  by_cases hj : j ∈ vs
  · rw [if_pos hj, if_pos hj]
  · rw [if_neg hj, if_neg hj, h.2 j fun z => hj (hs j z), wipe_get, if_neg hj]
def noX {α : Type} : Res α → Res α
  | .exc _ _ => .bad
  | r => r
@[simp] theorem noX_ok {α : Type} (a : α) (w : Wd) : noX (.ok a w) = .ok a w := rfl
@[simp] theorem noX_bad {α : Type} : noX (.bad : Res α) = .bad := rfl
@[simp] theorem noX_exc {α : Type} (e : Ex) (w : Wd) : noX (.exc e w : Res α) = .bad := rfl
def W0 : WX := fun _ _ _ _ => False
def lcGo (g : D → Ev → Option Ev) (t : Ev → MM Bool) (d : Ev → MM D) (ρ0 : Ev) : List D → Wd → Res (List D)
  | [], w => .ok [] w
  | x :: xs, w => (ofO (g x ρ0) w).bind fun ρ1 w => (noX (t ρ1 w)).bind fun b w => match b with
    | true => (noX (d ρ1 w)).bind fun y w => (lcGo g t d ρ0 xs w).bind fun ys w => .ok (y :: ys) w
    | false => lcGo g t d ρ0 xs w
def lcD (di : Ev → MM (List D)) (g : D → Ev → Option Ev) (t : Ev → MM Bool) (d : Ev → MM D) (vs : List Nat) : Ev → MM (List D) := fun ρ ω => (di ρ ω).bind fun xs w => if xs.length ≤ sizeLine then lcGo g t d (wipeD ρ vs) xs w else .bad
def bYes : Ev → MM Bool := fun _ ω => .ok true ω
section
variable {c : CM} {W : WX} {m : Md} {X : Cx} {elt tg iter : Expr} {ifs : List Expr} {pos : Pos}
theorem PTsimp {X : Cx} {es : List Expr} {t t' : TT} (h : PTs X es t) (i : ∀ σ H Q, t' σ H Q → t σ H Q) : PTs X es t' := ⟨fun p s σ H Q I q => h.run p s σ H Q I (i _ _ _ q)⟩
theorem t_nil : PTs X [] (TDb c W m bYes) := PTsimp pts_nil fun σ H Q ⟨F, ρ, ω, S, q⟩ => q F H (Xt.refl S.fh) S.bo
theorem t_one {a : Expr} {d : Ev → MM Bool} (h : B c W m X a d) : PTs X [a] (TDb c W m d) := pts_one h
theorem noX_ne {α : Type} {r : Res α} {a : α} {w : Wd} (h : noX r = .ok a w) : r = .ok a w := by
  cases r with
  | ok b v => exact h
  | bad => cases h
  | exc e v => cases h
theorem bind_split {α β : Type} {r : Res α} {k : α → Wd → Res β} {b : β} {w : Wd} (h : r.bind k = .ok b w) : ∃ a v, r = .ok a v ∧ k a v = .ok b w := by
  cases r with
  | bad => cases h
  | exc e v => cases h
  | ok a v => exact ⟨a, v, rfl, h⟩
theorem lcGo_noexc (g : D → Ev → Option Ev) (t : Ev → MM Bool) (d : Ev → MM D) (ρ0 : Ev) : ∀ (xs : List D) (w : Wd) (e : Ex) (v : Wd), lcGo g t d ρ0 xs w ≠ .exc e v
  | [], _, _, _, h => by cases h
  | x :: xs, w, e, v, h => by
    unfold lcGo at h
    cases hg : g x ρ0 with
    | none => rw [hg] at h; cases h
    | some ρ1 =>
      rw [hg, ofO_some, bind_ok] at h
      cases ht : noX (t ρ1 w) with
      | bad => rw [ht] at h; cases h
      | exc ee vv =>
        have : ∀ r : Res Bool, noX r ≠ .exc ee vv := fun r => by cases r <;> intro z <;> cases z
        exact this _ ht
      | ok b w1 =>
        rw [ht, bind_ok] at h
        cases b with
        | false => exact lcGo_noexc g t d ρ0 xs w1 e v h
        | true =>
          simp only at h
          cases hd : noX (d ρ1 w1) with
          | bad => rw [hd] at h; cases h
          | exc ee vv =>
            have : ∀ r : Res D, noX r ≠ .exc ee vv := fun r => by cases r <;> intro z <;> cases z
            exact this _ hd
          | ok y w2 =>
            rw [hd, bind_ok] at h
            cases hr : lcGo g t d ρ0 xs w2 with
            | bad => rw [hr] at h; cases h
            | exc ee vv => exact lcGo_noexc g t d ρ0 xs w2 ee vv hr
            | ok ys w3 => rw [hr] at h; cases h
theorem lc_imp {is vs : List Nat} {di : Ev → MM (List D)} {g : D → Ev → Option Ev} {t : Ev → MM Bool} {d : Ev → MM D} {mt : Md} (hv : ∀ v ∈ vs, m.B ≠ some v) (his : ∀ i ∈ is, i ∈ vs) :
    ∀ σ H Q, TDf c W m (lcD di g t d vs) σ H Q → tLc (TID c W m di) (TGD c (m.delL vs) mt is g) (TDb c W0 mt t) (TD c W0 mt d) vs σ H Q := fun σ H Q ⟨F, ρ, ω, S, q⟩ => by
  unfold lcD at q
  refine ⟨F, ρ, ω, S, bindT S Post.pg q fun items F1 H1 w1 x1 S1 q1 J hJ => ?_⟩
  intro D1 hD
  by_cases hz : items.length ≤ sizeLine
  · rw [if_pos hz] at q1
    have SW := S1.wipe hv
    -- the whole has a value
    obtain ⟨out, wf, hout⟩ : ∃ out wf, lcGo g t d (wipeD ρ vs) items w1 = .ok out wf := by
      cases e : lcGo g t d (wipeD ρ vs) items w1 with
      | bad => rw [e] at q1; exact q1.elim
      | exc ee vv => exact absurd e (lcGo_noexc _ _ _ _ _ _ _ _)
      | ok a b => exact ⟨a, b, rfl⟩
    rw [hout] at q1
    have hbD : c.b ≠ some D1 := new_ne_b S1 hD
    have hD0 : H D1 = none := by
      cases z : H D1 with
      | none => rfl
      | some o => exact absurd hD (x1.dom D1 (by rw [z]; simp))
    refine ⟨fun i n H' => n = items.length - i ∧ i ≤ items.length ∧ ∃ F' ω' acc accD rest, Xt c.b F1 H1 F' H' ∧ BorOk c F' ω' H' ∧ F' D1 = none ∧ H' D1 = some (.lst acc) ∧ RpL c.K F' acc accD ∧ acc.length ≤ i ∧ lcGo g t d (wipeD ρ vs) (items.drop i) ω' = .ok rest wf ∧ out = accD ++ rest, ?_, ?_⟩
    · refine ⟨_, rfl, Nat.zero_le _, F1, w1, [], [], out, Xt.alloc0 S1.fh hD, S1.bo.ext (Xt.alloc0 S1.fh hD), Same.none S1.fh hD, upd_same, .nil, Nat.le_refl _, hout, rfl⟩
    · rintro i n H' ⟨rfl, hi, F', ω', acc, accD, rest, x', bo', fD, hD', racc, hlen, hgo, hsum⟩
      by_cases hlt : i < items.length
      · refine .inr ⟨hJ.go i F' H' hlt x'.ff x'.fh, fun H2 => ∃ F2 ω2 acc2 accD2 rest2, Xt c.b F1 H1 F2 H2 ∧ BorOk c F2 ω2 H2 ∧ F2 D1 = none ∧ H2 D1 = some (.lst acc2) ∧ RpL c.K F2 acc2 accD2 ∧ acc2.length ≤ i + 1 ∧ lcGo g t d (wipeD ρ vs) (items.drop (i + 1)) ω2 = .ok rest2 wf ∧ out = accD2 ++ rest2, fun H2 hN => ⟨items.length - (i + 1), by omega, rfl, hlt, hN⟩, fun x H2 y => ?_⟩
        obtain ⟨F2, xt2, r2⟩ := hJ.yld i items[i] F' H' x H2 (by simp [hlt]) x'.ff x'.fh y
        rw [List.drop_eq_getElem_cons hlt, lcGo] at hgo
        obtain ⟨ρ1, w2, e1, hgo1⟩ := bind_split hgo
        have eg : g items[i] (wipeD ρ vs) = some ρ1 ∧ w2 = ω' := by
          cases q : g items[i] (wipeD ρ vs) with
          | none => rw [q] at e1; cases e1
          | some z => rw [q] at e1; cases e1; exact ⟨rfl, rfl⟩
        obtain ⟨eg, rfl⟩ := eg
        obtain ⟨b, w3, e2, hgo2⟩ := bind_split hgo1
        have e2 := noX_ne e2
        have x2' : Xt c.b F1 H1 F2 H2 := x'.trans xt2.any
        have bo2 := bo'.ext xt2
        have S2 : SR c (m.delL vs) F2 (wipeD ρ vs) w2 (L2.wipe σ vs) H2 := SW.step x2' bo2
        refine ⟨F2, wipeD ρ vs, w2, items[i], ρ1, S2, r2, eg, fun σ2 S3 off => ⟨wipe_off off his, ?_⟩⟩
        · refine ⟨F2, ρ1, w2, S3, ?_⟩
          rw [e2]
          intro F3 H3 xt3 bo3
          have D3 : H3 D1 = some (.lst acc) := xt3.keep D1 _ (xt2.keep D1 _ hD' (by simp)) hbD
          have F3D : F3 D1 = none := by
            rw [xt3.new D1 (by rw [xt2.keep D1 _ hD' (by simp)]; simp), xt2.new D1 (by rw [hD']; simp)]
            exact fD
          cases b with
          | false =>
            refine iteF ⟨F3, w3, acc, accD, rest, x2'.trans xt3, bo3, F3D, D3, (racc.mono xt2.ff).mono xt3.ff, by omega, hgo2, hsum⟩
          | true =>
            obtain ⟨yv, w4, e3, hgo3⟩ := bind_split hgo2
            have e3 := noX_ne e3
            obtain ⟨ys, w5, e4, hgo4⟩ := bind_split hgo3
            cases hgo4
            refine iteT ⟨F3, ρ1, w3, S3.step xt3 bo3, ?_⟩
            rw [e3]
            intro F4 H4 xt4 bo4 z rz
            have D4 : H4 D1 = some (.lst acc) := xt4.keep D1 _ D3 hbD
            have F4D : F4 D1 = none := by rw [xt4.new D1 (by rw [D3]; simp)]; exact F3D
            refine ⟨acc, D4, by omega, F4, w4, acc ++ [z], accD ++ [yv], ys, ?_, ?_, F4D, upd_same, (((racc.mono xt2.ff).mono xt3.ff).mono xt4.ff).append (.cons rz .nil), by simp; omega, e4, by rw [hsum]; simp⟩
            · have xx := (x2'.trans xt3).trans xt4
              refine ⟨xx.ff, fun a o e => ?_, fun a o e nn => ?_, fun a h => ?_, xx.new⟩
              · have ha : a ≠ D1 := fun zz => by rw [zz, F4D] at e; cases e
                rw [upd_ne ha]; exact xx.fh _ _ e
              · have ha : a ≠ D1 := fun zz => by rw [zz, hD] at e; cases e
                rw [upd_ne ha]; exact xx.keep a o e nn
              · by_cases ha : a = D1
                · rw [ha, upd_same]; simp
                · rw [upd_ne ha]; exact xx.dom a h
            · intro b' hb'
              obtain ⟨b0, b1, bu, b2, b3⟩ := bo4 b' hb'
              have hne : b' ≠ D1 := fun zz => hbD (zz ▸ hb')
              exact ⟨b0, b1, bu, by rw [upd_ne hne]; exact b2, b3⟩
      · have e : i = items.length := by omega
        subst e
        rw [List.drop_length] at hgo
        cases hgo
        simp only [List.append_nil] at hsum
        subst hsum
        exact .inl ⟨hJ.stop F' H' x'.ff x'.fh, q1 F' H' x' bo' D1 acc hD0 fD hD' racc⟩
  · rw [if_neg hz] at q1
    exact q1.elim
end
end M

set_option Elab.async false
set_option linter.all false
set_option maxRecDepth 100000
set_option maxHeartbeats 4000000
namespace M
open PySem PySem.Spec PyProof.Rows L2

section
variable {c : CM} {W : WX} {m : Md} {X : Cx} {elt tg iter : Expr} {ifs : List Expr} {pos : Pos}
theorem f_lc {scope : Scope} {own : List (PySem.Str × Nat)} {vs : List Nat} {is : List Nat} {mt : Md} {di : Ev → MM (List D)} {g : D → Ev → Option Ev} {t : Ev → MM Bool} {d : Ev → MM D} (hc : X.calm = true) (hN : X.N.Nodup) (hi : PI X tg iter (TID c W m di)) (ok : BlkOk X.N X.env.scope scope own)
    (hg : ∀ (s : Shared) (H : Hp) (C : Addr) (cl : List (PySem.Str × Addr)) (fp : List Addr), PG (X.blk s H scope (compEnvC scope cl C X.env) fp) tg (TGD c (m.delL vs) mt is g)) (ht : ∀ (s : Shared) (H : Hp) (C : Addr) (cl : List (PySem.Str × Addr)) (fp : List Addr), PTs (X.blk s H scope (compEnvC scope cl C X.env) fp) ifs (TDb c W0 mt t))
    (he : ∀ (s : Shared) (H : Hp) (C : Addr) (cl : List (PySem.Str × Addr)) (fp : List Addr), PE (X.blk s H scope (compEnvC scope cl C X.env) fp) elt (TD c W0 mt d)) (hv : ∀ v ∈ vs, m.B ≠ some v := by decide) (his : ∀ i ∈ is, i ∈ vs := by decide) (hs : ∀ x, foldedSetIterable iter X.env x = pure x := by intro _; rfl) (hvs : own.map (·.2) = vs := by rfl) :
    EF c W m X (.ListComp elt [⟨tg, iter, ifs, 0⟩] scope pos) (lcD di g t d vs) := by
  subst hvs
  exact PEimp (pe_lc hc hN hi ok hg ht he hs) (lc_imp hv his)
/-- y = [..], the list frozen -/
theorem s_lc {i : Nat} {y : PySem.Str} {py spos : Pos} {scope : Scope} {own : List (PySem.Str × Nat)} {vs : List Nat} {is : List Nat} {mt mb mc : Md} {di : Ev → MM (List D)} {g : D → Ev → Option Ev} {t : Ev → MM Bool} {d : Ev → MM D} (hc : X.calm = true) (hN : X.N.Nodup) (hy : X.N[i]? = some y) (hyl : X.env.scope.names.lookup y = some .local)
    (hsw : swapsWith (.ListComp elt [⟨tg, iter, ifs, 0⟩] scope pos) (some (.Name y py)) spos.line X.env = pure true) (hi : PI X tg iter (TID c W m di)) (ok : BlkOk X.N X.env.scope scope own)
    (hg : ∀ (s : Shared) (H : Hp) (C : Addr) (cl : List (PySem.Str × Addr)) (fp : List Addr), PG (X.blk s H scope (compEnvC scope cl C X.env) fp) tg (TGD c (m.delL vs) mt is g)) (ht : ∀ (s : Shared) (H : Hp) (C : Addr) (cl : List (PySem.Str × Addr)) (fp : List Addr), PTs (X.blk s H scope (compEnvC scope cl C X.env) fp) ifs (TDb c W0 mt t))
    (he : ∀ (s : Shared) (H : Hp) (C : Addr) (cl : List (PySem.Str × Addr)) (fp : List Addr), PE (X.blk s H scope (compEnvC scope cl C X.env) fp) elt (TD c W0 mt d)) (hb : m.B ≠ some i := by decide) (hv : ∀ v ∈ vs, m.B ≠ some v := by decide) (his : ∀ i ∈ is, i ∈ vs := by decide) (hs : ∀ x, foldedSetIterable iter X.env x = pure x := by intro _; rfl) (hvs : own.map (·.2) = vs := by rfl) :
    PS X (.Assign [.Name y py] (.ListComp elt [⟨tg, iter, ifs, 0⟩] scope pos) spos) (TSD c W m (m.del i) mb mc (sAsg (eOfF (lcD di g t d vs)) (gN i))) := by
  subst hvs
  exact s_setLc (ps_setLc hc hN hy hyl hsw hi ok hg ht he hs) (fun σ H Q q => lc_imp hv his _ _ _ (f_imp _ _ _ q)) hb
theorem s_lcO {i : Nat} {y : PySem.Str} {py spos : Pos} {scope : Scope} {own : List (PySem.Str × Nat)} {vs : List Nat} {is : List Nat} {mt mb mc : Md} {di : Ev → MM (List D)} {g : D → Ev → Option Ev} {t : Ev → MM Bool} {d : Ev → MM D} (hc : X.calm = true) (hN : X.N.Nodup) (hy : X.N[i]? = some y) (hyl : X.env.scope.names.lookup y = some .local)
    (hsw : swapsWith (.ListComp elt [⟨tg, iter, ifs, 0⟩] scope pos) (some (.Name y py)) spos.line X.env = pure true) (hi : PI X tg iter (TID c W m di)) (ok : BlkOk X.N X.env.scope scope own)
    (hg : ∀ (s : Shared) (H : Hp) (C : Addr) (cl : List (PySem.Str × Addr)) (fp : List Addr), PG (X.blk s H scope (compEnvC scope cl C X.env) fp) tg (TGD c (m.delL vs) mt is g)) (ht : ∀ (s : Shared) (H : Hp) (C : Addr) (cl : List (PySem.Str × Addr)) (fp : List Addr), PTs (X.blk s H scope (compEnvC scope cl C X.env) fp) ifs (TDb c W0 mt t))
    (he : ∀ (s : Shared) (H : Hp) (C : Addr) (cl : List (PySem.Str × Addr)) (fp : List Addr), PE (X.blk s H scope (compEnvC scope cl C X.env) fp) elt (TD c W0 mt d)) (hb : m.B ≠ some i := by decide) (hv : ∀ v ∈ vs, m.B ≠ some v := by decide) (his : ∀ i ∈ is, i ∈ vs := by decide) (hs : ∀ x, foldedSetIterable iter X.env x = pure x := by intro _; rfl) (hvs : own.map (·.2) = vs := by rfl) :
    PS X (.Assign [.Name y py] (.ListComp elt [⟨tg, iter, ifs, 0⟩] scope pos) spos) (TSD c W m (m.add i) mb mc (sOwn i (lcD di g t d vs))) := by
  subst hvs
  exact s_ownLc (ps_setLc hc hN hy hyl hsw hi ok hg ht he hs) (lc_imp hv his) hb
theorem pass_ok {P : Program} {w : World} {K : PySem.W.Frag} {mg : PySem.Str → Option Value} {base : Heap} {N : List PySem.Str} {qual : PySem.Str} {scope : Scope} {f : Addr} {cd : Value} {A : Around} {outer : List Env} {s : Shared} {H : Hp} {E : XK} :
    PassesOwn (model P w) (cxOf (L2.CX P w) P w K mg base N qual scope f cd A outer s H E).A (cxOf (L2.CX P w) P w K mg base N qual scope f cd A outer s H E).env (cxOf (L2.CX P w) P w K mg base N qual scope f cd A outer s H E).xe := passes_of (X := cxOf (L2.CX P w) P w K mg base N qual scope f cd A outer s H E) rfl
theorem takes_ok {P : Program} {w : World} {K : PySem.W.Frag} {mg : PySem.Str → Option Value} {base : Heap} {N : List PySem.Str} {qual : PySem.Str} {scope : Scope} {f : Addr} {cd : Value} {A : Around} {outer : List Env} {s : Shared} {H : Hp} {E : XK} :
    Takes (cxOf (L2.CX P w) P w K mg base N qual scope f cd A outer s H E) (fun cls d _ H => E cls d H) := takes_of rfl rfl rfl rfl
end

/-! ### defs -/
def endF : Res Fl → Res D
  | .ok (.ret d) w => .ok d w
  | .ok (.next _) w => .ok .none w
  | .exc e w => .exc e w
  | _ => .bad
def runF (nl n : Nat) (db : Ev → MM Fl) : List D → Res D := fun ds => if ds.length = n then endF (db (ds.map some ++ List.replicate (nl - n) none) []) else .bad
def runS (nl n : Nat) (db : Ev → MM Fl) : List D → MM D := fun ds ω => if ds.length + 1 = n then endF (db (none :: (ds.map some ++ List.replicate (nl - n) none)) ω) else .bad
section
variable {P : Program} {w : World} {K : PySem.W.Frag} {mg : PySem.Str → Option Value} {base : Heap}
theorem start_get {N : List PySem.Str} {vs : List V} {i : Nat} {v : V} (h : vs[i]? = some v) : (L2.start N vs)[i]? = some (some v) := by
  unfold L2.start
  have hl := (List.getElem?_eq_some_iff.mp h).1
  rw [List.getElem?_append_left (by simpa using hl), List.getElem?_map, h]
  rfl
theorem ev_get {ds : List D} {r : Nat} {i : Nat} {d : D} (h : (ds.map some ++ List.replicate r (none : Option D))[i]? = some (some d)) : ds[i]? = some d := by
  by_cases hl : i < ds.length
  · rw [List.getElem?_append_left (by simpa using hl), List.getElem?_map] at h
    cases e : ds[i]? with
    | none => rw [e] at h; cases h
    | some x => rw [e] at h; simpa using h
  · rw [List.getElem?_append_right (by simpa using hl), List.getElem?_replicate] at h
    split at h <;> simp at h
theorem fn_P {x qual : PySem.Str} {st : Stmt} {f : Addr} {fd : FuncData} {N ps : List PySem.Str} {k n : Nat} {mn mb mc : Md} {db : Ev → MM Fl} (F : Fun K x qual st f fd) (S : FnScope N ps (defScope st)) (hn : ps.length = n)
    (der : ∀ (F0 : Hp) (cdv : Value) (A : Around) (outer : List Env) (s : Shared) (H : Hp) (E : XK), Room k (A.deeper (envOfC qual (defScope st) s.heap.objs.size f cdv)) →
      PSs (cxOf (L2.CX P w) P w K mg base N qual (defScope st) f cdv A outer s H E) (defBody st) (TSD ⟨K, mg, H, F0, none⟩ (fun cls d _ H => E cls d H) {} mn mb mc db)) :
    FnOk P w K mg base (L2.CX P w) (k + 1) f fd ps (spP K mg n (runF N.length n db)) := by
  refine F.okX S (fun vs H Q E ⟨_, _, h, _⟩ => by rw [h, hn]) fun cdv A outer s H vs Q E hr ⟨F0, ds, hlen, s0, r0, q⟩ => ?_
  refine ⟨_, der F0 cdv A outer s H E hr, F0, ds.map some ++ List.replicate (N.length - n) none, [], ?_, ?_⟩
  · refine ⟨⟨Xt.refl s0, (fun b e => nomatch e)⟩, ?_, fun i d e _ => ?_, (fun i d _ h => nomatch h), (fun i j l di dj h => nomatch h), (fun i e => nomatch e)⟩
    · unfold L2.start
      simp [← r0.length, hlen]
    · obtain ⟨v, h1, h2⟩ := r0.get (ev_get e)
      exact ⟨v, start_get h1, h2⟩
  · have hl : ds.length = n := by rw [← r0.length]; exact hlen
    unfold runF at q
    rw [if_pos hl] at q
    cases e : db (ds.map some ++ List.replicate (N.length - n) none) [] with
    | bad => rw [e] at q; exact q.elim
    | exc ex w' =>
      rw [e] at q
      exact fun F' σ' H' cls dd s' fr rx => q F' H' cls dd fr.xt rx
    | ok fl w' =>
      rw [e] at q
      cases fl with
      | next ρ => exact fun F' σ' H' s' S' => q F' H' .non S'.fr.xt .non
      | ret d => exact fun F' H' z s' fr rz => q F' H' z fr.xt rz
      | brk ρ => exact q.elim
      | cont ρ => exact q.elim
theorem fn_S {x qual : PySem.Str} {st : Stmt} {f : Addr} {fd : FuncData} {N ps : List PySem.Str} {k n : Nat} {mn mb mc : Md} {db : Ev → MM Fl} (F : Fun K x qual st f fd) (S : FnScope N ps (defScope st)) (hn : ps.length = n)
    (der : ∀ (F0 : Hp) (b : Addr) (cdv : Value) (A : Around) (outer : List Env) (s : Shared) (H : Hp) (E : XK), Room k (A.deeper (envOfC qual (defScope st) s.heap.objs.size f cdv)) →
      PSs (cxOf (L2.CX P w) P w K mg base N qual (defScope st) f cdv A outer s H E) (defBody st) (TSD ⟨K, mg, H, F0, some b⟩ (fun cls d _ H => E cls d H) ⟨[], some 0⟩ mn mb mc db)) :
    FnOk P w K mg base (L2.CX P w) (k + 1) f fd ps (spS K mg n (runS N.length n db)) := by
  refine F.okX S (fun vs H Q E ⟨_, _, _, _, _, _, _, h, _⟩ => by rw [h, hn]) fun cdv A outer s H vs Q E hr ⟨F0, b, us, ω, vs', ds, hv, hlen, s0, fb, hb, rω, r0, q⟩ => ?_
  subst hv
  have hl : ds.length + 1 = n := by rw [← r0.length]; simpa using hlen
  refine ⟨_, der F0 b cdv A outer s H E hr, F0, none :: (ds.map some ++ List.replicate (N.length - n) none), ω, ?_, ?_⟩
  · refine ⟨⟨Xt.refl s0, fun b' e => ?_⟩, ?_, fun i d e _ => ?_, (fun i d _ h => nomatch h), (fun i j l di dj h => nomatch h), fun i e => ?_⟩
    · cases e
      exact ⟨by show H b ≠ none; rw [hb]; simp, fb, us, hb, rω⟩
    · unfold L2.start
      have : vs'.length = ds.length := r0.length
      simp only [List.length_cons, List.length_append, List.length_map, List.length_replicate]
      omega
    · cases i with
      | zero => simp at e
      | succ i =>
        obtain ⟨v, h1, h2⟩ := r0.get (ev_get (by simpa using e))
        exact ⟨v, start_get (by simpa using h1), h2⟩
    · cases e
      exact ⟨rfl, b, rfl, start_get rfl⟩
  · unfold runS at q
    rw [if_pos hl] at q
    have bor : ∀ {F' H' : Hp} {w' : Wd}, BorOk ⟨K, mg, H, F0, some b⟩ F' w' H' → ∃ us', H' b = some (.lst us') ∧ RpL K F' us' w' := fun {F' H' w'} bo => by
      obtain ⟨_, _, us', h1, h2⟩ := bo b rfl
      exact ⟨us', h1, h2⟩
    cases e : db (none :: (ds.map some ++ List.replicate (N.length - n) none)) ω with
    | bad => rw [e] at q; exact q.elim
    | exc ex w' =>
      rw [e] at q
      intro F' σ' H' cls dd s' fr rx
      obtain ⟨us', h1, h2⟩ := bor fr.bo
      exact q F' H' cls dd us' fr.xt h1 h2 rx
    | ok fl w' =>
      rw [e] at q
      cases fl with
      | next ρ =>
        intro F' σ' H' s' S'
        obtain ⟨us', h1, h2⟩ := bor S'.fr.bo
        exact q F' H' .non us' S'.fr.xt h1 h2 .non
      | ret d =>
        intro F' H' z s' fr rz
        obtain ⟨us', h1, h2⟩ := bor fr.bo
        exact q F' H' z us' fr.xt h1 h2 rz
      | brk ρ => exact q.elim
      | cont ρ => exact q.elim
/-- how a def stands behind the top -/
def Def (K : PySem.W.Frag) (mg : PySem.Str → Option Value) (x : PySem.Str) (st : Stmt) (ps : List PySem.Str) : Prop := ∃ f fd, Fun K x x st f fd ∧ Binds K fd ps [] ∧ mg x = some (.ref f)
theorem own_P {x : PySem.Str} {st : Stmt} {N ps : List PySem.Str} {k n : Nat} {mn mb mc : Md} {db : Ev → MM Fl} (G : Def K mg x st ps) (S : FnScope N ps (defScope st)) (hn : ps.length = n)
    (der : ∀ (f : Addr) (F0 : Hp) (cdv : Value) (A : Around) (outer : List Env) (s : Shared) (H : Hp) (E : XK), Room k (A.deeper (envOfC x (defScope st) s.heap.objs.size f cdv)) →
      PSs (cxOf (L2.CX P w) P w K mg base N x (defScope st) f cdv A outer s H E) (defBody st) (TSD ⟨K, mg, H, F0, none⟩ (fun cls d _ H => E cls d H) {} mn mb mc db)) :
    FnD P w K mg base x (k + 1) n (runF N.length n db) := by
  obtain ⟨f, fd, F, b, g⟩ := G
  exact ⟨f, fd, ps, g, F.kp, b, fn_P F S hn (der f)⟩
theorem own_S {x : PySem.Str} {st : Stmt} {N ps : List PySem.Str} {k n : Nat} {mn mb mc : Md} {db : Ev → MM Fl} (G : Def K mg x st ps) (S : FnScope N ps (defScope st)) (hn : ps.length = n)
    (der : ∀ (f : Addr) (F0 : Hp) (b : Addr) (cdv : Value) (A : Around) (outer : List Env) (s : Shared) (H : Hp) (E : XK), Room k (A.deeper (envOfC x (defScope st) s.heap.objs.size f cdv)) →
      PSs (cxOf (L2.CX P w) P w K mg base N x (defScope st) f cdv A outer s H E) (defBody st) (TSD ⟨K, mg, H, F0, some b⟩ (fun cls d _ H => E cls d H) ⟨[], some 0⟩ mn mb mc db)) :
    FnS P w K mg base x (k + 1) n (runS N.length n db) := by
  obtain ⟨f, fd, F, b, g⟩ := G
  exact ⟨f, fd, ps, g, F.kp, b, fn_S F S hn (der f)⟩
/-- a def's value, told otherwise -/
theorem own_eq {x : PySem.Str} {k n : Nat} {fd fd' : List D → Res D} (G : FnD P w K mg base x k n fd) (h : ∀ ds, fd' ds ≠ .bad → fd ds = fd' ds) : FnD P w K mg base x k n fd' := by
  obtain ⟨f, fdat, ps, g, kp, b, ok⟩ := G.ex
  refine ⟨f, fdat, ps, g, kp, b, ok.imp fun vs H Q E ⟨F, ds, h1, h2, h3, q⟩ => ⟨F, ds, h1, h2, h3, ?_⟩⟩
  rw [h ds fun z => by rw [z] at q; exact q]
  exact q

/-! ### the law's own helper that makes the state, and the law -/
def ω0 (ns : List Int) : Wd := [.list (ns.map .int), .int 0, .int 0, .int 0, .bool false, .int 500]
def spI (K : PySem.W.Frag) : Sp := fun vs H Q _ => ∃ F a ns, vs = [.ref a] ∧ Same F H ∧ SqL K H a (ns.map V.int) ∧ ∀ F' H' l us, Xt none F H F' H' → H l = none → F' l = none → H' l = some (.lst us) → RpL K F' us (ω0 ns) → Q (.ref l) H'
theorem PSs_ex {X : Cx} {sts : List Stmt} {ι : Type} {T : ι → TS} (h : ∀ i, PSs X sts (T i)) : PSs X sts (fun D' σ H => ∃ i, T i D' σ H) := ⟨fun p s σ H D' I ⟨i, q⟩ => (h i).run p s σ H D' I q⟩
def spLaw (K : PySem.W.Frag) : Sp := fun vs H Q _ => ∃ (a : Addr) (ns : List Int), vs = [.ref a] ∧ SqL K H a (ns.map V.int) ∧ ns.length ≤ 63 ∧ ∀ H', Q (.bl true) H'
theorem init_reading {F H : Hp} {a : Addr} {ns : List Int} {Q : VK} (s : Same F H) (hs : SqL K H a (ns.map V.int)) (q : ∀ F' H' l us, Xt none F H F' H' → H l = none → F' l = none → H' l = some (.lst us) → RpL K F' us (ω0 ns) → Q (.ref l) H') :
    ∀ l, H l = none → ∀ p, upd H l (.lst (ns.map V.int)) p = none → Q (.ref p) (upd (upd H l (.lst (ns.map V.int))) p (.lst [.ref l, .int 0, .int 0, .int 0, .bl false, .int 500])) := fun l hl p hp => by
  have x1 : Xt none F H (upd F l (.lst (ns.map V.int))) (upd H l (.lst (ns.map V.int))) := Xt.alloc s hl
  have x2 : Xt none (upd F l (.lst (ns.map V.int))) (upd H l (.lst (ns.map V.int))) (upd F l (.lst (ns.map V.int))) (upd (upd H l (.lst (ns.map V.int))) p (.lst [.ref l, .int 0, .int 0, .int 0, .bl false, .int 500])) := Xt.alloc0 x1.fh hp
  have hpH : H p = none := by
    cases e : H p with
    | none => rfl
    | some o => exact absurd hp (x1.dom p (by rw [e]; simp))
  exact q _ _ p _ (x1.trans x2) hpH (Same.none x1.fh hp) upd_same (.cons (.lst upd_same (RpL.of_ints ns)) (.cons (.int 0) (.cons (.int 0) (.cons (.int 0) (.cons (.bl false) (.cons (.int 500) .nil))))))
theorem law_first {X : Cx} {k : Nat} {p p1 p2 p3 pos : Pos} {x : PySem.Str} {y : PySem.Str} (G : Own X.prog X.w X.K X.mg X.base "_law_state" k (spI X.K)) (hr : Room k X.A) (hN : X.N.Nodup) (hi : X.N[1]? = some y) (hx : Loc X.env.scope y) (hv : PE X (.Name x p1) (tVar 0)) (hg : Gl X "_law_state")
    (he : starEach [.Name x p1] X.env = (false, eval (.Name x p1) X.env) :: starEach [] X.env := by rfl) (hpl : (backTo p2 (starEach [] X.env)).any (·.1) = false := by rfl)
    (hs : swapsWith (.Call (.Name "_law_state" p) [.Name x p1] [] p2) (some (.Name y p3)) pos.line X.env = pure false := by rfl) (hf : X.fn y = true ∨ X.env.scope.names.lookup y = some .local := by first | exact .inl rfl | exact .inr rfl | assumption) :
    PS X (.Assign [.Name y p3] (.Call (.Name "_law_state" p) [.Name x p1] [] p2) pos) (tAsg (tCallS (spI X.K) (fun _ => E0) (tCons (tVar 0) tNil)) (gName 1)) := by
  obtain ⟨f, fdat, ps, gm, kp, bd, ok⟩ := G.ex
  exact ps_set hN hi hx (pe_callS ok hr hg gm kp bd (fun σ pins H s e s' I h => passL pins σ H s e s' I h) (pa_cons hv pa_nil he) (by decide) he hpl) hs hf
theorem own_I {st : Stmt} {N : List PySem.Str} (G : Def K mg "_law_state" st ["script"]) (S : FnScope N ["script"] (defScope st))
    (der : ∀ (f : Addr) (cdv : Value) (A : Around) (outer : List Env) (s : Shared) (H : Hp) (E : XK),
      PSs (cxOf (L2.CX P w) P w K mg base N "_law_state" (defScope st) f cdv A outer s H E) (defBody st) (tRet (tLst (tCons (tCB (fun xs H Q => ∃ p ys, xs = [.ref p] ∧ (SqL K H p ys ∨ SqT K H p ys) ∧ ∀ l, H l = none → Q (.ref l) (upd H l (.lst ys))) (tCons (tVar 0) tNil)) (tCons (tC (.int 0)) (tCons (tC (.int 0)) (tCons (tC (.int 0)) (tCons (tC (.bl false)) (tCons (tC (.int 500)) tNil))))))))) :
    Own P w K mg base "_law_state" 1 (spI K) := by
  obtain ⟨f, fd, F, b, g⟩ := G
  refine ⟨f, fd, _, g, F.kp, b, F.okX S (fun vs H Q E ⟨_, _, _, h, _⟩ => by rw [h]; rfl) fun cdv A outer s H vs Q E hr ⟨F0, a, ns, hv, s0, hs, q⟩ => ?_⟩
  subst hv
  exact ⟨_, der f cdv A outer s H E, _, start_get (vs := [.ref a]) rfl, a, ns.map V.int, rfl, .inl hs, fun l hl => ⟨by show 6 ≤ sizeLine; decide, fun p hp => init_reading s0 hs q l hl p hp⟩⟩
theorem law_F {st : Stmt} {f : Addr} {fd : FuncData} {N : List PySem.Str} {k : Nat} {mn mb mc : Md} {db : Ev → MM Fl} {s0 : Stmt} {sts : List Stmt} (F : Fun K "law" "law" st f fd) (S : FnScope N ["script"] (defScope st)) (hbd : defBody st = s0 :: sts) (hN : 2 ≤ N.length)
    (der0 : ∀ (cdv : Value) (A : Around) (outer : List Env) (s : Shared) (H : Hp) (E : XK), Room k (A.deeper (envOfC "law" (defScope st) s.heap.objs.size f cdv)) →
      PS (cxOf (L2.CX P w) P w K mg base N "law" (defScope st) f cdv A outer s H E) s0 (tAsg (tCallS (spI K) (fun _ => E0) (tCons (tVar 0) tNil)) (gName 1)))
    (der : ∀ (H0 F0 : Hp) (b : Addr) (cdv : Value) (A : Around) (outer : List Env) (s : Shared) (H : Hp) (E : XK), Room k (A.deeper (envOfC "law" (defScope st) s.heap.objs.size f cdv)) →
      PSs (cxOf (L2.CX P w) P w K mg base N "law" (defScope st) f cdv A outer s H E) sts (TSD ⟨K, mg, H0, F0, some b⟩ (fun cls d _ H => E cls d H) ⟨[], some 1⟩ mn mb mc db))
    (math : ∀ ns : List Int, ns.length ≤ 63 → ∃ w, db (none :: none :: List.replicate (N.length - 2) none) (ω0 ns) = .ok (.ret (.bool true)) w) :
    FnOk P w K mg base (L2.CX P w) (k + 1) f fd ["script"] (spLaw K) := by
  refine F.okX S (fun vs H Q E ⟨_, _, h, _⟩ => by rw [h]; rfl) fun cdv A outer s H vs Q E hr ⟨a, ns, hv, hs, hl, q⟩ => ?_
  subst hv
  have h2 : PSs (cxOf (L2.CX P w) P w K mg base N "law" (defScope st) f cdv A outer s H E) sts (fun D' σ H' => ∃ i : Hp × Hp × Addr, TSD ⟨K, mg, i.1, i.2.1, some i.2.2⟩ (fun cls d _ H => E cls d H) ⟨[], some 1⟩ mn mb mc db D' σ H') :=
    PSs_ex fun i => der i.1 i.2.1 i.2.2 cdv A outer s H E hr
  rw [hbd]
  refine ⟨_, pss_cons (der0 cdv A outer s H E hr) h2, ?_⟩
  refine ⟨.ref a, start_get (vs := [.ref a]) rfl, H, a, ns, rfl, Same.refl _, hs, fun F' H' l us xt n0 n1 e1 r1 => ?_⟩
  refine ⟨(H', F', l), F', none :: none :: List.replicate (N.length - 2) none, ω0 ns, ⟨⟨Xt.refl xt.fh, fun b e => ?_⟩, ?_, fun i d e _ => ?_, (fun i d _ h => nomatch h), (fun i j l di dj h => nomatch h), fun i e => ?_⟩, ?_⟩
  · cases e
    exact ⟨by show H' l ≠ none; rw [e1]; simp, n1, us, e1, r1⟩
  · simp [L2.start]
    omega
  · rcases i with _ | _ | i
    · simp at e
    · simp at e
    · simp only [List.getElem?_cons_succ, List.getElem?_replicate] at e
      split at e <;> simp at e
  · cases e
    refine ⟨rfl, l, rfl, ?_⟩
    rw [List.getElem?_set_self (by simp [L2.start]; omega)]
  · obtain ⟨w', hw⟩ := math ns hl
    rw [hw]
    exact fun F2 H2 x s2 fr rx => by cases rx; exact q H2
end
end M

set_option Elab.async false
set_option linter.all false
set_option maxRecDepth 100000
set_option maxHeartbeats 4000000
namespace M
open PySem PySem.Spec PyProof.Rows L2

structure ExcT (K : PySem.W.Frag) (mg : PySem.Str → Option Value) (x : PySem.Str) : Prop where
  ex : ∃ C, mg x = some (.ref C) ∧ PySem.W.excIn K C [.type "ValueError", .type "Exception", .type "BaseException", .type "object"] "ValueError.__new__" = true ∧ PySem.W.keepIn K (.ref C) = true ∧ PySem.W.subIn K (.ref C) (.type "BaseException") = some true ∧ PySem.W.typeIn K (.ref C) = some (.type "type") ∧ PySem.W.exmOne K (.ref C) (.ref C) = some true
theorem exm_self {K : PySem.W.Frag} {S : Addr} (h1 : PySem.W.subIn K (.ref S) (.type "BaseException") = some true) (h2 : PySem.W.isClsIn K S = true) (h3 : PySem.W.typeIn K (.ref S) = some (.type "type")) (h4 : PySem.W.subIn K (.ref S) (.ref S) = some true) :
    PySem.W.exmOne K (.ref S) (.ref S) = some true := by
  have e1 : (PySem.W.subIn K (.ref S) (.type "BaseException") == some true) = true := by rw [h1] <;> rfl
  have e2 : ((PySem.W.clsIn K S).isSome && PySem.W.typeIn K (.ref S) == some (.type "type")) = true := by
    have h2' : (PySem.W.clsIn K S).isSome = true := h2
    rw [h2', h3] <;> rfl
  show (if (PySem.W.subIn K (.ref S) (.type "BaseException") == some true) = true then (if ((PySem.W.clsIn K S).isSome && PySem.W.typeIn K (.ref S) == some (.type "type")) = true then PySem.W.subIn K (.ref S) (.ref S) else none) else none) = some true
  rw [if_pos e1, if_pos e2]
  exact h4
theorem exc_mk {K : PySem.W.Frag} {h : Heap} {mg : PySem.Str → Option Value} {x : PySem.Str} {C : Addr} (G : h.Ns mainGlobals mg) (X : K.In h) (a : PySem.W.nsIn K mainGlobals x = some (some (.ref C))) (q : PySem.W.excIn K C [.type "ValueError", .type "Exception", .type "BaseException", .type "object"] "ValueError.__new__" = true) (k : PySem.W.keepIn K (.ref C) = true)
    (h1 : PySem.W.subIn K (.ref C) (.type "BaseException") = some true) (h2 : PySem.W.isClsIn K C = true) (h3 : PySem.W.typeIn K (.ref C) = some (.type "type")) (h4 : PySem.W.subIn K (.ref C) (.ref C) = some true) : ExcT K mg x := ⟨C, PySem.W.mg_of X G a, q, k, h1, h3, exm_self h1 h2 h3 h4⟩
theorem def_mk {K : PySem.W.Frag} {h : Heap} {mg : PySem.Str → Option Value} {x : PySem.Str} {st : Stmt} {ps : List PySem.Str} {f : Addr} {oc : Value} {od an : Option Addr} {osl : Array (Option Value)} {kV doc pm cdv ct : Value} (G : h.Ns mainGlobals mg) (X : K.In h)
    (hb : ∀ (kV doc pm : Value) (an : Option Addr) (cdv ct : Value) (us : List Value), us.length = ps.length → bindArgs (PySem.W.fnOf x x (defArgs st) (defBody st) (defScope st) .none kV doc pm an cdv ct) ⟨us, []⟩ = pure (ps.zip us))
    (a : PySem.W.nsIn K mainGlobals x = some (some (.ref f))) (l : K.lookup f = some ⟨oc, od, .func (PySem.W.fnOf x x (defArgs st) (defBody st) (defScope st) .none kV doc pm an cdv ct), osl⟩) (c : PySem.W.codeIn K cdv x = true) (k : PySem.W.keepIn K (.ref f) = true) : Def K mg x st ps :=
  ⟨f, _, fun_mk l c k, (fun_mk l c k).binds hb, PySem.W.mg_of X G a⟩
/-- a whole number of the module -/
def CInt (mg : PySem.Str → Option Value) (x : PySem.Str) (i : Int) : Prop := ∃ t, mg x = some (.int i t)
theorem cint_mk {K : PySem.W.Frag} {h : Heap} {mg : PySem.Str → Option Value} {x : PySem.Str} {i : Int} {t : Tok} (G : h.Ns mainGlobals mg) (X : K.In h) (a : PySem.W.nsIn K mainGlobals x = some (some (.int i t))) : CInt mg x i := ⟨t, PySem.W.mg_of X G a⟩
/-- a tuple of whole numbers of the module -/
def CTup (K : PySem.W.Frag) (mg : PySem.Str → Option Value) (x : PySem.Str) (ns : List Int) : Prop := ∃ a, mg x = some (.ref a) ∧ ∀ F, SqT K F a (ns.map V.int)
section
variable {c : CM} {W : WX} {m mn mb mc : Md} {X : Cx} {e : Expr} {pos p p1 p2 p3 : Pos} {st : Stmt} {sts : List Stmt}
theorem e_cint {x : PySem.Str} {i : Int} (h : CInt X.mg x i) (hg : Gl X x) (hd : (x == ("__debug__" : PySem.Str)) = false := by decide) : E c W m X (.Name x pos) (eC (.int i)) := by
  obtain ⟨t, h⟩ := h
  exact e_c (pe_glob (v := .int i) hg h ⟨t, rfl⟩ hd) fun _ => .int i
theorem e_ctup {x : PySem.Str} {ns : List Int} (hk : X.K = c.K) (h : CTup X.K X.mg x ns) (hg : Gl X x) (hd : (x == ("__debug__" : PySem.Str)) = false := by decide) : E c W m X (.Name x pos) (eC (.tuple (ns.map .int))) := by
  obtain ⟨a, h, hs⟩ := h
  exact e_c (pe_glob (v := .ref a) hg h rfl hd) fun F => .tup (by rw [← hk]; exact hs F) (RpL.of_ints ns)
theorem s_raiseT {x mm : PySem.Str} {j : Nat} (T : ExcT X.K X.mg x) (hk : X.K = c.K) (hmg : X.mg = c.mg) (hc : X.calm = true) (tk : Takes X W) (hg : Gl X x)
    (hdb : (x == ("__debug__" : PySem.Str)) = false := by decide) : PS X (.Raise (some (.Call (.Name x p) [.Constant (.str mm) j p2] [] p3)) none pos) (TSD c W m mn mb mc (sRaise ⟨x, none⟩)) := by
  obtain ⟨C, g, q, k, h1, h2, h3⟩ := T.ex
  exact s_raise hk hmg hc tk PySem.F.excBase_ValueError q g k (raises_own h1 h2) hg hdb

/-! ### try: the body stores nothing -/
def PostX (c : CM) (W : WX) (m mb mc : Md) (F H : Hp) (σ : L2.St) (D' : Ends) : Res Fl → Prop
  | .exc e ω => ∀ F' H' cls dd, Xt c.b F H F' H' → BorOk c F' ω H' → RepX c e cls dd H' → W cls dd σ H'
  | r => PostS c W m mb mc F D' r
def GX (c : CM) (W : WX) (m mb mc : Md) (σ : L2.St) (D' : Ends) (F H : Hp) (r : Res Fl) : Prop := PostX c W m mb mc F H σ D' r
theorem GX.pg {σ : L2.St} {D' : Ends} : PGd c W σ (GX c W m mb mc σ D') where
  bad := fun _ _ h => h
  exc := fun F H e ω h => h
  mono := fun F H F1 H1 r x h => by
    cases r with
    | bad => exact h
    | exc e ω => exact fun F' H' cls dd y bo r => h F' H' cls dd (x.trans y) bo r
    | ok f ω => exact PostS.mono (r := .ok f ω) x.ff h
def TSX (c : CM) (W : WX) (m mb mc : Md) (d : Ev → MM Fl) : TS := fun D' σ H => ∃ F ρ ω, SR c m F ρ ω σ H ∧ PostX c W m mb mc F H σ D' (d ρ ω)
theorem xs_ret {d : Ev → MM D} (h : E c W m X e d) : PSs X [.Return (some e) pos] (TSX c W m mb mc (sRet d)) := PSsimp (pss_one (ps_ret h)) fun D' σ H ⟨F, ρ, ω, S, q⟩ =>
  ⟨F, ρ, ω, S, bindT S (GX.pg (D' := D')) (k := fun v w => .ok (.ret v) w) (show GX c W m mb mc σ D' F H _ from q) fun a F1 H1 w1 x1 S1 q1 x r1 => q1 F1 H1 x (Same.refl _) S1.fr r1⟩
theorem xs_expr {d : Ev → MM D} (h : E c W m X e d) (hs : swapsWith e none pos.line X.env = pure false := by rfl) : PSs X [.Expr e pos] (TSX c W m mb mc (sExpr d)) := PSsimp (pss_one (ps_expr h hs)) fun D' σ H ⟨F, ρ, ω, S, q⟩ =>
  ⟨F, ρ, ω, S, bindT S (GX.pg (D' := D')) (k := fun v w => .ok (.next ρ) w) (show GX c W m mb mc σ D' F H _ from q) fun a F1 H1 w1 x1 S1 q1 x r1 => q1 F1 σ H1 (Same.refl _) S1⟩
theorem xs_exprC {d : Ev → MM D} {d2 : Ev → MM Fl} (h : E c W m X e d) (h2 : PSs X sts (TSX c W m mb mc d2)) (hs : swapsWith e none pos.line X.env = pure false := by rfl) : PSs X (.Expr e pos :: sts) (TSX c W m mb mc (sSeq (sExpr d) d2)) := PSsimp (pss_cons (ps_expr h hs) h2) fun D' σ H ⟨F, ρ, ω, S, q⟩ => by
  refine ⟨F, ρ, ω, S, ?_⟩
  unfold sSeq sExpr at q
  have q' : GX c W m mb mc σ D' F H ((d ρ ω).bind fun _ w => d2 ρ w) := by
    cases hd : d ρ ω with
    | _ => simpa [GX, hd] using q
  exact bindT S GX.pg q' fun a F1 H1 w1 x1 S1 q1 x r1 => ⟨F1, ρ, w1, S1, q1⟩
theorem xs_if {t : Expr} {p4 : Pos} {dt : Ev → MM Bool} {d : Ev → MM D} {d2 : Ev → MM Fl} (ht : B c W m X t dt) (h : E c W m X e d) (h2 : PSs X sts (TSX c W m mb mc d2)) : PSs X (.If t [.Return (some e) p4] [] pos :: sts) (TSX c W m mb mc (sSeq (sIf dt (sRet d) sNext) d2)) := PSsimp (pss_cons (ps_if ht (pss_one (ps_ret h)) pss_nil) h2) fun D' σ H ⟨F, ρ, ω, S, q⟩ => by
  refine ⟨F, ρ, ω, S, ?_⟩
  unfold sSeq sIf sRet sNext at q
  have q' : GX c W m mb mc σ D' F H ((dt ρ ω).bind fun b w => match b with
      | true => (d ρ w).bind fun v w => .ok (.ret v) w
      | false => d2 ρ w) := by
    cases hd : dt ρ ω with
    | ok b w => cases b with
      | true => cases hd2 : d ρ w <;> simpa [GX, hd, hd2] using q
      | false => simpa [GX, hd] using q
    | _ => simpa [GX, hd] using q
  refine bindT S GX.pg q' fun b F1 H1 w1 x1 S1 q1 => ?_
  cases b with
  | true => exact iteT ⟨F1, ρ, w1, S1, bindT S1 GX.pg q1 fun a F2 H2 w2 x2 S2 q2 x r2 => q2 F2 H2 x (Same.refl _) S2.fr r2⟩
  | false => exact iteF ⟨F1, ρ, w1, S1, q1⟩
def sTry (x : PySem.Str) (db ds : Ev → MM Fl) : Ev → MM Fl := fun ρ ω => match db ρ ω with
  | .exc e w => if e.name = x then noX (ds ρ w) else .bad
  | r => r
theorem s_try {x : PySem.Str} {body suite : List Stmt} {b0 : Stmt} {np pos' : Pos} {db ds : Ev → MM Fl} (T : ExcT X.K X.mg x) (hk : X.K = c.K) (hmg : X.mg = c.mg) (hs : X.stack = X.env :: X.outer) (hf : X.env.frame = some X.env.locals) (hg : Gl X x)
    (hb : ∀ (W : WX) (pn : List (Addr × Obj)) (xe : Value → Shared → Prop), Takes (X.tr pn xe) W → PSs (X.tr pn xe) body (TSX c W m mb mc db))
    (hsu : ∀ (a : Addr) (oe : Obj) (pn : List (Addr × Obj)), PSs (X.suite a ((a, oe) :: pn)) (b0 :: suite) (TSD c W0 m m mb mc ds)) (tk : Takes X (fun _ _ _ _ => False)) (hdb : (x == ("__debug__" : PySem.Str)) = false := by decide) :
    PS X (.Try body [.ExceptHandler (some (.Name x np)) none (b0 :: suite) pos'] [] [] pos) (TSD c W m m mb mc (sTry x db ds)) := by
  obtain ⟨C, g, q, k, h1, h2, h3⟩ := T.ex
  refine PSimp (ps_try_only (c := .ref C) (tb := fun W => TSX c W m mb mc db) (ts := fun _ _ _ => TSD c W0 m m mb mc ds) (Wout := fun _ _ _ _ => False) hs hf ⟨hg, hdb, .inl g⟩ tk (fun W pn xe tk _ => hb W pn xe tk) (fun a oe cls d pn _ _ => hsu a oe pn)) fun D' σ H ⟨F, ρ, ω, S, q⟩ => ?_
  refine ⟨F, ρ, ω, S, ?_⟩
  unfold sTry at q
  cases hd : db ρ ω with
  | bad => rw [hd] at q; exact q
  | ok f w =>
    rw [hd] at q
    cases f with
    | next _ => exact q
    | ret _ => exact q
    | brk _ => exact q
    | cont _ => exact q
  | exc e w =>
    rw [hd] at q
    simp only at q
    split at q
    · rename_i en
      intro F' H' cls dd xt bo rx
      obtain ⟨C', g', hcls, _⟩ := rx
      rw [en, ← hmg, g] at g'
      cases g'
      subst hcls
      refine ⟨true, h3, fun _ a _ => ⟨F', ρ, w, S.step xt bo, ?_⟩, fun z => by cases z⟩
      have q' := q.mono xt.ff
      cases hd2 : ds ρ w with
      | bad => rw [hd2] at q'; exact q'
      | ok f w => rw [hd2] at q'; cases f <;> exact q'
      | exc e2 w => rw [hd2] at q'; exact q'.elim
    · exact q.elim
end
end M

set_option Elab.async false
set_option linter.all false
set_option maxRecDepth 100000
set_option maxHeartbeats 4000000
namespace L2
open PySem PySem.Spec PyProof.Rows
section
variable {P : Program} {w : World} {A : Around} {E : Value → Shared → Prop} {s : Shared}
abbrev oSet0 (w : World) : Obj := { cls := .type "set", dict := none, data := .set #[] 0 (.fresh 0 0 (!w.params.followText "set-order")) }
theorem call_set_lstI {l : Addr} {items : Array Value} (ns : List Int) {Q : Value → Shared → Prop} (hh : A.handled = none) (hl : s.heap.IsList l items) (hit : IntsAre items.toList ns) (hb : ns.length + 1 < scanBound)
    (h : ∀ (h' : Heap) (tk c : Nat), SetR w h' s.heap.objs.size (fun j => decide (j ∈ ns)) c → c ≤ ns.length → (∀ b o, s.heap.get? b = some o → h'.get? b = some o) → Q (.ref s.heap.objs.size) { s with heap := h', toks := tk }) :
    wpAny (model P w) A (call (.type "set") [.ref l]) Q E s := by
  have hisz : items.size = ns.length := by
    have q := IntsAre.length hit
    rw [Array.length_toList] at q
    exact q
  obtain ⟨c, tl, hmro⟩ := F.called_set.mro
  have hmade := F.called_set.made
  have hsub := F.called_set.sub
  refine wpAny_call (codeAny_of_tree ?_)
  show wpAny _ _ (callAny (.type "set") _) _ _ _
  refine wpAny_pure ⟨Code.quiet_builtin _ (by decide +kernel), codeAny_builtin F.entry_type_call ?_⟩
  rw [Around.under_plain (weight_type_call_type "set" [.ref l] []) rfl]
  have h1 := F.called_set.notType
  have h2 := F.called_set.canCreate
  have hct := F.typeCall_set_1 (.ref l)
  repeat (any_goals (first | assumption | wp_step))
  refine codeAny_mono (code_set_led1 (.ref l) (E := E) (Q₁ := fun obj s₁ => obj = .ref s.heap.objs.size ∧ s₁ = { s with heap := s.heap.push (oSet0 w) }) ⟨rfl, rfl⟩) fun r s₁ hr => ?_
  cases r with
  | error e => exact hr
  | ok fl =>
    cases fl with
    | ret obj =>
      obtain ⟨rfl, rfl⟩ := hr
      have hS : (s.heap.push (oSet0 w)).get? s.heap.objs.size = some (oSet0 w) := Heap.get?_push_size _ rfl
      have hT : Shared.TypeIs { s with heap := s.heap.push (oSet0 w) } (.ref s.heap.objs.size) "set" := ⟨_, hS, rfl⟩
      have hli := F.called_set.init.lookup
      have hbi := F.called_set.init.bind (.ref s.heap.objs.size)
      repeat (any_goals (first | assumption | wp_step))
      refine codeAny_mono (codeAny_call_builtin (R := wants (fun r s₂ => r = .none ∧ ∃ h' tk c, s₂ = { s with heap := h', toks := tk } ∧ SetR w h' s.heap.objs.size (fun j => decide (j ∈ ns)) c ∧ c ≤ ns.length ∧
          (∀ b o, s.heap.get? b = some o → h'.get? b = some o)) E) F.called_set.init.plain F.entry_set_init (check_set_init_1 hT ?_)) fun r₂ s₂ hr₂ => ?_
      · obtain ⟨ol, hol, hcl, nl, hdl⟩ := hl
        obtain ⟨ocls, odict, odata, oslots⟩ := ol
        simp only at hcl hdl
        subst hcl; subst hdl
        have hol' : (s.heap.push (oSet0 w)).get? l = some { cls := .type "list", dict := odict, data := .seq items nl, slots := oslots } := Heap.get?_push_of_some _ hol
        have hsls := F.sub_list_set
        have hslf := F.sub_list_frozenset
        have hne : (Value.type "list" == Value.type "dict") = false := by decide
        have hl1 : (s.heap.push (oSet0 w)).IsList l items := ⟨_, hol', rfl, nl, rfl⟩
        unfold Builtin.«set.__init__» noKeywords Builtin.Frozenset.updateFrom
        generalize hPI : pyIter = PI
        wp_walk
        subst hPI
        refine wpAny_pyIter_list hl1 ?_
        refine wpAny_bind (wpAny_runValue ?_)
        have hlS : l < s.heap.objs.size := Heap.lt_size hol
        have hh3 : A.in1.in1.in1.handled = none := by simp [hh]
        have hneI : l ≠ (s.heap.push (oSet0 w)).objs.size := by
          rw [Heap.size_push]; exact Nat.ne_of_lt (Nat.lt_succ_of_lt hlS)
        have hSf : s.heap.objs.size ∉ [(s.heap.push (oSet0 w)).objs.size, l] := by
          rw [Heap.size_push]; simp only [List.mem_cons, List.mem_singleton, List.not_mem_nil, or_false, not_or]
          exact ⟨Nat.ne_of_lt (Nat.lt_succ_self _), Nat.ne_of_gt hlS⟩
        have hval : ∀ (i : Nat) (v : Value), items[i]? = some v → ∃ k t, ns[i]? = some k ∧ v = .int k t := fun i v hv => by
          have hi : i < ns.length := by rw [← hisz]; exact (Array.getElem?_eq_some_iff.mp hv).1
          obtain ⟨t, e⟩ := PyProof.Rows.IntsAre.int_at hit i v (by rw [Array.getElem?_toList]; exact hv)
          refine ⟨ns[i], t, List.getElem?_eq_getElem hi, ?_⟩
          rw [e, List.getD_eq_getElem?_getD, List.getElem?_eq_getElem hi] <;> rfl
        refine set_update_ints ((Walks.list hh3 _ l hneI items).toS) s.heap.objs.size
          hSf ns hisz hb hval (items.size - 0) 0 _ (by omega) (Nat.zero_le _)
          ⟨⟨_, Heap.get?_push_size _ rfl, rfl, rfl⟩, (hl1.push _)⟩ ?hS0 ?hR
        case hS0 =>
          have hget : ((s.heap.push (oSet0 w)).push { cls := .type "list_iterator", data := .fields #[.ref l, .int 0 0] }).get? s.heap.objs.size = some (oSet0 w) := Heap.get?_push_of_some _ hS
          exact ⟨0, Nat.le_refl 0, setR_new_at hget⟩
        case hR =>
          intro s' c' hm hc' hS'
          obtain ⟨h', g2, d', tk', os'⟩ := s'
          have eg : g2 = s.gens := hm.gens
          have ed : d' = s.drawn := hm.drawn
          have eo : os' = s.os := hm.os
          subst eg; subst ed; subst eo
          show wpAny _ _ _ _ _ _
          refine wpAny_pure ?_
          show wpAny _ _ (ret Value.none) _ _ _
          rw [hisz] at hc'
          refine wpAny_pure ⟨rfl, h', tk', c', rfl, hS', hc', fun b o e => ?_⟩
          have hb0 : b < s.heap.objs.size := Heap.lt_size e
          have hb1 : b ≠ s.heap.objs.size := Nat.ne_of_lt hb0
          have hb2 : b ≠ (s.heap.push (oSet0 w)).objs.size := by
            rw [Heap.size_push]; exact Nat.ne_of_lt (Nat.lt_succ_of_lt hb0)
          exact hm.heap b o (by simp only [List.mem_cons, List.mem_singleton, List.not_mem_nil, or_false, not_or]; exact ⟨hb1, hb2⟩) (Heap.get?_push_of_some _ (Heap.get?_push_of_some _ e))
      · cases r₂ with
        | error e => exact hr₂
        | ok fl₂ =>
          cases fl₂ with
          | ret r =>
            obtain ⟨rfl, h', tk, c', rfl, hS', hc', hk'⟩ := hr₂
            repeat (any_goals (first | assumption | wp_step))
            exact h _ _ _ hS' hc' hk'
          | _ => exact hr₂.elim
    | _ => exact hr.elim
end
/-- sorted(s), a set of any size -/
theorem sorted_setG {P : Program} {w : World} {A : Around} {E : Value → Shared → Prop} {s : Shared} {a : Addr} {S : Int → Bool} {n : Nat} {Q : Value → Shared → Prop} (R : SetR w s.heap a S n) (hh : A.handled = none)
    (hQ : ∀ s' p (out : Array Value) (c : Nat) (ns : List Int), (∀ b o, s.heap.get? b = some o → s'.heap.get? b = some o) → s'.gens = s.gens → s'.os = s.os → s.heap.objs.size ≤ p →
      s'.heap.get? p = some (seqObj "list" out c) → IntsAre out.toList ns → ns.Pairwise (· < ·) → (∀ k, k ∈ ns ↔ S k = true) → ns.length = n → Q (.ref p) s') :
    wpAny (model P w) A (call (.builtin "sorted") [.ref a]) Q E s := by
  obtain ⟨o, es, ep, t, ho, hex, hd, g, nd, hm, hb, hf, hn, hr, hl⟩ := R
  refine Calls.call_function_entry kind_sorted plain_sorted entry_sorted (args_sorted1 _) ?_
  unfold Builtin.«sorted»
  refine wpAny_bind (m := checkCount "sorted" 1 1 _) (wpAny_pure ?_)
  refine wpAny_bind (collect_set (A := A.in1) hh ⟨o, ho, hex.1, hd⟩ hf hb hr hl fun s1 vs k1 hz g1 o1 pm => ?_)
  have hvl : vs.length = n := by rw [pm.length_eq, List.length_map, Array.length_toList]; exact hn
  have hI : IntsAre vs (vs.map Builtin.Re.reRawOf) := ints_of vs fun v hv => by
    obtain ⟨e, he, q⟩ := List.mem_map.mp (pm.mem_iff.mp hv)
    obtain ⟨k, tk, h1, _⟩ := g e he
    exact ⟨k, tk, by rw [← q]; exact h1⟩
  have pk : (vs.map Builtin.Re.reRawOf).Perm (es.toList.map keyOf) := by
    have q := pm.map Builtin.Re.reRawOf
    rw [List.map_map] at q
    exact q
  have hsz : vs.length ≤ sizeLine := by rw [hvl, ← hn]; exact fits_of_scanBound hb
  refine wpAny_bind (wpAny_newList ?_ hsz)
  have hoL : (s1.heap.push (seqObj "list" vs.toArray 0)).get? s1.heap.objs.size = some (seqObj "list" vs.toArray 0) := Heap.get?_push_size _ rfl
  refine wpAny_bind (wpAny_holding (wpAny_call_entry slot_list_sort ⟨_, hoL, rfl⟩ entry_list_sort (SrtO.list_sort_ord SrtO.swo_int hoL hsz (fun h2 => SrtO.ints_sortable hI h2) fun out hs hst => ⟨_, rfl, ?_⟩) (args_list_sort _)))
  obtain ⟨b1, b2, b3⟩ := SrtO.ints_out hI hs hst
  obtain ⟨c, hc⟩ := sortedHeap_at (vs := vs) (out := out.toArray) hoL
  have pn : (out.map SrtO.iv).Perm (es.toList.map keyOf) := b2.trans pk
  refine wpAny_pure ⟨_, rfl, hQ _ s1.heap.objs.size out.toArray c _ (fun b u e => ?_) g1 o1 hz hc b1 (lt_of_le_nodup _ b3 (pn.nodup_iff.mpr nd)) (fun k => by rw [pn.mem_iff, ← hm k]) ?_⟩
  · have q := k1 b u e
    have hlt := Heap.lt_size q
    show (sortedHeap (s1.heap.push (seqObj "list" vs.toArray 0)) s1.heap.objs.size vs out.toArray).get? b = some u
    rw [sortedHeap_old (Nat.ne_of_lt hlt) (by rw [size_push']; exact Nat.lt_succ_of_lt hlt)]
    exact Heap.get?_push_of_some _ q
  · rw [pn.length_eq, List.length_map, Array.length_toList]; exact hn
end L2
namespace M
open PySem PySem.Spec PyProof.Rows L2
/-! ### sorted(set(xs)), len(set(xs)) of ints -/
def insU (x : Int) : List Int → List Int
  | [] => [x]
  | y :: r => if x < y then x :: y :: r else if x = y then y :: r else y :: insU x r
def sortU : List Int → List Int
  | [] => []
  | x :: r => insU x (sortU r)
theorem mem_insU (x k : Int) : ∀ l, k ∈ insU x l ↔ k = x ∨ k ∈ l
  | [] => by simp [insU]
  | y :: r => by
    unfold insU
    split
    · simp
    · split
      · rename_i h; subst h; simp
      · simp only [List.mem_cons, mem_insU x k r]
        constructor
        · rintro (h | h | h) <;> simp [h]
        · rintro (h | h | h) <;> simp [h]
theorem mem_sortU (k : Int) : ∀ l, k ∈ sortU l ↔ k ∈ l
  | [] => by simp [sortU]
  | x :: r => by simp [sortU, mem_insU, mem_sortU k r]
theorem insU_lt (x : Int) : ∀ {l : List Int}, l.Pairwise (· < ·) → (insU x l).Pairwise (· < ·)
  | [], _ => by simp [insU]
  | y :: r, h => by
    unfold insU
    rw [List.pairwise_cons] at h
    split
    · rename_i hxy
      refine List.pairwise_cons.mpr ⟨fun z hz => ?_, List.pairwise_cons.mpr h⟩
      rcases List.mem_cons.mp hz with rfl | hz
      · exact hxy
      · exact Int.lt_trans hxy (h.1 z hz)
    · split
      · exact List.pairwise_cons.mpr h
      · refine List.pairwise_cons.mpr ⟨fun z hz => ?_, insU_lt x h.2⟩
        rcases (mem_insU x z r).mp hz with rfl | hz
        · omega
        · exact h.1 z hz
theorem sortU_lt : ∀ l, (sortU l).Pairwise (· < ·)
  | [] => .nil
  | x :: r => insU_lt x (sortU_lt r)
theorem lt_ext : ∀ {l l' : List Int}, l.Pairwise (· < ·) → l'.Pairwise (· < ·) → (∀ k, k ∈ l ↔ k ∈ l') → l = l'
  | [], [], _, _, _ => rfl
  | [], y :: r, _, _, h => absurd ((h y).mpr (by simp)) (by simp)
  | x :: r, [], _, _, h => absurd ((h x).mp (by simp)) (by simp)
  | x :: r, y :: t, h1, h2, h => by
    rw [List.pairwise_cons] at h1 h2
    have e : x = y := by
      have a := (h x).mp (by simp)
      have b := (h y).mpr (by simp)
      rcases List.mem_cons.mp a with a | a
      · exact a
      · rcases List.mem_cons.mp b with b | b
        · exact b.symm
        · have := h1.1 y b; have := h2.1 x a; omega
    subst e
    refine congrArg _ (lt_ext h1.2 h2.2 fun k => ?_)
    have hk := h k
    constructor
    · intro m
      rcases List.mem_cons.mp (hk.mp (by simp [m])) with z | z
      · subst z; have := h1.1 k m; omega
      · exact z
    · intro m
      rcases List.mem_cons.mp (hk.mpr (by simp [m])) with z | z
      · subst z; have := h2.1 k m; omega
      · exact z
def setOk (n : Nat) : Prop := n + 1 < scanBound
instance (n : Nat) : Decidable (setOk n) := by unfold setOk; infer_instance
def fSortSet : List D → Option D
  | [.list xs] => (intsOf xs).bind fun ns => if setOk ns.length then some (.list ((sortU ns).map .int)) else none
  | _ => none
def fLenSet : List D → Option D
  | [.list xs] => (intsOf xs).bind fun ns => if setOk ns.length then some (.int (sortU ns).length) else none
  | _ => none
def rSetL (w : World) (K : PySem.W.Frag) : List V → Hp → VK → Prop := fun vs H Q => ∃ (a : Addr) (ns : List Int), vs = [V.ref a] ∧ SqL K H a (ns.map V.int) ∧ setOk ns.length ∧ ∀ p c, H p = none → Q (.ref p) (upd H p (SetO w p (fun j => decide (j ∈ ns)) c))
theorem cr_setL {X : Cx} (hc : X.calm = true) : CallR X (.type "set") (rSetL X.w X.K) := by
  intro pins s σ H vs us Q I r h
  obtain ⟨a, ns, rfl, hs, hz, q⟩ := h
  obtain ⟨its, rv, hl, _⟩ := I.list hs
  rw [Vals.ref1 r]
  have hi : IntsAre its.toArray.toList ns := rv.ints
  refine call_set_lstI ns (I.ok.hd hc) hl.isList hi hz fun h' tk c R hcn k => ?_
  have hn := I.hok.fresh (Nat.le_refl s.heap.objs.size)
  exact ⟨.ref _, _, I.laid (t' := tk) k (Nat.le_refl _) (setO_new R), rfl, q _ c hn⟩
def rSortedSetG (w : World) : List V → Hp → VK → Prop := fun vs H Q => ∃ (a : Addr) (S : Int → Bool) (n : Nat), vs = [V.ref a] ∧ H a = some (SetO w a S n) ∧
  ∀ (ns : List Int) (p : Addr), ns.Pairwise (· < ·) → (∀ k : Int, k ∈ ns ↔ S k = true) → H p = none → Q (.ref p) (upd H p (.lst (ns.map V.int)))
theorem cr_sortedSetG {X : Cx} (hc : X.calm = true) : CallR X (.builtin "sorted") (rSortedSetG X.w) := by
  intro pins s σ H vs us Q I r h
  obtain ⟨a, S, n, rfl, ha, q⟩ := h
  have R := setO_get I ha
  rw [Vals.ref1 r]
  have hnb : n ≤ sizeLine := by
    obtain ⟨o, es, ep, t, ho, hex, hd, g, nd, hm, hb, hf, hn, hr, hl⟩ := R
    rw [← hn]; exact fits_of_scanBound hb
  refine sorted_setG R (I.ok.hd hc) fun s' p out c ns k g o hp hg hi hs hm hl => ?_
  have hlen : (ns.map V.int).length ≤ sizeLine := by rw [List.length_map, hl]; exact hnb
  have hn : H p = none := I.hok.fresh hp
  have J : Inv X pins σ (upd H p (.lst (ns.map V.int))) { s with heap := s'.heap, gens := s'.gens, drawn := s'.drawn, toks := s'.toks } :=
    I.call (ch := []) (Un.laid k hp hn) (I.hok.laid k hp ⟨hlen, out.toList, c, vals_of_ints hi, hg⟩) (by rw [g]; exact I.bare) (fun _ z => nomatch z)
  have e : s' = { s with heap := s'.heap, gens := s'.gens, drawn := s'.drawn, toks := s'.toks } := by
    cases s'
    cases s
    cases o
    rfl
  rw [e]
  exact ⟨.ref p, _, J, rfl, q ns p hs hm hn⟩
section
variable {c : CM} {W : WX} {m : Md} {X : Cx} {a : Expr} {pos p p2 p3 : Pos}
theorem e_sortedSet {d : Ev → MM D} (hk : X.K = c.K) (hc : X.calm = true) (hg : Gl X "sorted") (hm : X.mg "sorted" = none) (hg2 : Gl X "set") (hm2 : X.mg "set" = none) (ha : E c W m X a d)
    (h1 : starEach [a] X.env = (false, eval a X.env) :: starEach [] X.env := by rfl)
    (h2 : starEach [.Call (.Name "set" p2) [a] [] p3] X.env = (false, eval (.Call (.Name "set" p2) [a] [] p3) X.env) :: starEach [] X.env := by rfl) :
    E c W m X (.Call (.Name "sorted" p) [.Call (.Name "set" p2) [a] [] p3] [] pos) (eArgs fSortSet (aCons d aNil)) := by
  have hs : PE X (.Call (.Name "set" p2) [a] [] p3) (tCB (rSetL X.w X.K) (tCons (TD c W m d) tNil)) := pe_callTy (cr_setL hc) hg2 hm2 boot_set (pa_cons ha pa_nil h1) (by decide) (by decide) h1 rfl
  refine PEimp (pe_callB (cr_sortedSetG hc) hg hm boot_sorted (pa_cons hs pa_nil h2) (by decide) (by decide) h2 rfl) fun σ H Q ⟨F, ρ, ω, S, q⟩ => ?_
  have q' : Post c W F H σ (fun v F' H' _ => ∀ x, Rp c.K F' x v → Q x H') ((d ρ ω).bind fun v w => ofO (fSortSet [v]) w) := by
    unfold eArgs aCons aNil at q
    cases hd : d ρ ω <;> simpa [hd] using q
  refine ⟨F, ρ, ω, S, bindT S Post.pg q' fun v F1 H1 w1 x1 S1 q1 x r1 => ?_⟩
  obtain ⟨z, e1, q3⟩ := post_ofO S1.fh S1.bo q1
  cases r1 with
  | lst g1 g2 =>
    simp only [fSortSet, Option.bind_eq_some_iff, Option.ite_none_right_eq_some, Option.some.injEq] at e1
    obtain ⟨ns, e2, e3, rfl⟩ := e1
    rw [intsOf_eq e2] at g2
    rw [g2.ints] at g1
    refine ⟨_, ns, rfl, SqL.of (S1.fh _ _ g1), e3, fun p0 c0 np => ?_⟩
    refine ⟨p0, _, c0, rfl, upd_same, fun ms p1 k1 k2 np1 => ?_⟩
    have x2 : Xt none F1 H1 F1 (upd H1 p0 (SetO X.w p0 (fun j => decide (j ∈ ns)) c0)) := Xt.alloc0 S1.fh np
    have : ms = sortU ns := lt_ext k1 (sortU_lt ns) fun k => by rw [k2 k, mem_sortU]; simp
    subst this
    exact rp_new_lst x2.fh np1 (RpL.of_ints _) fun F' H' z' xt rz => q3 F' H' (x2.trans xt) z' rz
  | _ => simp [fSortSet] at e1
end
end M

set_option Elab.async false
set_option linter.all false
set_option maxRecDepth 100000
set_option maxHeartbeats 4000000
namespace M
open PySem PySem.Spec PyProof.Rows L2
/-! ### isinstance -/
def isiT (t T : String) : Bool := t == T || (t == "bool" && T == "int")
def tyD : D → Option String
  | .none => some "NoneType"
  | .bool _ => some "bool"
  | .int _ => some "int"
  | .str _ => some "str"
  | .list _ => some "list"
  | .tuple _ => some "tuple"
  | .dict _ => none
def fIsi (T : String) (d : D) : Option D := (tyD d).map fun t => .bool (isiT t T)
theorem ty_of {K : PySem.W.Frag} {F H : Hp} (s : Same F H) : ∀ {d : D} {x : V} {t : String}, Rp K F x d → tyD d = some t → TyX K H x (.type t)
  | .none, _, _, h, e => by cases h; cases e; exact .base .non
  | .bool b, _, _, h, e => by cases h; cases e; exact .base (.bl b)
  | .int i, _, _, h, e => by cases h; cases e; exact .base (.int i)
  | .str z, _, _, h, e => by cases h; cases e; exact .base (.str z)
  | .list ds, _, _, h, e => by
    cases h with
    | lst h1 h2 => cases e; exact .base (.lst (s _ _ h1))
  | .tuple ds, _, _, h, e => by
    cases h with
    | tup h1 h2 =>
      cases e
      rcases h1 with (h | ⟨o, h⟩) | ⟨o, its, n, h, hc, _⟩
      · exact .base (.tup (s _ _ h))
      · exact .fTuple (s _ _ h)
      · exact .kTuple h hc
  | .dict _, _, _, h, e => by cases h
/-- the classes that are asked for -/
def TyOk (T : String) : Prop := ∀ t ∈ ["NoneType", "bool", "int", "str", "list", "tuple"], kitB t T = some (isiT t T)
theorem tyOk_int : TyOk "int" := by unfold TyOk; decide +kernel
theorem tyOk_bool : TyOk "bool" := by unfold TyOk; decide +kernel
theorem tyOk_str : TyOk "str" := by unfold TyOk; decide +kernel
theorem tyOk_list : TyOk "list" := by unfold TyOk; decide +kernel
theorem tyOk_tuple : TyOk "tuple" := by unfold TyOk; decide +kernel
theorem tyD_mem {d : D} {t : String} (h : tyD d = some t) : t ∈ ["NoneType", "bool", "int", "str", "list", "tuple"] := by
  cases d <;> simp [tyD] at h <;> subst h <;> simp
section
variable {c : CM} {W : WX} {m : Md} {X : Cx} {e : Expr} {pos p p2 : Pos}
theorem e_isi {y : PySem.Str} {T : String} {d : Ev → MM D} (hT : TyOk T) (hk : X.K = c.K) (hg : Gl X "isinstance") (hm : X.mg "isinstance" = none) (hg2 : Gl X y) (hm2 : X.mg y = none) (hv2 : bootBuiltins y = some (.type T)) (h : E c W m X e d)
    (hn : y ≠ "__name__" := by decide) (hd : (y == ("__debug__" : PySem.Str)) = false := by decide)
    (hs1 : starEach [e, .Name y p2] X.env = (false, eval e X.env) :: starEach [.Name y p2] X.env := by rfl) (hs2 : starEach [.Name y p2] X.env = (false, eval (.Name y p2) X.env) :: starEach [] X.env := by rfl)
    (hpl : (backTo pos (starEach [.Name y p2] X.env)).any (·.1) = false := by rfl) : E c W m X (.Call (.Name "isinstance" p) [e, .Name y p2] [] pos) (eUn (fIsi T) d) :=
  PEimp (pe_callB call_isi hg hm boot_isinstance (pa_cons h (pa_cons (pe_bltn hg2 hm2 hv2 (v := .ty T) rfl hn hd) pa_nil hs2) hs1) (by decide) (by decide) hs1 hpl) fun σ H Q ⟨F, ρ, ω, S, q⟩ =>
    ⟨F, ρ, ω, S, bindT S Post.pg q fun a F1 H1 w1 x1 S1 q1 v r => by
      obtain ⟨z, e1, q3⟩ := post_ofO S1.fh S1.bo q1
      show rIsi X.K [v, .ty T] H1 Q
      unfold fIsi at e1
      cases ht : tyD a with
      | none => rw [ht] at e1; exact nomatch e1
      | some t =>
        rw [ht] at e1
        cases e1
        refine ⟨v, .ty T, .type t, .type T, _, rfl, .ty T, ?_, kit_ty (hT t (tyD_mem ht)), q3 _ _ (Xt.refl S1.fh) _ (.bl _)⟩
        exact ty_of S1.fh (by rw [hk]; exact r) ht⟩
end
@[simp] theorem fIsi_none (T : String) : fIsi T .none = some (.bool (isiT "NoneType" T)) := (rfl)
@[simp] theorem fIsi_bool (T : String) (b : Bool) : fIsi T (.bool b) = some (.bool (isiT "bool" T)) := (rfl)
@[simp] theorem fIsi_int (T : String) (b : Int) : fIsi T (.int b) = some (.bool (isiT "int" T)) := (rfl)
@[simp] theorem fIsi_str (T : String) (b : PySem.Str) : fIsi T (.str b) = some (.bool (isiT "str" T)) := (rfl)
@[simp] theorem fIsi_list (T : String) (b : List D) : fIsi T (.list b) = some (.bool (isiT "list" T)) := (rfl)
@[simp] theorem fIsi_tuple (T : String) (b : List D) : fIsi T (.tuple b) = some (.bool (isiT "tuple" T)) := (rfl)
/-! ### a tuple of whole numbers of the module -/
def valsB : List Value → List Int → Bool
  | [], [] => true
  | .int i _ :: vs, n :: ns => i == n && valsB vs ns
  | _, _ => false
theorem valsB_ok : ∀ {vs : List Value} {ns : List Int}, valsB vs ns = true → Vals (ns.map V.int) vs
  | [], [], _ => .nil
  | .int i t :: vs, n :: ns, h => by
    simp only [valsB, Bool.and_eq_true, beq_iff_eq] at h
    obtain ⟨rfl, h⟩ := h
    exact .cons ⟨t, rfl⟩ (valsB_ok h)
  | [], _ :: _, h => nomatch h
  | .int _ _ :: _, [], h => nomatch h
  | .none :: _, [], h => nomatch h
  | .none :: _, _ :: _, h => nomatch h
def tupB (o : Obj) (ns : List Int) : Bool := o.cls == .type "tuple" && match o.data with
  | .seq its _ => valsB its.toList ns && decide (its.size ≤ sizeLine)
  | _ => false
theorem ctup_mk {K : PySem.W.Frag} {h : Heap} {mg : PySem.Str → Option Value} {x : PySem.Str} {ns : List Int} {a : Addr} {o : Obj} (G : h.Ns mainGlobals mg) (X : K.In h) (h1 : PySem.W.nsIn K mainGlobals x = some (some (.ref a))) (h2 : K.lookup a = some o) (h3 : tupB o ns = true) : CTup K mg x ns := by
  refine ⟨a, PySem.W.mg_of X G h1, fun F => .inr ?_⟩
  unfold tupB at h3
  rw [Bool.and_eq_true] at h3
  obtain ⟨hc, hd⟩ := h3
  cases e : o.data with
  | seq its n =>
    rw [e] at hd
    rw [Bool.and_eq_true] at hd
    exact ⟨o, its, n, h2, by simpa using hc, e, of_decide_eq_true hd.2, valsB_ok hd.1⟩
  | _ => rw [e] at hd; exact nomatch hd
end M

set_option Elab.async false
set_option linter.all false
set_option maxRecDepth 100000
set_option maxHeartbeats 4000000
namespace M
open PySem PySem.Spec PyProof.Rows L2 PySem.W
/-! ### enumerate of a tuple -/
abbrev enumO (a : Addr) : Obj := ⟨.type "enumerate", none, .fields #[Value.none, Value.bool false, Value.ref a, rawInt 0, Value.none, Value.none], #[]⟩
theorem enum_new1 {v : Value} {o : Obj} {H : Heap → Prop} (B : Begins v o H) :
    Meets (Builtin.«enumerate.__new__» ⟨[.type "enumerate", v], []⟩) (fun _ R s => H s.heap ∧ R (.ok (.ret (.ref (s.heap.push o).objs.size))) { s with heap := (s.heap.push o).push (enumO s.heap.objs.size) }) :=
  .of_wp fun P w A R s ⟨h1, h⟩ => by
    obtain ⟨hp, g, d, tk, os⟩ := s
    have hsub := sub_enumerate
    have go : ∀ {A1 : Around} {E1 : Value → Shared → Prop} {Q1 : Value → Shared → Prop}, Q1 (.ref hp.objs.size) ⟨hp.push o, g, d, tk, os⟩ → wpAny (model P w) A1 (pyIter v) Q1 E1 ⟨hp, g, d, tk, os⟩ := fun q => B.iter _ _ _ _ _ _ h1 q
    wp_walk using go
    refine wpAny_stack_any fun st => wpAny_pure ?_
    split
    · rename_i cl _ _ _ _ _
      cases (cl == Value.type "enumerate") <;> (wp_walk using go; exact ⟨_, rfl, h⟩)
    · wp_walk using go; exact ⟨_, rfl, h⟩
theorem enum_call1 {P : Program} {w : World} {A : Around} {E : Value → Shared → Prop} {s : Shared} {v : Value} {o : Obj} {H : Heap → Prop} {Q : Value → Shared → Prop} (B : Begins v o H) (h1 : H s.heap)
    (h : ∀ h2, IsEnum h2 (s.heap.objs.size + 1) s.heap.objs.size 0 .none → h2.get? s.heap.objs.size = some o → (∀ b q, s.heap.get? b = some q → h2.get? b = some q) → Q (.ref (s.heap.objs.size + 1)) { s with heap := h2 }) :
    wpAny (model P w) A (call (.type "enumerate") [v]) Q E s := by
  have e1 : (s.heap.push o).objs.size = s.heap.objs.size + 1 := Heap.size_push _ _
  have e2 : IsEnum ((s.heap.push o).push (enumO s.heap.objs.size)) (s.heap.objs.size + 1) s.heap.objs.size 0 .none := by
    have q := Heap.get?_push_size (s.heap.push o) (o := enumO s.heap.objs.size) rfl
    rwa [e1] at q
  refine callType_new F.called_enumerate (by decide) (F.typeCall_enumerate_1 _) (F.newCall_enumerate_1 _) (fun z => F.args_object_init_2 z _) F.entry_enumerate_new (enum_new1 B) ?_
  refine ⟨h1, ?_⟩
  show _ ∧ _
  rw [e1]
  exact ⟨⟨_, e2, rfl⟩, h _ e2 (Heap.get?_push_of_some _ (Heap.get?_push_size _ B.free)) fun b q x => Heap.get?_push_of_some _ (Heap.get?_push_of_some _ x)⟩
/-- what is drawn: pairs of a place and an item of the tuple at a -/
def ItE (K : PySem.W.Frag) (a : Addr) : It :=
  ⟨fun i H => ∃ (xs : List V) (x : V), SqT K H a xs ∧ xs[i]? = some x, fun i H v H2 => ∃ T x, v = .ref T ∧ H T = none ∧ H2 = upd H T (.tup [.int (i : Nat), x]) ∧ ∀ xs, SqT K H a xs → xs[i]? = some x, fun i H => ∃ xs : List V, SqT K H a xs ∧ xs.length ≤ i⟩
theorem two_of {b e it : Addr} (h : b ∈ [e, it]) : b = e ∨ b = it := by simpa using h
theorem turnE {P : Program} {w : World} {K : PySem.W.Frag} {elts : List Expr} {kk : Nat} {tpos : Pos} (a e it : Addr) :
    Turn P w K (.Tuple elts kk tpos) (ItE K a) [e, it] e (fun i h => (∃ old, IsEnum h e it ((i : Nat) : Int) old) ∧ h.IsTupleIter it a i ∧ e ≠ it ∧ a ≠ it ∧ e ≠ a) where
  mem := by simp
  obj := fun i h st b hb => by
    obtain ⟨⟨old, he⟩, ⟨o, ho, hc, hd⟩, _⟩ := st
    rcases two_of hb with rfl | rfl
    · exact ⟨_, he, fun v q => nomatch q⟩
    · exact ⟨o, ho, fun v q => by rw [hd] at q; cases q⟩
  keep := fun i h h2 st k => let ⟨⟨old, he⟩, hi, hn⟩ := st; ⟨⟨old, k e (by simp) _ he⟩, hi.at fun o q => k it (by simp) o q, hn⟩
  item := by
    intro X hP hw hK hc i pins s σ H E I hf st hg
    cases hP; cases hw; cases hK
    obtain ⟨⟨old, he⟩, hit, hne, hai, hea⟩ := st
    obtain ⟨xs, x, hq, hx⟩ := hg
    obtain ⟨its, rv, p, hz⟩ := I.tuple hq
    obtain ⟨u, hu, ru⟩ := rv.get hx
    have e_lt : e < s.heap.objs.size := Heap.lt_size he
    have i_lt : it < s.heap.objs.size := by obtain ⟨_, q, _⟩ := hit; exact Heap.lt_size q
    have D := Draws.tuple (prog := X.prog) (w := X.w) (A := X.A.in1) (I.ok.hd hc) it a hai its.toArray
    have hi : i < its.toArray.size := by
      have := rv.length
      have h2 := (List.getElem?_eq_some_iff.1 hx).1
      simp; omega
    refine wpAny_pyNext_enum_itemD D he ⟨hit, p⟩ hi hne (by simp [hne, hea]) fun y h2 tk hy ho st2 hT hsz hk => ?_
    have hyu : y = u := by
      have : its.toArray[i]? = some u := by simpa using hu
      rw [this] at hy; cases hy; rfl
    subst hyu
    refine ⟨_, rfl, wpAny_letOwnedTupleGo_enum (s := { s with heap := h2, toks := tk + 1 }) ho fun h3 he3 sb => ?_⟩
    have hT3 : h3.get? s.heap.objs.size = some { cls := .type "tuple", data := .seq #[.int i tk, y] } := (sb.2 _ (Nat.ne_of_gt e_lt)).trans hT
    have nw : ObjOk X.prog X.w (upd H s.heap.objs.size (.tup [.int (i : Nat), x])) h3 s.heap.objs.size (.tup [.int (i : Nat), x]) :=
      ⟨by show 2 ≤ sizeLine; decide, [.int i tk, y], .cons ⟨_, rfl⟩ (.cons ru .nil), ⟨_, hT3, rfl, _, rfl⟩⟩
    have hsz3 : h3.objs.size = h2.objs.size := sb.1
    have I3 : Inv X pins σ (upd H s.heap.objs.size (.tup [.int (i : Nat), x])) { s with heap := h3, toks := tk + 1 } :=
      I.turnedNew (ch := [e, it]) (fun b q hb w => (sb.2 b (fun z => hb (by simp [z]))).trans (hk b q (fun z => hb (by simp [z])) (fun z => hb (by simp [z])) w)) hf (Nat.le_refl _) nw
    refine ⟨.ref s.heap.objs.size, _, I3, rfl, ⟨_, x, rfl, I.hok.fresh (Nat.le_refl _), rfl, fun ys hy => by rw [I.tuple_inj hy hq]; exact hx⟩, ⟨⟨y, ?_⟩, st2.1.at fun q z => (sb.2 it (Ne.symm hne)).trans z, hne, hai, hea⟩, fun b hb => ?_⟩
    · rw [show (((i + 1 : Nat)) : Int) = (i : Int) + 1 by omega]; exact he3
    · have hb2 : b < s.heap.objs.size := by rcases two_of hb with rfl | rfl <;> assumption
      rw [upd_ne (Nat.ne_of_lt hb2)]; exact (hf b hb).1
  done := by
    intro X hP hw hK hc i pins s σ H E I hf st hg
    cases hP; cases hw; cases hK
    obtain ⟨⟨old, he⟩, hit, hne, hai, hea⟩ := st
    obtain ⟨xs, hq, hx⟩ := hg
    obtain ⟨its, rv, p, hz⟩ := I.tuple hq
    obtain ⟨f0, f1, f2, f3, f4, f5⟩ := hf it (by simp)
    have hl := rv.length
    have D : Draws X.prog X.w X.A.in1 it [it, a] i (fun _ _ => False) (fun j h => j = i ∧ h.IsTupleIter it a i ∧ h.IsTuple a its.toArray) := ⟨fun _ _ st => let ⟨o, ho, _⟩ := st.2.1; ⟨o, ho⟩,
      fun _ _ _ st hk => ⟨st.1, st.2.1.at fun o e => hk it (by simp) o e, st.2.2.at fun o e => hk a (by simp) o e⟩, fun j _ _ _ hj st _ => absurd st.1 (Nat.ne_of_lt hj),
      fun s Q E st hE => wpAny_nextOf_tuple_end (I.ok.hd hc) st.2.1 st.2.2 (by simp; omega) hE⟩
    exact wpAny_pyNext_enum_endD D he ⟨rfl, hit, p⟩ fun h2 eb => ⟨rfl, I.turned (t' := s.toks) (fun b o hb e => eb b o hb e) f0 f1 f3 f4 f5⟩
  self := fun A i s Q E st h => let ⟨⟨_, he⟩, _⟩ := st; wpAny_pyIter_enum he h
def iEnumT (K : PySem.W.Frag) (ta : TA) : TI := fun σ H R => ta σ H fun vs H1 => ∃ a xs, vs = [.ref a] ∧ SqT K H1 a xs ∧ R (ItE K a) H1
theorem pi_enumT {X : Cx} {e : Expr} {ta : TA} {p pos tpos : Pos} {elts : List Expr} {kk : Nat} (hg : Gl X "enumerate") (hm : X.mg "enumerate" = none) (ha : PA X [e] ta) (hs : starEach [e] X.env = [(false, eval e X.env)] := by rfl) :
    PI X (.Tuple elts kk tpos) (.Call (.Name "enumerate" p) [e] [] pos) (iEnumT X.K ta) := by
  refine ⟨fun pins s σ H R I h => ?_⟩
  refine Call_ (ld_blt I hg hm boot_enumerate (PyProof.Rows.callWith_type1 (thn (ha.run pos pins s σ H _ I h) fun us s1 ⟨vs, H1, I1, r1, ⟨a, xs, ex, hq, q⟩⟩ => ?_) hs rfl))
  cases ex
  cases r1 with
  | cons r rr =>
    cases rr; cases r
    obtain ⟨its, rv, p2, hz⟩ := I1.tuple hq
    have a_lt : a < s1.heap.objs.size := by obtain ⟨_, z, _⟩ := p2; exact Heap.lt_size z
    refine enum_call1 (begins_tuple a its.toArray) p2 fun h2 he hit hk => wpAny_pyIter_enum he ?_
    have I2 : Inv X pins σ H1 { s1 with heap := h2 } := I1.kept (t' := s1.toks) hk
    refine ⟨s1.heap.objs.size + 1, [s1.heap.objs.size + 1, s1.heap.objs.size], _, _, H1, rfl, I2, turnE a (s1.heap.objs.size + 1) s1.heap.objs.size, ⟨⟨.none, he⟩, ⟨_, hit, rfl, rfl⟩, Nat.succ_ne_self _, Nat.ne_of_lt a_lt, Ne.symm (Nat.ne_of_lt (Nat.lt_succ_of_lt a_lt))⟩, fun b hb => ?_, q⟩
    have le : s1.heap.objs.size ≤ b := by rcases two_of hb with rfl | rfl <;> omega
    exact I1.fpOk le (I1.hok.fresh le)
theorem wk_enumT {K : PySem.W.Frag} {F : Hp} {a : Addr} {xs : List V} {ds : List D} (h : SqT K F a xs) (r : RpL K F xs ds) : Wk K F (ItE K a) (enumL 0 ds) where
  go := fun i F1 H1 hi s1 s2 => by
    rw [enumL_len] at hi
    exact ⟨xs, xs[i]'(by rw [r.length]; exact hi), sameT s2 (sameT s1 h), by simp [r.length, hi]⟩
  stop := fun F1 H1 s1 s2 => ⟨xs, sameT s2 (sameT s1 h), by rw [enumL_len, r.length]; exact Nat.le_refl _⟩
  yld := fun i d F1 H1 x H2 hd s1 s2 y => by
    obtain ⟨T, z, rfl, nT, rfl, y⟩ := y
    have q := y xs (sameT s2 (sameT s1 h))
    obtain ⟨dd, h0, rfl⟩ := enumL_get 0 ds i d hd
    obtain ⟨v, h1, h2⟩ := r.get h0
    rw [h1] at q
    cases q
    have xt : Xt none F1 H1 (upd F1 T (.tup [.int (i : Nat), z])) (upd H1 T (.tup [.int (i : Nat), z])) := Xt.alloc s2 nT
    exact ⟨_, xt, .tup (SqT.of upd_same) (.cons (by rw [Nat.zero_add]; exact .int _) (.cons ((h2.mono s1).mono xt.ff) .nil))⟩
def iEnumTF : List D → Option (List D)
  | [.tuple ds] => some (enumL 0 ds)
  | _ => none
section
variable {c : CM} {W : WX} {m : Md} {X : Cx} {e : Expr} {pos p tpos : Pos}
theorem i_enumT {elts : List Expr} {kk : Nat} {ds : Ev → MM (List D)} (hk : X.K = c.K) (hg : Gl X "enumerate") (hm : X.mg "enumerate" = none) (ha : A c W m X [e] ds) (hs : starEach [e] X.env = [(false, eval e X.env)] := by rfl) : PI X (.Tuple elts kk tpos) (.Call (.Name "enumerate" p) [e] [] pos) (TID c W m (iArgs iEnumTF ds)) :=
  PIimp (pi_enumT hg hm ha.pa hs) fun σ H R ⟨F, ρ, ω, S, q⟩ => iargs_step S q fun F1 H1 xs as l s r e1 q1 => by
    match as, e1, r with
    | [.tuple ds], e1, r =>
      obtain ⟨v, rfl, r1⟩ := r.one
      cases r1 with
      | @tup a ys _ h1 h2 =>
        simp only [iEnumTF, Option.some.injEq] at e1
        subst e1
        refine ⟨a, ys, rfl, ?_, q1 _ ?_⟩
        · rw [hk]; exact sameT s h1
        · rw [hk]; exact wk_enumT h1 h2
end
@[simp] theorem iEnumTF_t (ds : List D) : iEnumTF [.tuple ds] = some (enumL 0 ds) := (rfl)
@[simp] theorem iEnumF_l (ds : List D) : iEnumF [.list ds] = some (enumL 0 ds) := (rfl)
end M

set_option Elab.async false
set_option linter.all false
set_option maxRecDepth 100000
set_option maxHeartbeats 4000000
namespace M
open PySem PySem.Spec PyProof.Rows L2
/-! ### chains of three comparisons -/
def tChain3 (r1 r2 r3 : R2) (ta tb tc td : TE) : TE := fun σ H Q => ta σ H fun x H1 => tb σ H1 fun y H2 => r1 x y H2 fun z H3 => ∃ k, z = .bl k ∧
  (if k = true then tc σ H3 fun v H4 => r2 y v H4 fun z2 H5 => ∃ k2, z2 = .bl k2 ∧ (if k2 = true then td σ H5 fun u H6 => r3 v u H6 Q else Q (.bl false) H5) else Q (.bl false) H3)
theorem pe_chain3 {X : Cx} {a b c d : Expr} {pos : Pos} {ta tb tc td : TE} {o1 o2 o3 : CmpOp} {r1 r2 r3 : R2} (h1 : OpR X (compareOp o1) r1) (h2 : OpR X (compareOp o2) r2) (h3 : OpR X (compareOp o3) r3) (ha : PE X a ta) (hb : PE X b tb) (hc : PE X c tc) (hd : PE X d td)
    (hm : lastMarks [o1, o2, o3] [b, c, d] = false := by with_unfolding_all rfl) : PE X (.Compare a [o1, o2, o3] [b, c, d] pos) (tChain3 r1 r2 r3 ta tb tc td) := by
  refine ⟨fun pins s σ H Q I h => Compare_chain (thn (ha.run pins s σ H _ I h) fun v s1 ⟨x, H1, I1, x1, q1⟩ => chain_link (thn (hb.run pins s1 σ H1 _ I1 q1) fun u s2 ⟨y, H2, I2, x2, q2⟩ =>
    thn (h1 pins s2 σ H2 x y v u _ I2 x1 x2 q2) fun g s3 ⟨z, H3, I3, x3, k, e, q3⟩ => ?_)) hm⟩
  cases e
  cases x3
  refine wpAny_truthy_bool ?_
  cases k with
  | false => exact ite_ff ⟨.bl false, H3, I3, rfl, q3⟩
  | true =>
    refine ite_tt (chain_link (thn (hc.run pins s3 σ H3 _ I3 q3) fun v2 s4 ⟨w, H4, I4, x4, q4⟩ => thn (h2 pins s4 σ H4 y w u v2 _ I4 x2 x4 q4) fun g2 s5 ⟨z2, H5, I5, x5, k2, e2, q5⟩ => ?_))
    cases e2
    cases x5
    refine wpAny_truthy_bool ?_
    cases k2 with
    | false => exact ite_ff ⟨.bl false, H5, I5, rfl, q5⟩
    | true => exact ite_tt (chain_last (thn (hd.run pins s5 σ H5 _ I5 q5) fun v3 s6 ⟨z3, H6, I6, x6, q6⟩ => h3 pins s6 σ H6 w z3 v2 v3 Q I6 x4 x6 q6))
def ch3c (h : D → D → Option Bool) (d4 : Ev → MM D) (ρ : Ev) (z : D) : Bool → Wd → Res D
  | true, w => (d4 ρ w).bind fun u w => (ofO (h z u) w).bind fun t w => .ok (.bool t) w
  | false, w => .ok (.bool false) w
def ch3b (g h : D → D → Option Bool) (d3 d4 : Ev → MM D) (ρ : Ev) (b : D) : Bool → Wd → Res D
  | true, w => (d3 ρ w).bind fun z w => (ofO (g b z) w).bind (ch3c h d4 ρ z)
  | false, w => .ok (.bool false) w
def eChain3 (f g h : D → D → Option Bool) (d1 d2 d3 d4 : Ev → MM D) : Ev → MM D := fun ρ ω => (d1 ρ ω).bind fun a w => (d2 ρ w).bind fun b w => (ofO (f a b) w).bind (ch3b g h d3 d4 ρ b)
section
variable {c : CM} {W : WX} {m : Md} {X : Cx} {a b x3 x4 : Expr} {pos : Pos}
theorem e_chain3 {o1 o2 o3 : CmpOp} {r1 r2 r3 : R2} {f g h : D → D → Option Bool} {d1 d2 d3 d4 : Ev → MM D} (q1 : OpR X (compareOp o1) r1) (q2 : OpR X (compareOp o2) r2) (q3 : OpR X (compareOp o3) r3) (v1 : VOpB c.K r1 f) (v2 : VOpB c.K r2 g) (v3 : VOpB c.K r3 h)
    (h1 : E c W m X a d1) (h2 : E c W m X b d2) (h3 : E c W m X x3 d3) (h4 : E c W m X x4 d4) (hm : lastMarks [o1, o2, o3] [b, x3, x4] = false := by with_unfolding_all rfl) : E c W m X (.Compare a [o1, o2, o3] [b, x3, x4] pos) (eChain3 f g h d1 d2 d3 d4) :=
  PEimp (pe_chain3 q1 q2 q3 h1 h2 h3 h4 hm) fun σ H Q ⟨F, ρ, ω, S, q⟩ => by
    exact bin_step S Post.pg q fun F2 H2 x y a b w _ S2 y1 y2 z2 => by
      cases e1 : f a b with
      | none => rw [e1] at z2; exact z2.elim
      | some t =>
        rw [e1, ofO_some, bind_ok] at z2
        refine v1 F2 H2 x y a b t _ S2.fh y1 y2 e1 ⟨t, rfl, ?_⟩
        cases t with
        | false => exact iteF (z2 F2 H2 (Xt.refl S2.fh) S2.bo _ (.bl false))
        | true =>
          refine iteT ⟨F2, ρ, w, S2, bindT S2 Post.pg z2 fun z F3 H3 w3 t3 S3 z3 zv y3 => ?_⟩
          cases e2 : g b z with
          | none => rw [e2] at z3; exact z3.elim
          | some t =>
            rw [e2, ofO_some, bind_ok] at z3
            refine v2 F3 H3 y zv b z t _ S3.fh (y2.mono t3.ff) y3 e2 ⟨t, rfl, ?_⟩
            cases t with
            | false => exact iteF (z3 F3 H3 (Xt.refl S3.fh) S3.bo _ (.bl false))
            | true =>
              refine iteT ⟨F3, ρ, w3, S3, bindT S3 Post.pg z3 fun u F4 H4 w4 t4 S4 z4 uv y4 => ?_⟩
              cases e3 : h z u with
              | none => rw [e3] at z4; exact z4.elim
              | some t =>
                rw [e3] at z4
                exact v3 F4 H4 zv uv z u t _ S4.fh (y3.mono t4.ff) y4 e3 (z4 F4 H4 (Xt.refl S4.fh) S4.bo _ (.bl t))
end
end M

set_option Elab.async false
set_option linter.all false
set_option maxRecDepth 100000
set_option maxHeartbeats 4000000
namespace M
open PySem PySem.Spec PyProof.Rows L2
/-! ### sorted of pairs of ints -/
def rSortPT (K : PySem.W.Frag) : List V → Hp → VK → Prop := fun vs H Q => ∃ (a : Addr) (xs : List V) (k : V → Int × Int), vs = [V.ref a] ∧ SqL K H a xs ∧ (∀ x ∈ xs, ∃ t, x = V.ref t ∧ SqT K H t [.int (k x).1, .int (k x).2]) ∧
  ∀ ys p, SrtO.Srtd (ltP k) ys → SrtO.Stb (ltP k) ys xs → H p = none → Q (.ref p) (upd H p (.lst ys))
theorem cr_sortPT {X : Cx} : CallR X (.builtin "sorted") (rSortPT X.K) := fun pins s σ H vs us Q I r h => by
  obtain ⟨a, xs, k, rfl, hs, hx, q⟩ := h
  obtain ⟨items, vals, lst, size⟩ := I.list hs
  obtain ⟨w, rfl, rw'⟩ := vals1 r
  cases (show w = Value.ref a from rw')
  have back := refs_back vals fun x m => let ⟨t, e, _⟩ := hx x m; ⟨t, e⟩
  refine SrtO.sorted_pairsO (k := fun z => k (backV z)) lst.isList (by rw [← vals.length]; exact size) (fun v hv => ?_) fun h2 d out srt stb keep dn dl => ?_
  · obtain ⟨t, rfl⟩ := back.2 v hv
    have mem : V.ref t ∈ xs := by rw [back.1]; exact List.mem_map.2 ⟨_, hv, rfl⟩
    obtain ⟨t2, e, ht⟩ := hx _ mem
    cases e
    obtain ⟨its2, r2, ⟨o, ho, hc, n, hd⟩, _⟩ := I.tuple ht
    obtain ⟨v1, v2, rfl, g1, g2⟩ := vals2 r2
    obtain ⟨t1, rfl⟩ := g1
    obtain ⟨t3, rfl⟩ := g2
    exact ⟨t, o, t1, t3, n, rfl, ho, hc, hd⟩
  · obtain ⟨n, dl⟩ := dl
    have st2 : SrtO.Stb (ltP k) (out.map backV) xs := by rw [back.1]; exact SrtO.Stb.map (ltP_swo k) backV stb
    have sz : (out.map backV).length ≤ sizeLine := by rw [st2.len]; exact size
    exact ⟨.ref d, upd H d (.lst (out.map backV)), I.laid (t' := s.toks) keep dn ⟨sz, out, n, vals_back fun u hu => back.2 u (stb.perm.mem_iff.1 hu), dl⟩, rfl, q _ d (SrtO.srtd_map srt) st2 (I.hok.fresh dn)⟩
/-- lists of pairs -/
inductive PrL (K : PySem.W.Frag) (H : Hp) : List V → List (Int × Int) → Prop
  | nil : PrL K H [] []
  | cons {t : Addr} {p : Int × Int} {xs : List V} {ps : List (Int × Int)} : SqT K H t [.int p.1, .int p.2] → PrL K H xs ps → PrL K H (.ref t :: xs) (p :: ps)
def leQ (a b : Int × Int) : Prop := a.1 < b.1 ∨ (a.1 = b.1 ∧ a.2 ≤ b.2)
instance (a b : Int × Int) : Decidable (leQ a b) := by unfold leQ; infer_instance
theorem leQ_total {a b : Int × Int} (h : ¬ leQ a b) : leQ b a := by unfold leQ at *; omega
theorem leQ_trans {a b c : Int × Int} (h : leQ a b) (g : leQ b c) : leQ a c := by unfold leQ at *; omega
theorem leQ_anti {a b : Int × Int} (h : leQ a b) (g : leQ b a) : a = b := by unfold leQ at *; exact Prod.ext (by omega) (by omega)
def insQ (x : Int × Int) : List (Int × Int) → List (Int × Int)
  | [] => [x]
  | y :: r => if leQ x y then x :: y :: r else y :: insQ x r
def sortQ : List (Int × Int) → List (Int × Int)
  | [] => []
  | x :: r => insQ x (sortQ r)
theorem insQ_perm (x : Int × Int) : ∀ l, (insQ x l).Perm (x :: l)
  | [] => List.Perm.refl _
  | y :: r => by
    unfold insQ
    split
    · exact List.Perm.refl _
    · exact ((insQ_perm x r).cons y).trans (List.Perm.swap x y r)
theorem sortQ_perm : ∀ l, (sortQ l).Perm l
  | [] => List.Perm.refl _
  | x :: r => (insQ_perm x _).trans ((sortQ_perm r).cons x)
theorem insQ_srt (x : Int × Int) : ∀ l, l.Pairwise leQ → (insQ x l).Pairwise leQ
  | [], _ => List.pairwise_singleton _ _
  | y :: r, h => by
    obtain ⟨h1, h2⟩ := List.pairwise_cons.1 h
    unfold insQ
    split
    · rename_i le
      refine List.pairwise_cons.2 ⟨fun z hz => ?_, h⟩
      rcases List.mem_cons.1 hz with rfl | hz
      · exact le
      · exact leQ_trans le (h1 z hz)
    · rename_i le
      refine List.pairwise_cons.2 ⟨fun z hz => ?_, insQ_srt x r h2⟩
      rcases List.mem_cons.1 ((insQ_perm x r).mem_iff.1 hz) with rfl | hz
      · exact leQ_total le
      · exact h1 z hz
theorem sortQ_srt : ∀ l, (sortQ l).Pairwise leQ
  | [] => List.Pairwise.nil
  | x :: r => insQ_srt x _ (sortQ_srt r)
theorem srt_uniq : ∀ {l m : List (Int × Int)}, l.Pairwise leQ → m.Pairwise leQ → l.Perm m → l = m
  | [], m, _, _, h => (List.perm_nil.1 h.symm).symm
  | x :: l, [], _, _, h => (List.perm_nil.1 h)
  | x :: l, y :: m, h1, h2, h => by
    obtain ⟨a1, a2⟩ := List.pairwise_cons.1 h1
    obtain ⟨b1, b2⟩ := List.pairwise_cons.1 h2
    have e : x = y := by
      rcases List.mem_cons.1 (h.mem_iff.1 (List.mem_cons_self (a := x) (l := l))) with e | hx
      · exact e
      · rcases List.mem_cons.1 (h.mem_iff.2 (List.mem_cons_self (a := y) (l := m))) with e | hy
        · exact e.symm
        · exact leQ_anti (a1 y hy) (b1 x hx)
    subst e
    rw [srt_uniq a2 b2 h.cons_inv]
def rSortPD (K : PySem.W.Frag) : List V → Hp → VK → Prop := fun vs H Q => ∃ (F : Hp) (a : Addr) (xs : List V) (ps : List (Int × Int)), Same F H ∧ vs = [V.ref a] ∧ SqL K H a xs ∧ PrL K F xs ps ∧ ∀ ys p, PrL K F ys (sortQ ps) → H p = none → Q (.ref p) (upd H p (.lst ys))
theorem cr_sortPD {X : Cx} : CallR X (.builtin "sorted") (rSortPD X.K) := fun pins s σ H vs us Q I r h => by
  obtain ⟨F, a, xs, ps, sm, rfl, hs, hp, q⟩ := h
  have inj : ∀ {t : Addr} {p q : Int × Int}, SqT X.K F t [.int p.1, .int p.2] → SqT X.K F t [.int q.1, .int q.2] → p = q := fun h1 h2 => by
    have := I.tuple_inj (sameT sm h1) (sameT sm h2)
    simp at this
    exact Prod.ext this.1 this.2
  obtain ⟨k, hk⟩ : ∃ k : V → Int × Int, ∀ t p, SqT X.K F t [.int p.1, .int p.2] → k (.ref t) = p := by
    classical
    refine ⟨fun x => match x with
      | .ref t => if z : ∃ p : Int × Int, SqT X.K F t [.int p.1, .int p.2] then Classical.choose z else (0, 0)
      | _ => (0, 0), fun t p h => ?_⟩
    have z : ∃ p : Int × Int, SqT X.K F t [.int p.1, .int p.2] := ⟨p, h⟩
    simp only [dif_pos z]
    exact inj (Classical.choose_spec z) h
  have all : ∀ {xs : List V} {ps : List (Int × Int)}, PrL X.K F xs ps → xs.map k = ps ∧ ∀ x ∈ xs, ∃ t, x = V.ref t ∧ SqT X.K F t [.int (k x).1, .int (k x).2] := by
    intro xs ps h
    induction h with
    | nil => exact ⟨rfl, fun _ h => nomatch h⟩
    | cons h1 h2 ih =>
      refine ⟨by rw [List.map_cons, ih.1, hk _ _ h1], fun x hx => ?_⟩
      rcases List.mem_cons.1 hx with rfl | hx
      · exact ⟨_, rfl, by rw [hk _ _ h1]; exact h1⟩
      · exact ih.2 x hx
  have back : ∀ {ys : List V}, (∀ y ∈ ys, ∃ t, y = V.ref t ∧ SqT X.K F t [.int (k y).1, .int (k y).2]) → PrL X.K F ys (ys.map k) := by
    intro ys
    induction ys with
    | nil => intro _; exact .nil
    | cons y ys ih =>
      intro h
      obtain ⟨t, e, ht⟩ := h y (by simp)
      subst e
      exact .cons ht (ih fun z hz => h z (by simp [hz]))
  obtain ⟨e1, e2⟩ := all hp
  refine cr_sortPT pins s σ H _ us Q I r ⟨a, xs, k, rfl, hs, (fun x hx => let ⟨t, e, h⟩ := e2 x hx; ⟨t, e, sameT sm h⟩), fun ys p srt stb np => q ys p ?_ np⟩
  have hy := back fun y hy => e2 y (stb.perm.mem_iff.1 hy)
  have e3 : ys.map k = sortQ ps := by
    refine srt_uniq ?_ (sortQ_srt ps) (((stb.perm.map k).trans (by rw [e1])).trans (sortQ_perm ps).symm)
    rw [List.pairwise_map]
    exact srt.imp fun {x y} h => by
      have := SrtO.lexB_no.mp h
      unfold leQ
      omega
  rw [← e3]
  exact hy
def encP (p : Int × Int) : D := .tuple [.int p.1, .int p.2]
def pairsOf : List D → Option (List (Int × Int))
  | [] => some []
  | .tuple [.int i, .int j] :: r => (pairsOf r).map ((i, j) :: ·)
  | _ => none
theorem pairsOf_map : ∀ ps : List (Int × Int), pairsOf (ps.map encP) = some ps
  | [] => rfl
  | p :: ps => by simp [encP, pairsOf, pairsOf_map ps]
theorem pairs_in {K : PySem.W.Frag} {F : Hp} : ∀ {ds : List D} {xs : List V} {ps : List (Int × Int)}, RpL K F xs ds → pairsOf ds = some ps → PrL K F xs ps
  | [], _, _, h, e => by cases h; simp [pairsOf] at e; subst e; exact .nil
  | .tuple [.int i, .int j] :: r, _, ps, h, e => by
    cases h with
    | cons h1 h2 =>
      simp only [pairsOf, Option.map_eq_some_iff] at e
      obtain ⟨qs, e, rfl⟩ := e
      cases h1 with
      | tup g1 g2 =>
        cases g2 with
        | cons a1 a2 =>
          cases a1
          cases a2 with
          | cons b1 b2 =>
            cases b1
            cases b2
            exact .cons (p := (i, j)) g1 (pairs_in h2 e)
theorem pairs_out {K : PySem.W.Frag} {F : Hp} : ∀ {xs : List V} {ps : List (Int × Int)}, PrL K F xs ps → RpL K F xs (ps.map encP)
  | _, _, .nil => .nil
  | _, _, .cons h1 h2 => .cons (.tup h1 (.cons (.int _) (.cons (.int _) .nil))) (pairs_out h2)
def fSortP : List D → Option D
  | [.list xs] => (pairsOf xs).map fun ps => .list ((sortQ ps).map encP)
  | _ => none
theorem v_sortP {K K' : PySem.W.Frag} (hk : K' = K) : VAr K (rSortPD K') fSortP := by
  intro F H xs as v Q S r e q
  match as, e, r with
  | [.list ds], e, r =>
    simp only [fSortP, Option.map_eq_some_iff] at e
    obtain ⟨ps, e1, e2⟩ := e
    subst e2
    obtain ⟨x, rfl, r1⟩ := r.one
    cases r1 with
    | lst g1 g2 =>
      subst hk
      exact ⟨F, _, _, ps, S, rfl, SqL.of (S _ _ g1), pairs_in g2 e1, fun ys p h np => rp_new_lst S np (pairs_out h) q⟩
@[simp] theorem fSortP_map (ps : List (Int × Int)) : fSortP [.list (ps.map encP)] = some (.list ((sortQ ps).map encP)) := by simp [fSortP, pairsOf_map]
end M

set_option Elab.async false
set_option linter.all false
set_option maxRecDepth 100000
set_option maxHeartbeats 4000000
namespace M
open PySem PySem.Spec PyProof.Rows L2
/-! ### comparing data of one kind -/
def noN : D → Bool
  | .none => false
  | _ => true
theorem noN_ne {d : D} (h : noN d = true) : d ≠ .none := fun e => by subst e; cases h
def okC (a b : D) : Bool := PySem.W.alike a b && (noN a && decide (min a.depth b.depth ≤ 64))
def gCmp (f : D → D → Bool) (a b : D) : Option Bool := if okC a b = true then some (f a b) else none
def gLt : D → D → Option Bool := gCmp fun a b => PySem.W.dataLt a b
def gGt : D → D → Option Bool := gCmp fun a b => PySem.W.dataLt b a
def gLe : D → D → Option Bool := gCmp fun a b => !PySem.W.dataLt b a
def gGe : D → D → Option Bool := gCmp fun a b => !PySem.W.dataLt a b
def rCmp (f : D → D → Bool) (K : PySem.W.Frag) : R2 := fun x y H Q => ∃ a b, Dp K H x a ∧ Dp K H y b ∧ okC a b = true ∧ Q (.bl (f a b)) H
theorem okC_it {a b : D} (h : okC a b = true) : PySem.W.alike a b = true ∧ a ≠ .none ∧ min a.depth b.depth ≤ 64 := by
  unfold okC at h
  simp only [Bool.and_eq_true, decide_eq_true_eq] at h
  exact ⟨h.1, noN_ne h.2.1, h.2.2⟩
section
variable {X : Cx}
theorem op_ltG (hu : X.A.units + 65 < cLine) : OpR X (compareOp .Lt) (rCmp (fun a b => PySem.W.dataLt a b) X.K) := by
  intro pins s σ H x y v u Q I rx ry ⟨a, b, ha, hb, ok, q⟩
  obtain ⟨as, r1⟩ := Dp.reads I a x v ha rx
  obtain ⟨bs, r2⟩ := Dp.reads I b y u hb ry
  obtain ⟨k1, k2, k3⟩ := okC_it ok
  exact PySem.W.lt_data r1 r2 k1 k2 (by omega) ⟨.bl _, H, I, rfl, q⟩
theorem op_gtG (hu : X.A.units + 65 < cLine) : OpR X (compareOp .Gt) (rCmp (fun a b => PySem.W.dataLt b a) X.K) := by
  intro pins s σ H x y v u Q I rx ry ⟨a, b, ha, hb, ok, q⟩
  obtain ⟨as, r1⟩ := Dp.reads I a x v ha rx
  obtain ⟨bs, r2⟩ := Dp.reads I b y u hb ry
  obtain ⟨k1, k2, k3⟩ := okC_it ok
  exact PySem.W.gt_data r1 r2 k1 k2 (by omega) ⟨.bl _, H, I, rfl, q⟩
theorem op_leG (hu : X.A.units + 65 < cLine) : OpR X (compareOp .LtE) (rCmp (fun a b => !PySem.W.dataLt b a) X.K) := by
  intro pins s σ H x y v u Q I rx ry ⟨a, b, ha, hb, ok, q⟩
  obtain ⟨as, r1⟩ := Dp.reads I a x v ha rx
  obtain ⟨bs, r2⟩ := Dp.reads I b y u hb ry
  obtain ⟨k1, k2, k3⟩ := okC_it ok
  exact PySem.W.le_data r1 r2 k1 k2 (by omega) ⟨.bl _, H, I, rfl, q⟩
theorem op_geG (hu : X.A.units + 65 < cLine) : OpR X (compareOp .GtE) (rCmp (fun a b => !PySem.W.dataLt a b) X.K) := by
  intro pins s σ H x y v u Q I rx ry ⟨a, b, ha, hb, ok, q⟩
  obtain ⟨as, r1⟩ := Dp.reads I a x v ha rx
  obtain ⟨bs, r2⟩ := Dp.reads I b y u hb ry
  obtain ⟨k1, k2, k3⟩ := okC_it ok
  exact PySem.W.ge_data r1 r2 k1 k2 (by omega) ⟨.bl _, H, I, rfl, q⟩
end
theorem v_cmpG {K K' : PySem.W.Frag} {f : D → D → Bool} (hk : K' = K) : VOpB K (rCmp f K') (gCmp f) := by
  subst hk
  intro F H x y a b v Q S r1 r2 e q
  simp only [gCmp, Option.ite_none_right_eq_some, Option.some.injEq] at e
  obtain ⟨e1, e2⟩ := e
  subst e2
  exact ⟨a, b, (r1.mono S).dp, (r2.mono S).dp, e1, q⟩
/-! ### sorted of a list of data of one kind -/
def leD (a b : D) : Bool := PySem.W.dataLe false (fun d : D => d) a b
structure SrtOk (ds : List D) : Prop where
  al : PySem.W.AllAlike ds
  so : PySem.W.Sortable ds
  len : ds.length ≤ sizeLine
  dp : ∀ d ∈ ds, d.depth ≤ 62
def sortD (ds : List D) : List D := ds.mergeSort leD
open Classical in
noncomputable def fSortD : List D → Option D
  | [.list ds] => if SrtOk ds then some (.list (sortD ds)) else none
  | _ => none
theorem fSortD_ok {ds : List D} (h : SrtOk ds) : fSortD [.list ds] = some (.list (sortD ds)) := if_pos h
def rSortDL (K : PySem.W.Frag) : List V → Hp → VK → Prop := fun vs H Q => ∃ (F : Hp) (a : Addr) (xs : List V) (ds : List D), Same F H ∧ vs = [V.ref a] ∧ SqL K H a xs ∧ RpL K F xs ds ∧ SrtOk ds ∧ ∀ ys p, RpL K F ys (sortD ds) → H p = none → Q (.ref p) (upd H p (.lst ys))
theorem RpL.zip {K : PySem.W.Frag} {H : Hp} : ∀ {ds : List D} {vs : List V}, RpL K H vs ds → ∀ p ∈ ds.zip vs, Rp K H p.2 p.1
  | [], _, h, p, hp => by simp at hp
  | d :: ds, _, h, p, hp => by
    cases h with
    | cons h1 h2 =>
      rcases List.mem_cons.1 (by simpa using hp) with rfl | hp
      · exact h1
      · exact h2.zip p hp
theorem rpL_of {K : PySem.W.Frag} {H : Hp} : ∀ (ps : List (D × V)), (∀ p ∈ ps, Rp K H p.2 p.1) → RpL K H (ps.map (·.2)) (ps.map (·.1))
  | [], _ => .nil
  | p :: ps, h => .cons (h p (by simp)) (rpL_of ps fun q hq => h q (by simp [hq]))
theorem each_vals : ∀ {vs : List V} {us : List Value} {ds : List D}, Vals vs us → vs.length = ds.length → PySem.W.EachIs (fun (u : Value) (p : D × V) => RelV p.2 u) us (ds.zip vs)
  | [], _, [], .nil, _ => .nil
  | v :: vs, _, d :: ds, .cons r t, h => .cons r (each_vals t (by simpa using h))
theorem vals_each : ∀ {us : List Value} {ps : List (D × V)}, PySem.W.EachIs (fun (u : Value) (p : D × V) => RelV p.2 u) us ps → Vals (ps.map (·.2)) us
  | _, _, .nil => .nil
  | _, _, .cons r t => .cons r (vals_each t)
theorem each_reads {X : Cx} {pins : List (Addr × Obj)} {σ : L2.St} {H F : Hp} {s : Shared} (I : Inv X pins σ H s) (sm : Same F H) : ∀ {vs : List V} {us : List Value} {ds : List D}, Vals vs us → RpL X.K F vs ds → PySem.W.EachIs (fun (u : Value) (p : D × V) => ∃ as, Reads s.heap u p.1 as) us (ds.zip vs)
  | [], _, _, .nil, h => by cases h; exact .nil
  | v :: vs, _, _, .cons r t, h => by
    cases h with
    | cons h1 h2 => exact .cons (Dp.reads I _ v _ (h1.mono sm).dp r) (each_reads I sm t h2)
theorem cr_sortDL {X : Cx} (hu : X.A.units + 65 < cLine) : CallR X (.builtin "sorted") (rSortDL X.K) := by
  intro pins s σ H vs us Q I r ⟨F, a, xs, ds, sm, e0, hs, hp, ok, q⟩
  subst e0
  obtain ⟨its, rv, hl, hz⟩ := I.list hs
  rw [Vals.ref1 r]
  have hlen : xs.length = ds.length := hp.length
  have mp : (ds.zip xs).map (fun p => p.1) = ds := by rw [List.map_fst_zip]; omega
  refine PySem.W.sorted_data (β := D × V) (bs := ds.zip xs) (enc := fun p => p.1) hl.isList (each_vals rv hlen) (each_reads I sm rv hp) (by rw [mp]; exact ok.al) (by rw [mp]; exact ok.so) (by rw [List.length_zip]; have := ok.len; omega) (fun b hb => ?_) fun out hol hout => ?_
  · have := ok.dp b.1 (by rw [← mp]; exact List.mem_map.2 ⟨b, hb, rfl⟩)
    omega
  · obtain ⟨ep, he⟩ := PyProof.Rows.sortedAll_at s.heap its (List.toArray out)
    have e1 : ((ds.zip xs).mergeSort (PySem.W.dataLe false fun p : D × V => p.1)).map (fun p => p.1) = sortD ds := by
      have e := List.map_mergeSort (r := PySem.W.dataLe false fun p : D × V => p.1) (s := leD) (f := fun p : D × V => p.1) (l := ds.zip xs) (fun a _ b _ => rfl)
      rw [mp] at e
      exact e
    have e2 : RpL X.K F (((ds.zip xs).mergeSort (PySem.W.dataLe false fun p : D × V => p.1)).map (fun p => p.2)) (sortD ds) := by
      rw [← e1]
      exact rpL_of _ fun p hq => hp.zip p ((List.mergeSort_perm _ _).mem_iff.1 hq)
    have hl2 : (((ds.zip xs).mergeSort (PySem.W.dataLe false fun p : D × V => p.1)).map (fun p => p.2)).length ≤ sizeLine := by
      rw [e2.length]
      unfold sortD
      rw [List.length_mergeSort]
      exact ok.len
    exact ⟨.ref _, upd H (s.heap.objs.size + 1) (.lst (((ds.zip xs).mergeSort (PySem.W.dataLe false fun p : D × V => p.1)).map fun p => p.2)), I.laid (t' := s.toks) (fun _ _ => PyProof.Rows.sortedAll_old) (Nat.le_succ _) ⟨hl2, _, ep, vals_each hout, he⟩, rfl, q _ _ e2 (I.hok.fresh (Nat.le_succ _))⟩
theorem v_sortD {K K' : PySem.W.Frag} (hk : K' = K) : VAr K (rSortDL K') fSortD := by
  intro F H xs as v Q S r e q
  match as, e, r with
  | [.list ds], e, r =>
    simp only [fSortD, Option.ite_none_right_eq_some, Option.some.injEq] at e
    obtain ⟨e1, e2⟩ := e
    subst e2
    obtain ⟨x, rfl, r1⟩ := r.one
    cases r1 with
    | lst g1 g2 =>
      subst hk
      exact ⟨F, _, _, ds, S, rfl, SqL.of (S _ _ g1), g2, e1, fun ys p h np => rp_new_lst S np h q⟩
/-! ### max and min -/
structure MaxOk (ds : List D) : Prop where
  al : PySem.W.AlikeAll ds
  dp : PyData.depthAll ds ≤ 60
theorem maxD_mem (x : D) : ∀ xs : List D, PySem.W.maxD x xs ∈ x :: xs := by
  intro xs
  unfold PySem.W.maxD
  induction xs generalizing x with
  | nil => simp
  | cons y ys ih =>
    rw [List.foldl_cons]
    have := ih (if PySem.W.dataLt x y then y else x)
    rcases List.mem_cons.1 this with h | h
    · rw [h]; split <;> simp
    · simp [h]
theorem minD_mem (x : D) : ∀ xs : List D, PySem.W.minD x xs ∈ x :: xs := by
  intro xs
  unfold PySem.W.minD
  induction xs generalizing x with
  | nil => simp
  | cons y ys ih =>
    rw [List.foldl_cons]
    have := ih (if PySem.W.dataLt y x then y else x)
    rcases List.mem_cons.1 this with h | h
    · rw [h]; split <;> simp
    · simp [h]
def rBest (K : PySem.W.Frag) (f : D → List D → D) : List V → Hp → VK → Prop := fun vs H Q => ∃ (F : Hp) (a : Addr) (xs : List V) (d : D) (ds : List D), Same F H ∧ vs = [V.ref a] ∧ (SqL K H a xs ∨ SqT K H a xs) ∧ RpL K F xs (d :: ds) ∧ MaxOk (d :: ds) ∧ ∀ x, Rp K F x (f d ds) → Q x H
theorem vals_get : ∀ {vs : List V} {us : List Value} {i : Nat} {u : Value}, Vals vs us → us[i]? = some u → ∃ v, vs[i]? = some v ∧ RelV v u
  | [], _, _, _, .nil, h => by simp at h
  | v :: vs, _, 0, _, .cons r t, h => by simp at h; subst h; exact ⟨v, rfl, r⟩
  | v :: vs, _, i + 1, _, .cons r t, h => by
    obtain ⟨x, h1, h2⟩ := vals_get t (by simpa using h)
    exact ⟨x, by simpa using h1, h2⟩
theorem best_end {X : Cx} {pins : List (Addr × Obj)} {σ : L2.St} {H F : Hp} {s : Shared} {xs : List V} {its : List Value} {ds : List D} {b : D} {Q : VK} (I : Inv X pins σ H s) (sm : Same F H) (rv : Vals xs its) (hp : RpL X.K F xs ds) (ok : MaxOk ds) (hb : b ∈ ds)
    (q : ∀ x, Rp X.K F x b → Q x H) (i : Nat) (v : Value) (h' : Heap) (tk : Nat) (bs : List Addr) (hv : its.toArray[i]? = some v) (rd : Reads h' v b bs) (hk : ∀ b o, s.heap.get? b = some o → h'.get? b = some o) : EP X pins σ Q v { s with heap := h', toks := tk } := by
  obtain ⟨x, e1, r1⟩ := vals_get rv (by simpa using hv)
  obtain ⟨d, e2, r2⟩ := hp.get' e1
  obtain ⟨as, r3⟩ := Dp.reads I d x v (r2.mono sm).dp r1
  have e : d = b := PySem.W.alike_unique d b v as bs (ok.al.1 d (List.mem_of_getElem? e2) b hb) (PySem.W.reads_keeps hk r3) rd
  subst e
  exact ⟨x, H, I.kept hk, r1, q x r2⟩
theorem cr_maxDL {X : Cx} (hc : X.calm = true) (hu : X.A.units + 65 < cLine) : CallR X (.builtin "max") (rBest X.K PySem.W.maxD) := by
  intro pins s σ H vs us Q I r ⟨F, a, xs, d, ds, sm, e0, hs, hp, ok, q⟩
  subst e0
  rw [Vals.ref1 r]
  have hd := ok.dp
  have dp : ∀ {its : List Value}, Vals xs its → ∃ as, ReadsAll s.heap its (d :: ds) as := fun rv => Dp.readsAll I (d :: ds) xs _ (hp.mono sm).dp rv
  rcases hs with hs | hs
  · obtain ⟨its, rv, hl, _⟩ := I.list hs
    obtain ⟨as, ra⟩ := dp rv
    exact PySem.W.max_list_data (I.ok.hd hc) hl.isList ra ok.al (by omega) fun i v h' tk bs hv rd hk => best_end I sm rv hp ok (maxD_mem d ds) q i v h' tk bs hv rd hk
  · obtain ⟨its, rv, hl, _⟩ := I.tuple hs
    obtain ⟨as, ra⟩ := dp rv
    exact PySem.W.max_tuple_data (I.ok.hd hc) hl ra ok.al (by omega) fun i v h' tk bs hv rd hk => best_end I sm rv hp ok (maxD_mem d ds) q i v h' tk bs hv rd hk
theorem cr_minDL {X : Cx} (hc : X.calm = true) (hu : X.A.units + 65 < cLine) : CallR X (.builtin "min") (rBest X.K PySem.W.minD) := by
  intro pins s σ H vs us Q I r ⟨F, a, xs, d, ds, sm, e0, hs, hp, ok, q⟩
  subst e0
  rw [Vals.ref1 r]
  have hd := ok.dp
  have dp : ∀ {its : List Value}, Vals xs its → ∃ as, ReadsAll s.heap its (d :: ds) as := fun rv => Dp.readsAll I (d :: ds) xs _ (hp.mono sm).dp rv
  rcases hs with hs | hs
  · obtain ⟨its, rv, hl, _⟩ := I.list hs
    obtain ⟨as, ra⟩ := dp rv
    exact PySem.W.min_list_data (I.ok.hd hc) hl.isList ra ok.al (by omega) fun i v h' tk bs hv rd hk => best_end I sm rv hp ok (minD_mem d ds) q i v h' tk bs hv rd hk
  · obtain ⟨its, rv, hl, _⟩ := I.tuple hs
    obtain ⟨as, ra⟩ := dp rv
    exact PySem.W.min_tuple_data (I.ok.hd hc) hl ra ok.al (by omega) fun i v h' tk bs hv rd hk => best_end I sm rv hp ok (minD_mem d ds) q i v h' tk bs hv rd hk
open Classical in
noncomputable def fBest (f : D → List D → D) : List D → Option D
  | [.list (d :: ds)] => if MaxOk (d :: ds) then some (f d ds) else none
  | [.tuple (d :: ds)] => if MaxOk (d :: ds) then some (f d ds) else none
  | _ => none
noncomputable def fMaxD : List D → Option D := fBest PySem.W.maxD
noncomputable def fMinD : List D → Option D := fBest PySem.W.minD
theorem fBest_list {f : D → List D → D} {d : D} {ds : List D} (h : MaxOk (d :: ds)) : fBest f [.list (d :: ds)] = some (f d ds) := if_pos h
theorem v_best {K K' : PySem.W.Frag} {f : D → List D → D} (hk : K' = K) : VAr K (rBest K' f) (fBest f) := by
  intro F H xs as v Q S r e q
  subst hk
  match as, e, r with
  | [.list (d :: ds)], e, r =>
    simp only [fBest, Option.ite_none_right_eq_some, Option.some.injEq] at e
    obtain ⟨e1, e2⟩ := e
    subst e2
    obtain ⟨x, rfl, r1⟩ := r.one
    cases r1 with
    | lst g1 g2 => exact ⟨F, _, _, d, ds, S, rfl, .inl (SqL.of (S _ _ g1)), g2, e1, fun x h => q F H x (Xt.refl S) h⟩
  | [.tuple (d :: ds)], e, r =>
    simp only [fBest, Option.ite_none_right_eq_some, Option.some.injEq] at e
    obtain ⟨e1, e2⟩ := e
    subst e2
    obtain ⟨x, rfl, r1⟩ := r.one
    cases r1 with
    | tup g1 g2 => exact ⟨F, _, _, d, ds, S, rfl, .inr (sameT S g1), g2, e1, fun x h => q F H x (Xt.refl S) h⟩
end M

set_option Elab.async false
set_option linter.all false
set_option maxRecDepth 100000
set_option maxHeartbeats 4000000
namespace M
open PySem PySem.Spec PyProof.Rows L2
/-! ### what may not be run -/
def eBad : Ev → MM D := fun _ _ => .bad
def sBad : Ev → MM Fl := fun _ _ => .bad
section
variable {c : CM} {W : WX} {m mb mc mn : Md} {X : Cx} {e a b o : Expr} {pos : Pos}
theorem e_bad : E c W m X e eBad := ⟨fun p s σ H Q I h => by
  obtain ⟨F, ρ, ω, S, q⟩ := h
  exact False.elim q⟩
/-! ### xs.index(y) -/
def vIndex (ds : List D) (d : D) : Option D := if SeqAt.shaped (.list ds) = true ∧ SeqAt.shaped d = true then (ds.findIdx? fun z => PyData.eqv z d).map fun j => .int (j : Nat) else none
def eIndex (d1 d2 : Ev → MM D) : Ev → MM D := fun ρ ω => (d1 ρ ω).bind fun a w => match a with
  | .list ds => (d2 ρ w).bind fun b w => ofO (vIndex ds b) w
  | _ => .bad
theorem e_index {nm : PySem.Str} {p2 p3 : Pos} {d1 d2 : Ev → MM D} (hk : X.K = c.K) (ho : E c W m X o d1) (ha : E c W m X a d2) (h : PE X o (TD c W m d1) → PE X a (TD c W m d2) → PE X (.Call (.Attribute o nm p2) [a] [] p3) (tBM X.K "list" (rIndexD X.K) (TD c W m d1) (tCons (TD c W m d2) tNil))) : E c W m X (.Call (.Attribute o nm p2) [a] [] p3) (eIndex d1 d2) :=
  PEimp (h ho ha) fun σ H Q ⟨F, ρ, ω, S, q⟩ => ⟨F, ρ, ω, S, bindT S Post.pg q fun v F1 H1 w1 x1 S1 q1 x r1 => by
    cases r1 with
    | lst g1 g2 =>
      rename_i l us ds
      refine ⟨.inl ⟨rfl, us, SqL.of (S1.fh _ _ g1)⟩, F1, ρ, w1, S1, bindT S1 Post.pg q1 fun u F2 H2 w2 x2 S2 q2 y r2 => ?_⟩
      obtain ⟨z, e1, q3⟩ := post_ofO S2.fh S2.bo q2
      simp only [vIndex, Option.ite_none_right_eq_some, Option.map_eq_some_iff] at e1
      obtain ⟨⟨s1, s2⟩, j, e2, rfl⟩ := e1
      obtain ⟨k1, k2, k3⟩ := List.findIdx?_eq_some_iff_getElem.1 e2
      refine ⟨l, y, u, ds, j, ds[j], rfl, rfl, ?_, ?_, s1, s2, List.getElem?_eq_getElem k1, k2, fun i z' hi hz => ?_, q3 F2 H2 (Xt.refl S2.fh) _ (.int _)⟩
      · rw [hk]; exact ((Rp.lst g1 g2).mono (x2.ff.trans S2.fh)).dp
      · rw [hk]; exact (r2.mono S2.fh).dp
      · obtain ⟨hl, rfl⟩ := List.getElem?_eq_some_iff.1 hz
        simpa using k3 i hi
    | _ => exact q1.elim⟩
/-! ### y in xs, xs a list of one's own -/
def bInO (i : Nat) (d1 : Ev → MM D) : Ev → MM Bool := fun ρ ω => (d1 ρ ω).bind fun a w => match look ρ i with
  | some (.list ds) => ofO (vIn a (.list ds)) w
  | _ => .bad
def bNotInO (i : Nat) (d1 : Ev → MM D) : Ev → MM Bool := fun ρ ω => (d1 ρ ω).bind fun a w => match look ρ i with
  | some (.list ds) => ofO (vNotIn a (.list ds)) w
  | _ => .bad
theorem b_inO {i : Nat} {d1 : Ev → MM D} (hi : i ∈ m.O) (hk : X.K = c.K) (hu : X.A.units + 65 < cLine) (h1 : E c W m X a d1) (h2 : PE X b (tVar i)) (hm : behindInMarks .In b = false) : B c W m X (.Compare a [.In] [b] pos) (bInO i d1) :=
  PTimp (pt_cmpR (op_inD hu) h1 h2 hm) fun σ H Q ⟨F, ρ, ω, S, q⟩ => ⟨F, ρ, ω, S, bindT S Post.pg q fun v F1 H1 w1 x1 S1 q1 x r1 => by
    cases hl : look ρ i with
    | none => rw [hl] at q1; exact q1.elim
    | some u =>
      rw [hl] at q1
      obtain ⟨l, us, ds, k1, rfl, k3, k4, k5, k6⟩ := S1.own i u (look_iff hl) hi
      obtain ⟨z, e1, q3⟩ := post_ofO S1.fh S1.bo q1
      simp only [vIn, Option.ite_none_right_eq_some, Option.some.injEq] at e1
      obtain ⟨⟨s1, s2⟩, rfl⟩ := e1
      refine ⟨_, k1, v, ds, ?_, ?_, s1, s2, _, rfl, q3 F1 H1 (Xt.refl S1.fh)⟩
      · rw [hk]; exact (r1.mono S1.fh).dp
      · rw [hk]; exact .lst (SqL.of k5) (k6.mono S1.fh).dp⟩
theorem b_notInO {i : Nat} {d1 : Ev → MM D} (hi : i ∈ m.O) (hk : X.K = c.K) (hu : X.A.units + 65 < cLine) (h1 : E c W m X a d1) (h2 : PE X b (tVar i)) (hm : behindInMarks .NotIn b = false) : B c W m X (.Compare a [.NotIn] [b] pos) (bNotInO i d1) :=
  PTimp (pt_cmpR (op_notInD hu) h1 h2 hm) fun σ H Q ⟨F, ρ, ω, S, q⟩ => ⟨F, ρ, ω, S, bindT S Post.pg q fun v F1 H1 w1 x1 S1 q1 x r1 => by
    cases hl : look ρ i with
    | none => rw [hl] at q1; exact q1.elim
    | some u =>
      rw [hl] at q1
      obtain ⟨l, us, ds, k1, rfl, k3, k4, k5, k6⟩ := S1.own i u (look_iff hl) hi
      obtain ⟨z, e1, q3⟩ := post_ofO S1.fh S1.bo q1
      simp only [vNotIn, Option.ite_none_right_eq_some, Option.some.injEq] at e1
      obtain ⟨⟨s1, s2⟩, rfl⟩ := e1
      refine ⟨_, k1, v, ds, ?_, ?_, s1, s2, _, rfl, q3 F1 H1 (Xt.refl S1.fh)⟩
      · rw [hk]; exact (r1.mono S1.fh).dp
      · rw [hk]; exact .lst (SqL.of k5) (k6.mono S1.fh).dp⟩
end
end M

set_option Elab.async false
set_option linter.all false
set_option maxRecDepth 100000
set_option maxHeartbeats 4000000
namespace M
open PySem PySem.Spec PyProof.Rows L2
/-! ### {e for x in xs if ..} of ints -/
section
variable {X : Cx}
/-- how the block of the comprehension is read: the set at D grows by what te tells -/
def tSi (w : World) (wi : TI) (g : TG) (tt : TT) (te : TE) (vs : List Nat) : TE := fun σ H Q => wi σ H fun J H1 => ∀ D, H1 D = none →
  ∃ V : Nat → Nat → Hp → Prop, (∃ n0, V 0 n0 (upd H1 D (SetO w D (fun _ => false) 0))) ∧ ∀ i n Hc, V i n Hc →
    ((J.stop i Hc ∧ Q (.ref D) Hc) ∨
     (J.go i Hc ∧ ∃ Nx : Hp → Prop, (∀ Hd, Nx Hd → ∃ n', n' < n ∧ V (i + 1) n' Hd) ∧ ∀ x Hd, J.yld i Hc x Hd → g x (wipe σ vs) Hd fun σa Ha =>
       wipe σa vs = wipe σ vs ∧ tt σa Ha fun yes Hb => if yes = true then te σa Hb fun y He => ∃ (k : Int) (S : Int → Bool) (sz : Nat), y = .int k ∧ He D = some (SetO w D S sz) ∧ sz + 1 < scanBound ∧ Nx (upd He D (SetO w D (fun j => S j || decide (j = k)) (if S k = true then sz else sz + 1))) else Nx Hb))
theorem pe_setI {elt tg iter : Expr} {ifs : List Expr} {scope : Scope} {own : List (PySem.Str × Nat)} {pos : Pos} {wi : TI} {g : TG} {tt : TT} {te : TE} (calm : X.calm = true) (nd : X.N.Nodup) (it : PI X tg iter wi) (blk : BlkOk X.N X.env.scope scope own)
    (hg : ∀ (s0 : Shared) (H0 : Hp) (C : Addr) (cl : List (PySem.Str × Addr)) (fp : List Addr), PG (X.blk s0 H0 scope (compEnvC scope cl C X.env) fp) tg g)
    (ht : ∀ (s0 : Shared) (H0 : Hp) (C : Addr) (cl : List (PySem.Str × Addr)) (fp : List Addr), PTs (X.blk s0 H0 scope (compEnvC scope cl C X.env) fp) ifs tt)
    (he : ∀ (s0 : Shared) (H0 : Hp) (C : Addr) (cl : List (PySem.Str × Addr)) (fp : List Addr), PE (X.blk s0 H0 scope (compEnvC scope cl C X.env) fp) elt te)
    (hfold : ∀ x, foldedSetIterable iter X.env x = pure x := by intro _; rfl) : PE X (.SetComp elt [⟨tg, iter, ifs, 0⟩] scope pos) (tSi X.w wi g tt te (own.map (·.2))) := by
  refine ⟨fun pins s σ H Q I h => ?_⟩
  rw [PpSet.eval_SetComp]
  have frees : ∀ y ∈ scope.names, y.2 = .free → ∃ c, X.env.cells.lookup y.1 = some c := fun y hy e =>
    (blk.free y hy e).elim (fun k => I.ok.has _ (.inl k)) (fun k => I.ok.has _ (.inr k))
  refine wpAny_comprehension_free rfl hfold (closure_ok frees) blk.kind (fun y hy e => by rw [blk.uniq y hy, e]) (thn (it.run pins s σ H _ I h) fun xv sA hx => thn hx fun itv sB hB => ?_)
  obtain ⟨ia, fp, tn, J, HB, rfl, IB, T, stB, fB, q⟩ := hB
  refine PpSet.newSet_ok (newEnv_comp ?_)
  have fresh : HB sB.heap.objs.size = none := IB.hok.fresh (Nat.le_of_eq rfl)
  obtain ⟨V, ⟨n0, v0⟩, turn⟩ := q sB.heap.objs.size fresh
  -- the heap with the new set
  obtain ⟨D, hD⟩ : ∃ D, D = sB.heap.objs.size := ⟨_, rfl⟩
  rw [← hD] at v0 turn fresh ⊢
  obtain ⟨sC, hC⟩ : ∃ sC : Shared, sC = { sB with heap := sB.heap.push { cls := .type "set", dict := none, data := .set #[] 0 (.fresh 0 0 (!X.w.params.followText "set-order")) } } := ⟨_, rfl⟩
  rw [← hC]
  have hpC : sC.heap = sB.heap.push { cls := .type "set", dict := none, data := .set #[] 0 (.fresh 0 0 (!X.w.params.followText "set-order")) } := by rw [hC]
  obtain ⟨HC, hHC⟩ : ∃ HC, HC = upd HB D (SetO X.w D (fun _ => false) 0) := ⟨_, rfl⟩
  have IC : Inv X pins σ HC sC := by
    rw [hC, hHC, hD]
    exact IB.laid (t' := sB.toks) (fun b o e => Heap.get?_push_of_some _ e) (Nat.le_of_eq rfl) (setO_new (setR_fresh X.w))
  rw [← hHC] at v0
  have low : ∀ b ∈ fp, b < D := fun b hb => by
    obtain ⟨o, e, _⟩ := T.obj _ _ stB b hb
    rw [hD]; exact Heap.lt_size e
  have fC : ∀ b ∈ fp, FpOk X pins HC b ∧ b < sC.heap.objs.size := fun b hb => by
    refine ⟨⟨?_, (fB b hb).2⟩, by rw [hpC, Heap.size_push, ← hD]; exact Nat.lt_succ_of_lt (low b hb)⟩
    rw [hHC, upd_ne (Nat.ne_of_lt (low b hb))]
    exact (fB b hb).1
  have stC : tn 0 sC.heap := T.keep _ _ _ stB fun b _ o e => by rw [hpC]; exact Heap.get?_push_of_some _ e
  -- inside the block
  have ID := block_start IC blk nd fC
  obtain ⟨ce, hce⟩ : ∃ ce, ce = compEnvC scope (cellsFrom (sC.heap.objs.size + 1) scope.names (cloFrom X.env.cells scope.names [])) sC.heap.objs.size X.env := ⟨_, rfl⟩
  have pg := hg sC HC sC.heap.objs.size (cellsFrom (sC.heap.objs.size + 1) scope.names (cloFrom X.env.cells scope.names [])) fp
  have pt := ht sC HC sC.heap.objs.size (cellsFrom (sC.heap.objs.size + 1) scope.names (cloFrom X.env.cells scope.names [])) fp
  have pe := he sC HC sC.heap.objs.size (cellsFrom (sC.heap.objs.size + 1) scope.names (cloFrom X.env.cells scope.names [])) fp
  show codeAny _ _ (.compStart _ 0 (.ref ia) (.ref D) (compEnvC scope (cellsFrom (sC.heap.objs.size + 1) scope.names (cloFrom X.env.cells scope.names [])) sC.heap.objs.size X.env)) _ { sC with heap := pushCells (sC.heap.push { cls := .type "dict", data := .dict #[] }) scope.names }
  rw [← hce] at ID pg pt pe ⊢
  have locE : ce.locals = sC.heap.objs.size := by rw [hce]; rfl
  obtain ⟨sD, hsD⟩ : ∃ sD : Shared, sD = { sC with heap := pushCells (sC.heap.push { cls := .type "dict", data := .dict #[] }) scope.names } := ⟨_, rfl⟩
  rw [← hsD] at ID ⊢
  have stD : tn 0 sD.heap := T.keep _ _ _ stC fun b _ o e => by rw [hsD]; exact pushCells_keeps _ _ _ _ (Heap.get?_push_of_some _ e)
  have none0 : ∀ b ∈ fp, HC b = none := fun b hb => (fC b hb).1.1
  have fpk : ∀ {τ : L2.St} {Hx : Hp} {sx : Shared}, Inv (X.blk sC HC scope ce fp) [] τ Hx sx → (∀ b ∈ fp, Hx b = none) → ∀ b ∈ fp, FpOk (X.blk sC HC scope ce fp) [] Hx b := fun {τ Hx sx} Ix hn b hb =>
    ⟨hn b hb, (Ix.ok.exf b hb).1, Ix.ok.exfs b hb, .inl hb, fun x c e => (Ix.ok.exf b hb).2 x c e, fun p hp => by cases hp⟩
  refine (fun lp => PpSet.codeAny_compStart_set lp (T.self X.A 0 _ _ _ stD lp)) ?_
  refine PpSet.compLoopS_any (fun n sx => ∃ i Hx, Inv (X.blk sC HC scope ce fp) [] (wipe σ (own.map (·.2))) Hx sx ∧ tn i sx.heap ∧ (∀ b ∈ fp, Hx b = none) ∧ V i n Hx) ?_ n0 ⟨0, HC, ID, stD, none0, v0⟩
  rintro n s5 ⟨i, H5, I5, st5, no5, v5⟩
  rcases turn i n H5 v5 with ⟨halt, fin⟩ | ⟨go, Nx, hNx, step⟩
  · refine thnF (T.done (X.blk sC HC scope ce fp) rfl rfl rfl calm i [] s5 _ H5 (fun _ _ => False) I5 (fpk I5 no5) st5 halt) fun r s6 hr6 => ?_
    obtain ⟨rfl, I6⟩ := hr6
    have I7 : Inv X pins σ H5 s6 := IC.call' (ch := fp) I6.os I6.base I6.hok I6.bare fun b hb => by
      obtain ⟨_, z1, z2, z3, z4⟩ := (fC b hb).1
      exact ⟨z3, z1, z4.1, z4.2⟩
    have nL : H5 sC.heap.objs.size = none := by
      have z : H5 ce.locals = none := I6.free
      rwa [locE] at z
    obtain ⟨mm, hmm, _⟩ := I6.loc
    have hmm : s6.heap.Ns ce.locals mm := hmm
    rw [locE] at hmm
    obtain ⟨f0, f1, f2, f3, f4, f5⟩ := IC.fpOk (Nat.le_refl _) nL
    exact ⟨mm, hmm, fun h'' sb => ⟨.ref D, H5, I7.turned (t' := s6.toks) (fun b o hb e => (sb.2 b hb).trans e) f0 f1 f3 f4 f5, rfl, fin⟩⟩
  · refine thnF (T.item (X.blk sC HC scope ce fp) rfl rfl rfl calm i [] s5 _ H5 (fun _ _ => False) I5 (fpk I5 no5) st5 go) fun r s6 hr6 => ?_
    obtain ⟨u, rfl, h6⟩ := hr6
    refine thnF h6 fun _ s7 h7 => ?_
    obtain ⟨x, H7, I7, r7, y7, st7, no7⟩ := h7
    refine thnF (pg.run _ s7 _ H7 x u _ (I7.pinned (fpk I7 no7) (T.obj _ _ st7)) r7 (step x H7 y7)) fun _ s8 h8 => ?_
    obtain ⟨σ8, H8, I8, w8, q8⟩ := h8
    refine thnF (pt.run _ s8 σ8 H8 _ I8 q8) fun yes s9 h9 => ?_
    obtain ⟨H9, I9, q9⟩ := h9
    have back : ∀ {sx : Shared} {Hx : Hp}, Inv (X.blk sC HC scope ce fp) ([] ++ pinsAt fp s7.heap) σ8 Hx sx → Nx Hx → ∃ m, m < n ∧ ∃ i Hy, Inv (X.blk sC HC scope ce fp) [] (wipe σ (own.map (·.2))) Hy sx ∧ tn i sx.heap ∧ (∀ b ∈ fp, Hy b = none) ∧ V i m Hy := by
      intro sx Hx Ix nx
      obtain ⟨m', lt, v'⟩ := hNx Hx nx
      have held : ∀ b ∈ fp, ∀ o, s7.heap.get? b = some o → sx.heap.get? b = some o ∧ Hx b = none := fun b hb o e => by
        have z := Ix.pin (b, o) (List.mem_append_right _ (List.mem_append_right _ (mem_pinsAt hb e)))
        exact ⟨z.1, z.2.1⟩
      refine ⟨m', lt, i + 1, Hx, (Ix.unpinned (pins := [])).weak (by rw [← w8, wipe_length]) (fun j v e => ?_), T.keep _ _ _ st7 fun b hb o e => (held b hb o e).1, fun b hb => ?_, v'⟩
      · exact (wipe_some (by rw [w8]; exact e)).1
      · obtain ⟨o, e, _⟩ := T.obj _ _ st7 b hb
        exact (held b hb o e).2
    cases yes with
    | false => exact back I9 q9
    | true =>
      refine thnF (pe.run _ s9 σ8 H9 _ I9 q9) fun z s10 h10 => ?_
      obtain ⟨yv, H10, I10, r10, k, S0, sz, rfl, hd10, room, nx⟩ := h10
      obtain ⟨tk, rfl⟩ := r10
      refine wpAny_mono (mt_sadd (X := X.blk sC HC scope ce fp) _ s10 σ8 H10 (.ref D) [.int k] (.ref D) [.int k tk] (fun _ Hz => Nx Hz) I10 rfl (.cons ⟨tk, rfl⟩ .nil) ⟨D, k, S0, sz, rfl, rfl, hd10, room, nx⟩) (fun _ s11 h11 => ?_) fun _ _ e => False.elim e
      obtain ⟨_, Hz, I11, _, nz⟩ := h11
      exact back I11 nz
end
end M

set_option Elab.async false
set_option linter.all false
set_option maxRecDepth 100000
set_option maxHeartbeats 4000000
namespace M
open PySem PySem.Spec PyProof.Rows L2
/-! ### sorted({..}) of ints -/
section
variable {c : CM} {W : WX} {m : Md} {X : Cx} {elt tg iter : Expr} {ifs : List Expr} {pos p p2 p3 : Pos}
def TSet (c : CM) (W : WX) (m : Md) (w : World) (d : Ev → MM (List D)) : TE := fun σ H Q => ∃ F ρ ω, SR c m F ρ ω σ H ∧ (∀ ds w, d ρ ω = .ok ds w → ∃ ns, intsOf ds = some ns ∧ setOk ns.length) ∧
  Post c W F H σ (fun ds F' H' _ => ∀ ns l sz, intsOf ds = some ns → H l = none → F' l = none → H' l = some (SetO w l (fun j => decide (j ∈ ns)) sz) → Q (.ref l) H') (d ρ ω)
theorem sc_imp {is vs : List Nat} {di : Ev → MM (List D)} {g : D → Ev → Option Ev} {t : Ev → MM Bool} {d : Ev → MM D} {mt : Md} {w : World} (hv : ∀ v ∈ vs, m.B ≠ some v) (his : ∀ i ∈ is, i ∈ vs) :
    ∀ σ H Q, TSet c W m w (lcD di g t d vs) σ H Q → tSi w (TID c W m di) (TGD c (m.delL vs) mt is g) (TDb c W0 mt t) (TD c W0 mt d) vs σ H Q := fun σ H Q ⟨F, ρ, ω, S, hi, q⟩ => by
  have hi : ∀ items w1 out wf, di ρ ω = .ok items w1 → items.length ≤ sizeLine → lcGo g t d (wipeD ρ vs) items w1 = .ok out wf → ∃ ns, intsOf out = some ns ∧ setOk ns.length := fun items w1 out wf h1 h2 h3 => hi out wf (by unfold lcD; rw [h1, bind_ok, if_pos h2, h3])
  unfold lcD at q
  cases hdi : di ρ ω with
  | bad => rw [hdi] at q; exact q.elim
  | exc e w => refine ⟨F, ρ, ω, S, ?_⟩; rw [hdi] at q ⊢; exact q
  | ok items0 w0 =>
  rw [hdi] at hi
  have hi := fun out wf => hi items0 w0 out wf rfl
  refine ⟨F, ρ, ω, S, ?_⟩
  rw [hdi, bind_ok] at q
  rw [hdi]
  intro F1 H1 x1 bo1 J hJ
  have S1 := S.step x1 bo1
  have q1 := Post.pg.mono F H F1 H1 _ x1 q
  generalize items0 = items at *
  generalize w0 = w1 at *
  intro D1 hD
  by_cases hz : items.length ≤ sizeLine
  · rw [if_pos hz] at q1
    have SW := S1.wipe hv
    obtain ⟨out, wf, hout⟩ : ∃ out wf, lcGo g t d (wipeD ρ vs) items w1 = .ok out wf := by
      cases e : lcGo g t d (wipeD ρ vs) items w1 with
      | bad => rw [e] at q1; exact q1.elim
      | exc ee vv => exact absurd e (lcGo_noexc _ _ _ _ _ _ _ _)
      | ok a b => exact ⟨a, b, rfl⟩
    rw [hout] at q1
    have hbD : c.b ≠ some D1 := new_ne_b S1 hD
    have hD0 : H D1 = none := by
      cases z : H D1 with
      | none => rfl
      | some o => exact absurd hD (x1.dom D1 (by rw [z]; simp))
    obtain ⟨ns, hns, hset⟩ := hi out wf (by assumption) hout
    have hmap := intsOf_eq hns
    refine ⟨fun i n H' => n = items.length - i ∧ i ≤ items.length ∧ ∃ F' ω', ∃ (acc : List Int), ∃ rest sz, Xt c.b F1 H1 F' H' ∧ BorOk c F' ω' H' ∧ F' D1 = none ∧ H' D1 = some (SetO w D1 (fun j => decide (j ∈ acc)) sz) ∧ sz ≤ acc.length ∧ lcGo g t d (wipeD ρ vs) (items.drop i) ω' = .ok rest wf ∧ ns.map PyData.int = acc.map PyData.int ++ rest, ?_, ?_⟩
    · refine ⟨_, rfl, Nat.zero_le _, F1, w1, [], out, 0, Xt.alloc0 S1.fh hD, S1.bo.ext (Xt.alloc0 S1.fh hD), Same.none S1.fh hD, by rw [upd_same]; simp, Nat.le_refl _, hout, by rw [← hmap]; rfl⟩
    · rintro i n H' ⟨rfl, hi, F', ω', acc, rest, sz, x', bo', fD, hD', hsz, hgo, hsum⟩
      by_cases hlt : i < items.length
      · refine .inr ⟨hJ.go i F' H' hlt x'.ff x'.fh, fun H2 => ∃ F2 ω2, ∃ (acc2 : List Int), ∃ rest2 sz2, Xt c.b F1 H1 F2 H2 ∧ BorOk c F2 ω2 H2 ∧ F2 D1 = none ∧ H2 D1 = some (SetO w D1 (fun j => decide (j ∈ acc2)) sz2) ∧ sz2 ≤ acc2.length ∧ lcGo g t d (wipeD ρ vs) (items.drop (i + 1)) ω2 = .ok rest2 wf ∧ ns.map PyData.int = acc2.map PyData.int ++ rest2, fun H2 hN => ⟨items.length - (i + 1), by omega, rfl, hlt, hN⟩, fun x H2 y => ?_⟩
        obtain ⟨F2, xt2, r2⟩ := hJ.yld i items[i] F' H' x H2 (by simp [hlt]) x'.ff x'.fh y
        rw [List.drop_eq_getElem_cons hlt, lcGo] at hgo
        obtain ⟨ρ1, w2, e1, hgo1⟩ := bind_split hgo
        have eg : g items[i] (wipeD ρ vs) = some ρ1 ∧ w2 = ω' := by
          cases q : g items[i] (wipeD ρ vs) with
          | none => rw [q] at e1; cases e1
          | some z => rw [q] at e1; cases e1; exact ⟨rfl, rfl⟩
        obtain ⟨eg, rfl⟩ := eg
        obtain ⟨b, w3, e2, hgo2⟩ := bind_split hgo1
        have e2 := noX_ne e2
        have x2' : Xt c.b F1 H1 F2 H2 := x'.trans xt2.any
        have bo2 := bo'.ext xt2
        have S2 : SR c (m.delL vs) F2 (wipeD ρ vs) w2 (L2.wipe σ vs) H2 := SW.step x2' bo2
        refine ⟨F2, wipeD ρ vs, w2, items[i], ρ1, S2, r2, eg, fun σ2 S3 off => ⟨wipe_off off his, ?_⟩⟩
        refine ⟨F2, ρ1, w2, S3, ?_⟩
        rw [e2]
        intro F3 H3 xt3 bo3
        have D3 : H3 D1 = some (SetO w D1 (fun j => decide (j ∈ acc)) sz) := xt3.keep D1 _ (xt2.keep D1 _ hD' (by simp)) hbD
        have F3D : F3 D1 = none := by
          rw [xt3.new D1 (by rw [xt2.keep D1 _ hD' (by simp)]; simp), xt2.new D1 (by rw [hD']; simp)]
          exact fD
        cases b with
        | false => exact iteF ⟨F3, w3, acc, rest, sz, x2'.trans xt3, bo3, F3D, D3, hsz, hgo2, hsum⟩
        | true =>
          obtain ⟨yv, w4, e3, hgo3⟩ := bind_split hgo2
          have e3 := noX_ne e3
          obtain ⟨ys, w5, e4, hgo4⟩ := bind_split hgo3
          cases hgo4
          refine iteT ⟨F3, ρ1, w3, S3.step xt3 bo3, ?_⟩
          rw [e3]
          intro F4 H4 xt4 bo4 z rz
          have D4 : H4 D1 = some (SetO w D1 (fun j => decide (j ∈ acc)) sz) := xt4.keep D1 _ D3 hbD
          have F4D : F4 D1 = none := by rw [xt4.new D1 (by rw [D3]; simp)]; exact F3D
          -- the value is an int
          obtain ⟨l1, l2, hl, h1, h2⟩ := List.map_eq_append_iff.1 hsum
          obtain ⟨k, l3, hk3, hk1, hk2⟩ := List.map_eq_cons_iff.1 h2
          subst hk1
          cases rz
          have hlen : acc.length + 1 ≤ ns.length := by
            have e5 := congrArg List.length hsum
            simp at e5
            omega
          refine ⟨k, _, sz, rfl, D4, by unfold setOk at hset; omega, F4, w4, acc ++ [k], ys, if decide (k ∈ acc) = true then sz else sz + 1, ?_, ?_, F4D, ?_, ?_, e4, by rw [hsum]; simp⟩
          · have xx := (x2'.trans xt3).trans xt4
            refine ⟨xx.ff, fun a o e => ?_, fun a o e nn => ?_, fun a h => ?_, xx.new⟩
            · have ha : a ≠ D1 := fun zz => by rw [zz, F4D] at e; cases e
              rw [upd_ne ha]; exact xx.fh _ _ e
            · have ha : a ≠ D1 := fun zz => by rw [zz, hD] at e; cases e
              rw [upd_ne ha]; exact xx.keep a o e nn
            · by_cases ha : a = D1
              · rw [ha, upd_same]; simp
              · rw [upd_ne ha]; exact xx.dom a h
          · intro b' hb'
            obtain ⟨b0, b1, bu, b2, b3⟩ := bo4 b' hb'
            have hne : b' ≠ D1 := fun zz => hbD (zz ▸ hb')
            exact ⟨b0, b1, bu, by rw [upd_ne hne]; exact b2, b3⟩
          · rw [upd_same]
            have : (fun j => decide (j ∈ acc) || decide (j = k)) = fun j => decide (j ∈ acc ++ [k]) := by
              funext j
              simp
            rw [this]
          · split <;> simp <;> omega
      · have e : i = items.length := by omega
        subst e
        rw [List.drop_length] at hgo
        cases hgo
        simp only [List.append_nil] at hsum
        have e6 : ns = acc := by
          have := congrArg intsOf hsum
          simpa using this
        exact .inl ⟨hJ.stop F' H' x'.ff x'.fh, q1 F' H' x' bo' ns D1 sz hns hD0 fD (by rw [e6]; exact hD')⟩
  · rw [if_neg hz] at q1
    exact q1.elim
theorem e_sortedSC {scope : Scope} {own : List (PySem.Str × Nat)} {vs is : List Nat} {mt : Md} {di : Ev → MM (List D)} {g : D → Ev → Option Ev} {t : Ev → MM Bool} {d : Ev → MM D} (hk : X.K = c.K) (hc : X.calm = true) (hN : X.N.Nodup) (hg0 : Gl X "sorted") (hm0 : X.mg "sorted" = none)
    (hi : PI X tg iter (TID c W m di)) (ok : BlkOk X.N X.env.scope scope own)
    (hg : ∀ (s : Shared) (H : Hp) (C : Addr) (cl : List (PySem.Str × Addr)) (fp : List Addr), PG (X.blk s H scope (compEnvC scope cl C X.env) fp) tg (TGD c (m.delL vs) mt is g))
    (ht : ∀ (s : Shared) (H : Hp) (C : Addr) (cl : List (PySem.Str × Addr)) (fp : List Addr), PTs (X.blk s H scope (compEnvC scope cl C X.env) fp) ifs (TDb c W0 mt t))
    (he : ∀ (s : Shared) (H : Hp) (C : Addr) (cl : List (PySem.Str × Addr)) (fp : List Addr), PE (X.blk s H scope (compEnvC scope cl C X.env) fp) elt (TD c W0 mt d))
    (hvs : own.map (·.2) = vs := by rfl) (hv : ∀ v ∈ vs, m.B ≠ some v := by decide) (his : ∀ i ∈ is, i ∈ vs := by decide) (hs : ∀ x, foldedSetIterable iter X.env x = pure x := by intro _; rfl)
    (h2 : starEach [.SetComp elt [⟨tg, iter, ifs, 0⟩] scope p3] X.env = (false, eval (.SetComp elt [⟨tg, iter, ifs, 0⟩] scope p3) X.env) :: starEach [] X.env := by rfl) :
    E c W m X (.Call (.Name "sorted" p) [.SetComp elt [⟨tg, iter, ifs, 0⟩] scope p3] [] pos) (eArgs fSortSet (aCons (eOfF (lcD di g t d vs)) aNil)) := by
  subst hvs
  have hset := pe_setI (pos := p3) hc hN hi ok hg ht he hs
  refine PEimp (pe_callB (cr_sortedSetG hc) hg0 hm0 boot_sorted (pa_cons hset pa_nil h2) (by decide) (by decide) h2 rfl) fun σ H Q ⟨F, ρ, ω, S, q⟩ => ?_
  have q' : Post c W F H σ (fun v F' H' _ => ∀ x, Rp c.K F' x v → Q x H') ((lcD di g t d (own.map (·.2)) ρ ω).bind fun ds w => ofO (fSortSet [.list ds]) w) := by
    unfold eArgs aCons aNil eOfF at q
    cases hd : lcD di g t d (own.map (·.2)) ρ ω <;> simpa [hd] using q
  show tSi X.w _ _ _ _ _ σ H fun x H1 => rSortedSetG X.w [x] H1 Q
  refine sc_imp (w := X.w) (mt := mt) hv his σ H _ ⟨F, ρ, ω, S, fun ds w e => ?_, bindT S Post.pg q' fun ds F1 H1 w1 x1 S1 q1 => ?_⟩
  · rw [e, bind_ok] at q'
    cases hf : fSortSet [.list ds] with
    | none => rw [hf] at q'; exact q'.elim
    | some v =>
      simp only [fSortSet, Option.bind_eq_some_iff, Option.ite_none_right_eq_some, Option.some.injEq] at hf
      obtain ⟨ns, e2, e3, _⟩ := hf
      exact ⟨ns, e2, e3⟩
  obtain ⟨z, e1, q3⟩ := post_ofO S1.fh S1.bo q1
  simp only [fSortSet, Option.bind_eq_some_iff, Option.ite_none_right_eq_some, Option.some.injEq] at e1
  obtain ⟨ns, e2, e3, rfl⟩ := e1
  intro ns' l sz e4 hl fl hl1
  rw [e2] at e4
  cases e4
  refine ⟨l, _, sz, rfl, hl1, fun ms p1 k1 k2 np1 => ?_⟩
  have : ms = sortU ns := lt_ext k1 (sortU_lt ns) fun k => by rw [k2 k, mem_sortU]; simp
  subst this
  exact rp_new_lst S1.fh np1 (RpL.of_ints _) fun F' H' z' xt rz => q3 F' H' xt z' rz
end
end M

set_option Elab.async false
set_option linter.all false
set_option maxRecDepth 100000
set_option maxHeartbeats 4000000
namespace M
open PySem PySem.Spec PyProof.Rows L2
/-! ### max of two -/
section
variable {prog : Program} {w : World} {A : Around} {E : Value → Shared → Prop} {s : Shared}
theorem max2_call {a b : Value} {da db : D} {as bs : List Addr} {Q : Value → Shared → Prop} (hh : A.handled = none) (ra : Reads s.heap a da as) (rb : Reads s.heap b db bs) (al : PySem.W.AlikeAll [da, db]) (hu : A.units + 3 + PyData.depthAll [da, db] < cLine)
    (h : ∀ h' tk, (∀ b o, s.heap.get? b = some o → h'.get? b = some o) → Q (if PySem.W.dataLt da db = true then b else a) { s with heap := h', toks := tk }) : wpAny (model prog w) A (call (.builtin "max") [a, b]) Q E s := by
  obtain ⟨s1, hs1⟩ : ∃ s1 : Shared, s1 = { s with heap := s.heap.push { cls := .type "tuple", data := .seq #[a, b] } } := ⟨_, rfl⟩
  have k1 : ∀ c o, s.heap.get? c = some o → s1.heap.get? c = some o := fun c o e => by rw [hs1]; exact Heap.get?_push_of_some _ e
  have ht : s1.heap.IsTuple s.heap.objs.size #[a, b] := by rw [hs1]; exact ⟨_, Heap.get?_push_size _ rfl, rfl, _, rfl⟩
  have rs : ReadsAll s1.heap [a, b] [da, db] (as ++ (bs ++ [])) := .cons (PySem.W.reads_keeps k1 ra) (.cons (PySem.W.reads_keeps k1 rb) .nil)
  refine call_function_tree F.kind_max F.plain_max F.entry_max (F.args_max2 a b) ?_
  refine wpAny_bind (wpAny_of_eq (a := [none, none]) rfl ?_)
  show wpAny _ A.in1 (newTuple [a, b] >>= fun v => _) _ _ s
  refine wpAny_bind (wpAny_newObj_type ?_)
  rw [← hs1]
  refine wpAny_bind (PySem.W.iter_tupleW (A := A.in1) (s := s1) hh ht fun s2 e2 W st hfp hw hk => ?_)
  have out : s2.heap.objs.size ∉ [s1.heap.objs.size, s.heap.objs.size] := fun hm => Nat.lt_irrefl _ (hfp _ hm)
  refine wpAny_bind (wpAny_newObj_type ?_)
  rw [show (toString "max" ++ toString ".loop" : String) = "max.loop" by decide]
  refine wpAny_pure ⟨plainId_quiet F.plain_max_loop _, PySem.codeAny_max_loop_firstH W s1.heap hw _ (PySem.W.cmpIn_gt (A := A.in1) (vs := #[a, b]) rs al (by show A.units + 1 + _ < _; omega)) s2.heap.objs.size out (PySem.fresh_in hk) _ (by show 0 < 2; omega)
    (fun c o e => Heap.get?_push_of_some _ (hk c o e)) (W.frame 0 s2 _ s2.toks st (Nat.le_refl _) fun c _ o e => Heap.get?_push_of_some _ e) (Heap.get?_push_size _ rfl) fun v s' hP hm => ?_⟩
  obtain ⟨h', tk, rfl, k'⟩ := PySem.W.moved_old e2 rfl (PySem.Moved.drop_new (tk := s2.toks) hm (Nat.le_refl _))
  have hv : v = if PySem.W.dataLt da db = true then b else a := by
    have hP : (#[a, b] : Array Value)[argBest _ 1]? = some v := hP
    by_cases z : PySem.W.dataLt da db = true
    · simp [argBest, z] at hP
      rw [if_pos z, hP]
    · simp [argBest, z] at hP
      rw [if_neg z, hP]
  rw [hv, hs1]
  exact h h' tk fun c o e => k' c o (k1 c o e)
end
theorem units_in {X : Cx} (hu : X.A.units + 65 < cLine) : X.A.units + 65 < cLine := hu
def rMax2 (K : PySem.W.Frag) : List V → Hp → VK → Prop := fun vs H Q => ∃ (F : Hp) (x y : V) (d e : D), Same F H ∧ vs = [x, y] ∧ Rp K F x d ∧ Rp K F y e ∧ MaxOk [d, e] ∧ ∀ z, Rp K F z (if PySem.W.dataLt d e = true then e else d) → Q z H
theorem cr_max2D {X : Cx} (hc : X.calm = true) (hu : X.A.units + 65 < cLine) : CallR X (.builtin "max") (rMax2 X.K) := by
  intro pins s σ H vs us Q I r ⟨F, x, y, d, e, sm, e0, h1, h2, ok, q⟩
  subst e0
  obtain ⟨u, u', rfl, r1, r2⟩ := vals2 r
  obtain ⟨as, ra⟩ := Dp.reads I d x u (h1.mono sm).dp r1
  obtain ⟨bs, rb⟩ := Dp.reads I e y u' (h2.mono sm).dp r2
  have := ok.dp
  refine max2_call (I.ok.hd hc) ra rb ok.al (by omega) fun h' tk hk => ?_
  by_cases z : PySem.W.dataLt d e = true
  · rw [if_pos z] at q ⊢
    exact ⟨y, H, I.kept hk, r2, q y h2⟩
  · rw [if_neg z] at q ⊢
    exact ⟨x, H, I.kept hk, r1, q x h1⟩
open Classical in
noncomputable def fMax2D : List D → Option D
  | [d, e] => if MaxOk [d, e] then some (if PySem.W.dataLt d e = true then e else d) else none
  | _ => none
theorem fMax2D_ok {d e : D} (h : MaxOk [d, e]) : fMax2D [d, e] = some (if PySem.W.dataLt d e = true then e else d) := if_pos h
theorem v_max2D {K K' : PySem.W.Frag} (hk : K' = K) : VAr K (rMax2 K') fMax2D := by
  intro F H xs as v Q S r e q
  subst hk
  match as, e, r with
  | [d, e'], e, r =>
    simp only [fMax2D, Option.ite_none_right_eq_some, Option.some.injEq] at e
    obtain ⟨e1, e2⟩ := e
    subst e2
    obtain ⟨x, y, rfl, r1, r2⟩ := r.two
    exact ⟨F, x, y, d, e', S, rfl, r1, r2, e1, fun z h => q F H z (Xt.refl S) h⟩
end M

set_option Elab.async false
set_option linter.all false
set_option maxRecDepth 100000
set_option maxHeartbeats 4000000
namespace M
open PySem PySem.Spec PyProof.Rows L2
/-! ### tuples of ints in order -/
def rLt : List Int → List Int → Bool
  | [], [] => false
  | [], _ :: _ => true
  | _ :: _, [] => false
  | x :: xs, y :: ys => if x = y then rLt xs ys else decide (x < y)
theorem rLt_irrefl : ∀ a, rLt a a = false
  | [] => rfl
  | x :: xs => by simp [rLt, rLt_irrefl xs]
theorem rLt_trans : ∀ {a b c}, rLt a b = true → rLt b c = true → rLt a c = true
  | [], [], _, h, _ => by simp [rLt] at h
  | [], _ :: _, [], _, h => by simp [rLt] at h
  | [], _ :: _, _ :: _, _, _ => rfl
  | _ :: _, [], _, h, _ => by simp [rLt] at h
  | _ :: _, _ :: _, [], _, h => by simp [rLt] at h
  | x :: xs, y :: ys, z :: zs, h1, h2 => by
    simp only [rLt] at h1 h2 ⊢
    by_cases e1 : x = y
    · subst e1
      rw [if_pos rfl] at h1
      by_cases e2 : x = z
      · rw [if_pos e2] at h2 ⊢; exact rLt_trans h1 h2
      · rw [if_neg e2] at h2 ⊢; exact h2
    · rw [if_neg e1] at h1
      have h1 := of_decide_eq_true h1
      by_cases e2 : y = z
      · subst e2; rw [if_neg e1]; exact decide_eq_true h1
      · rw [if_neg e2] at h2
        have h2 := of_decide_eq_true h2
        rw [if_neg (by omega)]
        exact decide_eq_true (by omega)
theorem rLt_tri : ∀ {a b}, rLt a b = false → rLt b a = false → a = b
  | [], [], _, _ => rfl
  | [], _ :: _, h, _ => by simp [rLt] at h
  | _ :: _, [], _, h => by simp [rLt] at h
  | x :: xs, y :: ys, h1, h2 => by
    simp only [rLt] at h1 h2
    by_cases e : x = y
    · subst e
      rw [if_pos rfl] at h1 h2
      rw [rLt_tri h1 h2]
    · rw [if_neg e] at h1
      rw [if_neg (fun z => e z.symm)] at h2
      have h1 := of_decide_eq_false h1
      have h2 := of_decide_eq_false h2
      omega
def encR (r : List Int) : D := .tuple (r.map .int)
theorem toks_rows : ∀ (r q : List Int), PyProof.Rows.lexLt PyProof.Rows.itemOrd (PySem.W.keyToksAll (r.map .int)) (PySem.W.keyToksAll (q.map .int)) = rLt r q
  | [], [] => by simp [PySem.W.keyToksAll, rLt]; exact PyProof.Rows.lex_irrefl _
  | [], y :: ys => by
    have := PySem.W.dataLt_tuple [] (List.map PyData.int (y :: ys))
    simp only [List.map_nil]
    rw [← this]
    simp only [rLt]
    exact (by first | rfl | decide | simp [PySem.W.dataLt, PySem.W.keyToks, PySem.W.keyToksAll, PyProof.Rows.lex_cons, PyProof.Rows.lex_irrefl, PyProof.Rows.itemLt])
  | x :: xs, [] => by
    have := PySem.W.dataLt_tuple (List.map PyData.int (x :: xs)) []
    simp only [List.map_nil]
    rw [← this]
    simp only [rLt]
    exact (by first | rfl | decide | simp [PySem.W.dataLt, PySem.W.keyToks, PySem.W.keyToksAll, PyProof.Rows.lex_cons, PyProof.Rows.lex_irrefl, PyProof.Rows.itemLt])
  | x :: xs, y :: ys => by
    have al : PySem.W.alike (.int x) (.int y) = true := rfl
    simp only [List.map_cons, rLt]
    by_cases e : x = y
    · subst e
      rw [PySem.W.dataLt_all_yes al (by simp [PyData.eqv]), if_pos rfl]
      exact toks_rows xs ys
    · rw [PySem.W.dataLt_all_no al (by simp [PyData.eqv, e]), if_neg e, PySem.W.dataLt_int]
theorem dataLt_row (r q : List Int) : PySem.W.dataLt (encR r) (encR q) = rLt r q := by
  unfold encR
  rw [PySem.W.dataLt_tuple]
  exact toks_rows r q
theorem alike_row (r q : List Int) : PySem.W.alike (encR r) (encR q) = true := PySem.W.alike_ints r q
theorem depth_row (r : List Int) : (encR r).depth = 1 := by
  simp only [encR, PyData.depth, PySem.W.depth_ints]
def leR (a b : List Int) : Bool := !rLt b a
theorem leD_row (r q : List Int) : leD (encR r) (encR q) = leR r q := by
  show (!PySem.W.dataLt (encR q) (encR r)) = _
  rw [dataLt_row]; rfl
theorem perm_sorted {α : Type} {le : α → α → Prop} (anti : ∀ a b, le a b → le b a → a = b) : ∀ {l m : List α}, l.Pairwise le → m.Pairwise le → l.Perm m → l = m
  | [], m, _, _, h => (List.perm_nil.1 h.symm).symm
  | x :: l, [], _, _, h => (List.perm_nil.1 h)
  | x :: l, y :: m, h1, h2, h => by
    obtain ⟨a1, a2⟩ := List.pairwise_cons.1 h1
    obtain ⟨b1, b2⟩ := List.pairwise_cons.1 h2
    have e : x = y := by
      rcases List.mem_cons.1 (h.mem_iff.1 (List.mem_cons_self (a := x) (l := l))) with e | hx
      · exact e
      · rcases List.mem_cons.1 (h.mem_iff.2 (List.mem_cons_self (a := y) (l := m))) with e | hy
        · exact e.symm
        · exact anti _ _ (a1 y hy) (b1 x hx)
    subst e
    rw [perm_sorted anti a2 b2 h.cons_inv]
theorem leR_anti (a b : List Int) (h1 : leR a b = true) (h2 : leR b a = true) : a = b := by
  unfold leR at h1 h2
  exact rLt_tri (by simpa using h2) (by simpa using h1)
theorem leR_trans (a b c : List Int) (h1 : leR a b = true) (h2 : leR b c = true) : leR a c = true := by
  unfold leR at *
  simp only [Bool.not_eq_true'] at *
  cases e : rLt c a with
  | false => rfl
  | true =>
    cases e2 : rLt a b with
    | true => rw [rLt_trans e e2] at h2; cases h2
    | false =>
      have : a = b := rLt_tri e2 h1
      subst this
      rw [e] at h2; cases h2
theorem leR_total (a b : List Int) : (leR a b || leR b a) = true := by
  unfold leR
  cases e : rLt b a with
  | false => rfl
  | true =>
    cases e2 : rLt a b with
    | false => rfl
    | true => have := rLt_trans e e2; rw [rLt_irrefl] at this; cases this
def sortR (rs : List (List Int)) : List (List Int) := rs.mergeSort leR
theorem sortR_perm (rs : List (List Int)) : (sortR rs).Perm rs := List.mergeSort_perm _ _
theorem sortR_srt (rs : List (List Int)) : (sortR rs).Pairwise fun a b => leR a b = true := List.pairwise_mergeSort leR_trans leR_total rs
theorem sortR_eq {rs qs : List (List Int)} (h : rs.Perm qs) (hs : qs.Pairwise fun a b => leR a b = true) : sortR rs = qs := perm_sorted leR_anti (sortR_srt rs) hs ((sortR_perm rs).trans h)
theorem sortD_rows (rs : List (List Int)) : sortD (rs.map encR) = (sortR rs).map encR := by
  unfold sortD sortR
  rw [List.map_mergeSort (f := encR) (s := leD) (r := leR) (l := rs) fun a _ b _ => (leD_row a b).symm]
theorem srtOk_rows {rs : List (List Int)} (h : ∀ r ∈ rs, r ≠ []) (hl : rs.length ≤ sizeLine) : SrtOk (rs.map encR) where
  al := PySem.W.AllAlike.of alike_row
  so := .inl fun d hd => by
    obtain ⟨r, hr, rfl⟩ := List.mem_map.1 hd
    cases r with
    | nil => exact absurd rfl (h _ hr)
    | cons x xs => exact ⟨.int x, xs.map .int, rfl⟩
  len := by rw [List.length_map]; exact hl
  dp := fun d hd => by
    obtain ⟨r, _, rfl⟩ := List.mem_map.1 hd
    rw [depth_row]; omega
theorem fSortD_rows {rs : List (List Int)} (h : ∀ r ∈ rs, r ≠ []) (hl : rs.length ≤ sizeLine) : fSortD [.list (rs.map encR)] = some (.list ((sortR rs).map encR)) := by
  rw [fSortD_ok (srtOk_rows h hl), sortD_rows]
theorem depthAll_rows : ∀ rs : List (List Int), PyData.depthAll (rs.map encR) ≤ 1
  | [] => by simp [PyData.depthAll]
  | r :: rs => by
    have := depthAll_rows rs
    simp only [List.map_cons, PyData.depthAll, depth_row]
    omega
theorem maxOk_rows (rs : List (List Int)) : MaxOk (rs.map encR) where
  al := ⟨fun x hx y hy => by
    obtain ⟨r, _, rfl⟩ := List.mem_map.1 hx
    obtain ⟨q, _, rfl⟩ := List.mem_map.1 hy
    exact alike_row r q, fun x hx => by
    obtain ⟨r, _, rfl⟩ := List.mem_map.1 hx
    intro z; cases z⟩
  dp := Nat.le_trans (depthAll_rows rs) (by omega)
def minR (r : List Int) (rs : List (List Int)) : List Int := rs.foldl (fun a y => if rLt y a then y else a) r
def maxR (r : List Int) (rs : List (List Int)) : List Int := rs.foldl (fun a y => if rLt a y then y else a) r
theorem minD_rows (r : List Int) (rs : List (List Int)) : PySem.W.minD (encR r) (rs.map encR) = encR (minR r rs) := by
  unfold PySem.W.minD minR
  induction rs generalizing r with
  | nil => rfl
  | cons q qs ih =>
    simp only [List.map_cons, List.foldl_cons, dataLt_row]
    cases rLt q r with
    | true => exact ih q
    | false => exact ih r
theorem maxD_rows (r : List Int) (rs : List (List Int)) : PySem.W.maxD (encR r) (rs.map encR) = encR (maxR r rs) := by
  unfold PySem.W.maxD maxR
  induction rs generalizing r with
  | nil => rfl
  | cons q qs ih =>
    simp only [List.map_cons, List.foldl_cons, dataLt_row]
    cases rLt r q with
    | true => exact ih q
    | false => exact ih r
theorem fMinD_rows (r : List Int) (rs : List (List Int)) : fMinD [.list ((r :: rs).map encR)] = some (encR (minR r rs)) := by
  have := maxOk_rows (r :: rs)
  show fBest PySem.W.minD [.list (encR r :: rs.map encR)] = _
  rw [fBest_list this, minD_rows]
theorem fMax2D_rows (r q : List Int) : fMax2D [encR r, encR q] = some (encR (if rLt r q then q else r)) := by
  rw [fMax2D_ok (maxOk_rows [r, q]), dataLt_row]
  cases rLt r q <;> rfl
theorem okC_row (r q : List Int) : okC (encR r) (encR q) = true := by
  unfold okC
  rw [alike_row, depth_row, depth_row]
  rfl
theorem gLt_row (r q : List Int) : gLt (encR r) (encR q) = some (rLt r q) := by
  unfold gLt gCmp; rw [if_pos (okC_row r q)]; exact congrArg some (dataLt_row r q)
theorem gGt_row (r q : List Int) : gGt (encR r) (encR q) = some (rLt q r) := by
  unfold gGt gCmp; rw [if_pos (okC_row r q)]; exact congrArg some (dataLt_row q r)

/-! ### sorted(set(xs)) of tuples of ints -/
def insR (x : List Int) : List (List Int) → List (List Int)
  | [] => [x]
  | y :: r => if x = y then y :: r else if rLt x y then x :: y :: r else y :: insR x r
def sortUR : List (List Int) → List (List Int)
  | [] => []
  | x :: r => insR x (sortUR r)
theorem mem_insR (x : List Int) : ∀ (l : List (List Int)) (z), z ∈ insR x l ↔ z = x ∨ z ∈ l
  | [], z => by simp [insR]
  | y :: r, z => by
    unfold insR
    split
    · rename_i e; subst e; simp
    · split
      · simp
      · simp [mem_insR x r z]
        exact ⟨fun h => by rcases h with h | h | h <;> simp [h], fun h => by rcases h with h | h | h <;> simp [h]⟩
theorem mem_sortUR : ∀ (l : List (List Int)) (z), z ∈ sortUR l ↔ z ∈ l
  | [], z => by simp [sortUR]
  | x :: r, z => by rw [sortUR, mem_insR, mem_sortUR r z]; simp
theorem insR_lt (x : List Int) : ∀ l : List (List Int), l.Pairwise (fun a b => rLt a b = true) → (insR x l).Pairwise fun a b => rLt a b = true
  | [], _ => List.pairwise_singleton _ _
  | y :: r, h => by
    obtain ⟨h1, h2⟩ := List.pairwise_cons.1 h
    unfold insR
    split
    · exact h
    · rename_i ne
      split
      · rename_i lt
        refine List.pairwise_cons.2 ⟨fun z hz => ?_, h⟩
        rcases List.mem_cons.1 hz with rfl | hz
        · exact lt
        · exact rLt_trans lt (h1 z hz)
      · rename_i nlt
        refine List.pairwise_cons.2 ⟨fun z hz => ?_, insR_lt x r h2⟩
        rcases (mem_insR x r z).1 hz with rfl | hz
        · cases e : rLt y z with
          | true => rfl
          | false => exact absurd (rLt_tri (by simpa using nlt) e) ne
        · exact h1 z hz
theorem sortUR_lt : ∀ l : List (List Int), (sortUR l).Pairwise fun a b => rLt a b = true
  | [] => List.Pairwise.nil
  | x :: r => insR_lt x _ (sortUR_lt r)
theorem rlt_ext : ∀ {l m : List (List Int)}, l.Pairwise (fun a b => rLt a b = true) → m.Pairwise (fun a b => rLt a b = true) → (∀ z, z ∈ l ↔ z ∈ m) → l = m
  | [], [], _, _, _ => rfl
  | [], y :: m, _, _, h => by have := (h y).2 (by simp); cases this
  | x :: l, [], _, _, h => by have := (h x).1 (by simp); cases this
  | x :: l, y :: m, h1, h2, h => by
    obtain ⟨a1, a2⟩ := List.pairwise_cons.1 h1
    obtain ⟨b1, b2⟩ := List.pairwise_cons.1 h2
    have nn : ∀ {a b : List Int}, rLt a b = true → rLt b a = true → False := fun p q => by have := rLt_trans p q; rw [rLt_irrefl] at this; cases this
    have e : x = y := by
      rcases List.mem_cons.1 ((h x).1 (by simp)) with e | hx
      · exact e
      · rcases List.mem_cons.1 ((h y).2 (by simp)) with e | hy
        · exact e.symm
        · exact (nn (a1 y hy) (b1 x hx)).elim
    subst e
    congr 1
    refine rlt_ext a2 b2 fun z => ⟨fun hz => ?_, fun hz => ?_⟩
    · rcases List.mem_cons.1 ((h z).1 (by simp [hz])) with rfl | hz'
      · have := a1 _ hz; rw [rLt_irrefl] at this; cases this
      · exact hz'
    · rcases List.mem_cons.1 ((h z).2 (by simp [hz])) with rfl | hz'
      · have := b1 _ hz; rw [rLt_irrefl] at this; cases this
      · exact hz'
def rowsD : List D → Option (List (List Int))
  | [] => some []
  | .tuple xs :: r => (intsOf xs).bind fun x => (rowsD r).map (x :: ·)
  | _ :: _ => none
theorem rowsD_map : ∀ rs : List (List Int), rowsD (rs.map encR) = some rs
  | [] => rfl
  | r :: rs => by simp [encR, rowsD, rowsD_map rs]
theorem rowsD_eq : ∀ {ds : List D} {rs : List (List Int)}, rowsD ds = some rs → ds = rs.map encR
  | [], _, h => by simp [rowsD] at h; subst h; rfl
  | .tuple xs :: r, rs, h => by
    simp only [rowsD, Option.bind_eq_some_iff, Option.map_eq_some_iff] at h
    obtain ⟨x, h1, y, h2, rfl⟩ := h
    rw [intsOf_eq h1, rowsD_eq h2]; rfl
  | .none :: _, _, h => by simp [rowsD] at h
  | .bool _ :: _, _, h => by simp [rowsD] at h
  | .int _ :: _, _, h => by simp [rowsD] at h
  | .str _ :: _, _, h => by simp [rowsD] at h
  | .list _ :: _, _, h => by simp [rowsD] at h
  | .dict _ :: _, _, h => by simp [rowsD] at h
def fSortSetR : List D → Option D
  | [.list ds] => (rowsD ds).bind fun rs => if (∀ r ∈ rs, r ≠ []) ∧ rs.length < 64 then some (.list ((sortUR rs).map encR)) else none
  | _ => none
theorem fSortSetR_rows {rs : List (List Int)} (h : ∀ r ∈ rs, r ≠ []) (hl : rs.length < 64) : fSortSetR [.list (rs.map encR)] = some (.list ((sortUR rs).map encR)) := by
  simp only [fSortSetR, rowsD_map, Option.bind_some]
  rw [if_pos ⟨h, hl⟩]
section
variable {P : Program} {w : World} {A : Around} {E : Value → Shared → Prop} {s : Shared}
theorem refs_are {L : List (Addr × List Int)} : ∀ us : List Value, (∀ v ∈ us, ∃ q ∈ L, v = Value.ref q.1) → ∃ M : List (Addr × List Int), us = M.map (fun q => Value.ref q.1) ∧ ∀ q ∈ M, q ∈ L
  | [], _ => ⟨[], rfl, fun _ h => nomatch h⟩
  | v :: us, h => by
    obtain ⟨q, hq, e⟩ := h v (by simp)
    obtain ⟨M, e1, h1⟩ := refs_are us fun u hu => h u (by simp [hu])
    exact ⟨q :: M, by rw [e, e1]; rfl, fun r hr => (List.mem_cons.1 hr).elim (fun z => z ▸ hq) (h1 r)⟩
theorem nodup_of_snd {α β : Type} {f : α → β} : ∀ {l : List α}, (l.map f).Nodup → l.Nodup
  | [], _ => List.nodup_nil
  | x :: l, h => by
    rw [List.map_cons, List.nodup_cons] at h
    exact List.nodup_cons.2 ⟨fun hm => h.1 (List.mem_map.2 ⟨x, hm, rfl⟩), nodup_of_snd h.2⟩
theorem reads_tup {h : Heap} {k : List Int} {b : Addr} (x : IsT P w h k b) : ∃ as, Reads h (.ref b) (encR k) as ∧ as = [] := by
  obtain ⟨o, items, n, ho, hc, hd, hi⟩ := x
  have hints := ints_of_items hi
  have key : ∀ {vs : List Value} {ks : List Int}, IntsAre vs ks → ReadsAll h vs (ks.map .int) [] := fun {vs ks} z => by
    induction z with
    | nil => exact .nil
    | cons m t _ ih => exact .cons (as := []) (.int m t) ih
  exact ⟨[], .tuple ho hc hd (key hints), rfl⟩
theorem sortedSetR {a : Addr} {L : List (Addr × List Int)} {es : Array (Int × Value)} {ep : Nat} {t : SetTable} {Q : Value → Shared → Prop} (R : SetTR P w s.heap a L es ep t) (hh : A.handled = none) (ne : ∀ p ∈ L, p.2 ≠ []) (hu : A.units + 10 < cLine)
    (hQ : ∀ (s' : Shared) (p : Addr) (c : Nat) (L' : List (Addr × List Int)), (∀ b o, s.heap.get? b = some o → s'.heap.get? b = some o) → s'.gens = s.gens → s'.os = s.os → s.heap.objs.size ≤ p →
      s'.heap.get? p = some (seqObj "list" (L'.map fun q => Value.ref q.1).toArray c) → L'.Perm L → L'.Pairwise (fun q r => leR q.2 r.2 = true) → Q (.ref p) s') : wpAny (model P w) A (call (.builtin "sorted") [.ref a]) Q E s := by
  have ⟨o, ho, hex, hd⟩ := R.ob
  have few := R.few
  refine Calls.call_function_entry kind_sorted plain_sorted entry_sorted (args_sorted1 _) ?_
  unfold Builtin.«sorted»
  refine wpAny_bind (m := checkCount "sorted" 1 1 _) (wpAny_pure ?_)
  have hsz := R.size
  refine wpAny_bind (collect_set hh ⟨o, ho, hex.1, hd⟩ R.fits (by unfold scanBound; omega) R.tab.ris R.led fun s1 us k1 z1 g1 o1 pm => ?_)
  have vals : es.toList.map (·.2) = L.map fun q => Value.ref q.1 := by
    rw [R.rows, rowsOf, List.map_map]; rfl
  rw [vals] at pm
  obtain ⟨M, eM, subM⟩ := refs_are (L := L) us fun v hv => by
    obtain ⟨q, hq, e⟩ := List.mem_map.1 (pm.mem_iff.1 hv)
    exact ⟨q, hq, e.symm⟩
  subst eM
  have one : ∀ q ∈ L, ∀ r ∈ L, q.1 = r.1 → q = r := fun q hq r hr e => by
    have t1 := R.tup q hq
    rw [e] at t1
    exact Prod.ext e (t1.inj (R.tup r hr))
  have nL : L.Nodup := nodup_of_snd R.nd
  have pML : M.Perm L := by
    have nref : (L.map fun q => Value.ref q.1).Nodup := List.pairwise_map.2 (nL.imp_of_mem fun {q r} hq hr hne e => hne (one q hq r hr (Value.ref.inj e)))
    refine (List.perm_ext_iff_of_nodup (nodup_of_snd (pm.nodup_iff.2 nref)) nL).2 fun q => ⟨subM q, fun hq => ?_⟩
    obtain ⟨r, hr, e⟩ := List.mem_map.1 (pm.mem_iff.2 (List.mem_map.2 ⟨q, hq, rfl⟩))
    rw [← one r (subM r hr) q hq (Value.ref.inj e)]
    exact hr
  have lenM : M.length < 64 := by rw [pML.length_eq]; exact few
  have big : 64 ≤ sizeLine := by rw [sizeLine_eq]; omega
  refine wpAny_bind (wpAny_newList ?_ (by rw [List.length_map]; omega))
  have at1 : (s1.heap.push (seqObj "list" (M.map fun q => Value.ref q.1).toArray 0)).get? s1.heap.objs.size = some (seqObj "list" (M.map fun q => Value.ref q.1).toArray 0) := Heap.get?_push_size _ rfl
  have eachR : ∀ N : List (Addr × List Int), PySem.W.EachIs (fun (v : Value) (p : Addr × List Int) => v = Value.ref p.1) (N.map fun q => Value.ref q.1) N := fun N => by
    induction N with
    | nil => exact .nil
    | cons x N ih => exact .cons rfl ih
  have eachD : ∀ N : List (Addr × List Int), (∀ q ∈ N, q ∈ L) → PySem.W.EachIs (fun (v : Value) (p : Addr × List Int) => ∃ as, Reads (s1.heap.push (seqObj "list" (M.map fun q => Value.ref q.1).toArray 0)) v (encR p.2) as ∧ s1.heap.objs.size ∉ as) (N.map fun q => Value.ref q.1) N := fun N hN => by
    induction N with
    | nil => exact .nil
    | cons x N ih =>
      obtain ⟨as, r1, e1⟩ := reads_tup (isT_keep (R.tup x (hN x (by simp))) k1)
      refine .cons ⟨as, PySem.W.reads_keeps (fun b o e => Heap.get?_push_of_some _ e) r1, by rw [e1]; simp⟩ (ih fun q hq => hN q (by simp [hq]))
  have back : ∀ {us : List Value} {N : List (Addr × List Int)}, PySem.W.EachIs (fun (v : Value) (p : Addr × List Int) => v = Value.ref p.1) us N → us = N.map fun q => Value.ref q.1 := fun {us N} h => by
    induction h with
    | nil => rfl
    | cons e _ ih => rw [e, ih]; rfl
  refine wpAny_bind (wpAny_holding (PySem.W.list_sort_data (s := { s1 with heap := s1.heap.push (seqObj "list" (M.map fun q => Value.ref q.1).toArray 0) }) (bs := M) (enc := fun p => encR p.2) at1 (eachR M) (eachD M subM) ?_ ?_ (by omega) (fun b _ => by rw [depth_row]; show A.in1.units + 1 + 1 < _; simp only [Around.in1]; omega) fun out hol hout => ?_))
  · exact PySem.W.AllAlike.of fun b b' => alike_row b.2 b'.2
  · refine .inl fun d hd => ?_
    obtain ⟨p, hp, rfl⟩ := List.mem_map.1 hd
    have := ne p (subM p hp)
    cases e : p.2 with
    | nil => exact absurd e this
    | cons x xs => exact ⟨.int x, xs.map .int, rfl⟩
  · have eo := back hout
    obtain ⟨c, hc⟩ := sortedHeap_at (vs := M.map fun q => Value.ref q.1) (out := List.toArray out) at1
    have lerel : PySem.W.dataLe false (fun p : Addr × List Int => encR p.2) = fun p q => leR p.2 q.2 := by
      funext p q
      exact leD_row p.2 q.2
    rw [lerel] at eo
    refine wpAny_pure ⟨_, rfl, hQ _ s1.heap.objs.size c (M.mergeSort fun p q => leR p.2 q.2) (fun b u e => ?_) g1 o1 z1 ?_ ((List.mergeSort_perm _ _).trans pML) ?_⟩
    · have q := k1 b u e
      have lt := Heap.lt_size q
      show (sortedHeap _ _ _ _).get? b = some u
      rw [sortedHeap_old (Nat.ne_of_lt lt) (by rw [size_push']; exact Nat.lt_succ_of_lt lt)]
      exact Heap.get?_push_of_some _ q
    · rw [← eo]; exact hc
    · exact List.pairwise_mergeSort (le := fun p q : Addr × List Int => leR p.2 q.2) (fun a b c h1 h2 => leR_trans _ _ _ h1 h2) (fun a b => leR_total _ _) M
end
def rSortedTR (K : PySem.W.Frag) (P : Program) (w : World) : List V → Hp → VK → Prop := fun vs H Q => ∃ (a : Addr) (L : List (Addr × List Int)), vs = [V.ref a] ∧ H a = some (SetTO P w a L) ∧ (∀ p ∈ L, SqT K H p.1 (p.2.map V.int)) ∧ (∀ p ∈ L, p.2 ≠ []) ∧
  ∀ (L' : List (Addr × List Int)) (p : Addr), L'.Perm L → (L'.map (·.2)).Nodup → L'.Pairwise (fun q r => leR q.2 r.2 = true) → H p = none → Q (.ref p) (upd H p (.lst (L'.map fun q => V.ref q.1)))
theorem cr_sortedTR {X : Cx} (hc : X.calm = true) (hu : X.A.units + 65 < cLine) : CallR X (.builtin "sorted") (rSortedTR X.K X.prog X.w) := by
  intro pins s σ H vs us Q I r ⟨a, L, e0, ha, hk, ne, q⟩
  subst e0
  have R0 : SetT0 X.prog X.w s.heap a L := (I.hok a _ ha).1
  obtain ⟨es, ep, t, R⟩ := R0.full fun p hp => I.isT (hk p hp)
  rw [Vals.ref1 r]
  refine sortedSetR R (I.ok.hd hc) ne (by omega) fun s' p c L' k g o hp hg pm pw => ?_
  have small : (L'.map fun q => V.ref q.1).length ≤ sizeLine := by
    have := R.few
    rw [List.length_map, pm.length_eq, sizeLine_eq]; omega
  have np : H p = none := I.hok.fresh hp
  have e : s' = { s with heap := s'.heap, gens := s'.gens, drawn := s'.drawn, toks := s'.toks } := by
    cases s' with
    | mk h1 g1 d1 t1 o1 => cases s; cases o; rfl
  rw [e]
  exact ⟨.ref p, upd H p (.lst (L'.map fun q => V.ref q.1)), I.call (ch := []) (Un.laid k hp np) (I.hok.laid k hp ⟨small, _, c, vals_of_refs L', hg⟩) (by rw [g]; exact I.bare) (fun _ z => nomatch z), rfl, q L' p pm ((pm.map (·.2)).nodup_iff.2 R.nd) pw np⟩
theorem rows_refs {K : PySem.W.Frag} {F : Hp} : ∀ {rs : List (List Int)} {xs : List V}, RpL K F xs (rs.map encR) → ∃ ks : List (Addr × List Int), xs = ks.map (fun p => V.ref p.1) ∧ ks.map (·.2) = rs ∧ ∀ p ∈ ks, SqT K F p.1 (p.2.map V.int)
  | [], _, h => by cases h; exact ⟨[], rfl, rfl, fun _ h => nomatch h⟩
  | r :: rs, _, h => by
    cases h with
    | cons h1 h2 =>
      obtain ⟨ks, e1, e2, h3⟩ := rows_refs h2
      cases h1 with
      | tup g1 g2 =>
        rw [g2.ints] at g1
        exact ⟨(_, r) :: ks, by rw [e1]; rfl, by rw [← e2]; rfl, fun p hp => (List.mem_cons.1 hp).elim (fun z => z ▸ g1) (h3 p)⟩
theorem refs_rows {K : PySem.W.Frag} {F : Hp} : ∀ (ks : List (Addr × List Int)), (∀ p ∈ ks, SqT K F p.1 (p.2.map V.int)) → RpL K F (ks.map fun p => V.ref p.1) ((ks.map (·.2)).map encR)
  | [], _ => .nil
  | p :: ks, h => .cons (.tup (h p (by simp)) (RpL.of_ints p.2)) (refs_rows ks fun q hq => h q (by simp [hq]))
section
variable {c : CM} {W : WX} {m : Md} {X : Cx} {a : Expr} {pos p p2 p3 : Pos}
theorem e_sortedSetR {d : Ev → MM D} (hk : X.K = c.K) (hc : X.calm = true) (hu : X.A.units + 65 < cLine) (hg : Gl X "sorted") (hm : X.mg "sorted" = none) (hg2 : Gl X "set") (hm2 : X.mg "set" = none) (ha : E c W m X a d)
    (h1 : starEach [a] X.env = (false, eval a X.env) :: starEach [] X.env := by rfl)
    (h2 : starEach [.Call (.Name "set" p2) [a] [] p3] X.env = (false, eval (.Call (.Name "set" p2) [a] [] p3) X.env) :: starEach [] X.env := by rfl) :
    E c W m X (.Call (.Name "sorted" p) [.Call (.Name "set" p2) [a] [] p3] [] pos) (eArgs fSortSetR (aCons d aNil)) := by
  have hs : PE X (.Call (.Name "set" p2) [a] [] p3) (tCB (rSetOfT X.K X.prog X.w) (tCons (TD c W m d) tNil)) := pe_callTy (cr_setOfT hc (by omega)) hg2 hm2 boot_set (pa_cons ha pa_nil h1) (by decide) (by decide) h1 rfl
  refine PEimp (pe_callB (cr_sortedTR hc hu) hg hm boot_sorted (pa_cons hs pa_nil h2) (by decide) (by decide) h2 rfl) fun σ H Q ⟨F, ρ, ω, S, q⟩ => ?_
  have q' : Post c W F H σ (fun v F' H' _ => ∀ x, Rp c.K F' x v → Q x H') ((d ρ ω).bind fun v w => ofO (fSortSetR [v]) w) := by
    unfold eArgs aCons aNil at q
    cases hd : d ρ ω <;> simpa [hd] using q
  refine ⟨F, ρ, ω, S, bindT S Post.pg q' fun v F1 H1 w1 x1 S1 q1 x r1 => ?_⟩
  obtain ⟨z, e1, q3⟩ := post_ofO S1.fh S1.bo q1
  cases r1 with
  | lst g1 g2 =>
    simp only [fSortSetR, Option.bind_eq_some_iff, Option.ite_none_right_eq_some, Option.some.injEq] at e1
    obtain ⟨rs, e2, ⟨e3, e4⟩, rfl⟩ := e1
    rw [rowsD_eq e2] at g2
    obtain ⟨ks, rfl, rfl, hks⟩ := rows_refs g2
    have hksH : ∀ p ∈ ks, SqT X.K H1 p.1 (p.2.map V.int) := fun p hp => by rw [hk]; exact sameT S1.fh (hks p hp)
    refine ⟨_, ks, rfl, SqL.of (S1.fh _ _ g1), hksH, by simpa using e4, fun a0 L np hsub hall => ?_⟩
    have x2 : Xt none F1 H1 F1 (upd H1 a0 (SetTO X.prog X.w a0 L)) := Xt.alloc0 S1.fh np
    refine ⟨a0, L, rfl, upd_same, fun p hp => sameT (same_upd np) (hksH p (hsub p hp)), fun p hp => e3 p.2 (List.mem_map.2 ⟨p, hsub p hp, rfl⟩), fun L' p1 pm nd pw np1 => ?_⟩
    have inL : ∀ p ∈ L', p ∈ ks := fun p hp => hsub p (pm.mem_iff.1 hp)
    have er : L'.map (·.2) = sortUR (ks.map (·.2)) := by
      refine rlt_ext ?_ (sortUR_lt _) fun z => ?_
      · have h5 : (L'.map (·.2)).Pairwise fun a b => leR a b = true := List.pairwise_map.2 pw
        have h6 : (L'.map (·.2)).Pairwise fun a b => a ≠ b := nd
        refine (h5.and h6).imp fun {x y} ⟨u, v⟩ => ?_
        cases e : rLt x y with
        | true => rfl
        | false => exact absurd (rLt_tri e (by unfold leR at u; simpa using u)) v
      · rw [mem_sortUR]
        constructor
        · intro hz
          obtain ⟨p, hp, rfl⟩ := List.mem_map.1 hz
          exact List.mem_map.2 ⟨p, inL p hp, rfl⟩
        · intro hz
          obtain ⟨p, hp, rfl⟩ := List.mem_map.1 hz
          exact ((pm.map (·.2)).mem_iff).2 (hall p hp)
    have rr := refs_rows (K := c.K) (F := F1) L' fun p hp => hks p (inL p hp)
    rw [er] at rr
    exact rp_new_lst x2.fh np1 rr fun F' H' z' xt rz => q3 F' H' (x2.trans xt) z' rz
  | _ => simp [fSortSetR] at e1
end
end M

set_option Elab.async false
set_option linter.all false
set_option maxRecDepth 100000
set_option maxHeartbeats 4000000
namespace M
open PySem PySem.Spec PyProof.Rows L2
/-! ### a, b, .. = a list -/
def gU (gs : List D → Ev → Option Ev) : D → Ev → Option Ev
  | .list ds, ρ => gs ds ρ
  | _, _ => none
@[simp] theorem gU_ap (gs : List D → Ev → Option Ev) (ds : List D) (ρ : Ev) : gU gs (.list ds) ρ = gs ds ρ := (rfl)
section
variable {c : CM} {W : WX} {m m1 mn mb mc : Md} {X : Cx} {e tg : Expr} {es : List Expr} {pos : Pos}
theorem g_unl {is : List Nat} {k : Nat} {gs : List D → Ev → Option Ev} {n : Nat} (hk : X.K = c.K) (hc : X.calm = true) (h : PGs X es (TGDs c m mn is gs)) (hl : ∀ ds ρ ρ', gs ds ρ = some ρ' → ds.length = n)
    (hn : (assignEach es X.env).length = n := by rfl) (hst : (assignEach es X.env).findIdx? (·.1) = none := by rfl) : PG X (.Tuple es k pos) (TGD c m mn is (gU gs)) := PGimp (pg_unl hc h hn hst) fun v σ H Q ⟨F, ρ, ω, d, ρ', S, r, e, q⟩ => by
  cases r with
  | lst h1 h2 =>
    have e : gs _ ρ = some ρ' := e
    exact ⟨_, _, rfl, by rw [hk]; exact SqL.of (S.fh _ _ h1), by rw [h2.length]; exact hl _ _ _ e, F, ρ, ω, _, ρ', S, h2, e, q⟩
  | _ => simp [gU] at e
end
end M

set_option Elab.async false
set_option linter.all false
set_option maxRecDepth 100000
set_option maxHeartbeats 4000000
namespace M
open PySem PySem.Spec PyProof.Rows L2

/-! ### evaluating denotations: frames without binders -/
@[simp] theorem look_zero (o : Option D) (r : Ev) : look (o :: r) 0 = o := (rfl)
@[simp] theorem look_succ (o : Option D) (r : Ev) (n : Nat) : look (o :: r) (n + 1) = look r n := (rfl)
@[simp] theorem put_zero (o : Option D) (r : Ev) (d : D) : put (o :: r) 0 d = some d :: r := (rfl)
@[simp] theorem put_succ (o : Option D) (r : Ev) (n : Nat) (d : D) : put (o :: r) (n + 1) d = o :: put r n d := (rfl)
@[simp] theorem eVar_ap (i : Nat) (ρ : Ev) (ω : Wd) : eVar i ρ ω = ofO (look ρ i) ω := (rfl)
@[simp] theorem eC_ap (d : D) (ρ : Ev) (ω : Wd) : eC d ρ ω = .ok d ω := (rfl)
def kUn (f : D → Option D) : Res D → Res D
  | .ok a w => ofO (f a) w
  | .exc e w => .exc e w
  | .bad => .bad
@[simp] theorem eUn_ap (f : D → Option D) (d : Ev → MM D) (ρ : Ev) (ω : Wd) : eUn f d ρ ω = kUn f (d ρ ω) := by unfold eUn; cases d ρ ω <;> rfl
@[simp] theorem kUn_ok (f : D → Option D) (a : D) (w : Wd) : kUn f (.ok a w) = ofO (f a) w := (rfl)
@[simp] theorem kUn_exc (f : D → Option D) (e : Ex) (w : Wd) : kUn f (.exc e w) = .exc e w := (rfl)
def kBin2 {α : Type} (f : D → D → Option α) (a : D) : Res D → Res α
  | .ok b w => ofO (f a b) w
  | .exc e w => .exc e w
  | .bad => .bad
def kBin {α : Type} (f : D → D → Option α) (d2 : Ev → MM D) (ρ : Ev) : Res D → Res α
  | .ok a w => kBin2 f a (d2 ρ w)
  | .exc e w => .exc e w
  | .bad => .bad
@[simp] theorem kBin2_ok {α : Type} (f : D → D → Option α) (a b : D) (w : Wd) : kBin2 f a (.ok b w) = ofO (f a b) w := (rfl)
@[simp] theorem kBin2_exc {α : Type} (f : D → D → Option α) (a : D) (e : Ex) (w : Wd) : kBin2 f a (.exc e w) = .exc e w := (rfl)
@[simp] theorem kBin_ok {α : Type} (f : D → D → Option α) (d2 : Ev → MM D) (ρ : Ev) (a : D) (w : Wd) : kBin f d2 ρ (.ok a w) = kBin2 f a (d2 ρ w) := (rfl)
@[simp] theorem kBin_exc {α : Type} (f : D → D → Option α) (d2 : Ev → MM D) (ρ : Ev) (e : Ex) (w : Wd) : kBin f d2 ρ (.exc e w) = .exc e w := (rfl)
@[simp] theorem eBin_ap (f : D → D → Option D) (d1 d2 : Ev → MM D) (ρ : Ev) (ω : Wd) : eBin f d1 d2 ρ ω = kBin f d2 ρ (d1 ρ ω) := by
  unfold eBin
  cases h : d1 ρ ω with
  | ok a w => simp only [bind_ok, kBin_ok]; cases d2 ρ w <;> rfl
  | _ => rfl
@[simp] theorem bBin_ap (f : D → D → Option Bool) (d1 d2 : Ev → MM D) (ρ : Ev) (ω : Wd) : bBin f d1 d2 ρ ω = kBin f d2 ρ (d1 ρ ω) := by
  unfold bBin
  cases h : d1 ρ ω with
  | ok a w => simp only [bind_ok, kBin_ok]; cases d2 ρ w <;> rfl
  | _ => rfl
/-- chains -/
def kCh3 (g : D → D → Option Bool) (d3 : Ev → MM D) (ρ : Ev) (b : D) : Res Bool → Res Bool
  | .ok true w => kBin2 g b (d3 ρ w)
  | r => r
def kCh2 (f g : D → D → Option Bool) (d3 : Ev → MM D) (ρ : Ev) (a : D) : Res D → Res Bool
  | .ok b w => kCh3 g d3 ρ b (ofO (f a b) w)
  | .exc e w => .exc e w
  | .bad => .bad
def kCh (f g : D → D → Option Bool) (d2 d3 : Ev → MM D) (ρ : Ev) : Res D → Res Bool
  | .ok a w => kCh2 f g d3 ρ a (d2 ρ w)
  | .exc e w => .exc e w
  | .bad => .bad
@[simp] theorem kCh3_t (g : D → D → Option Bool) (d3 : Ev → MM D) (ρ : Ev) (b : D) (w : Wd) : kCh3 g d3 ρ b (.ok true w) = kBin2 g b (d3 ρ w) := (rfl)
@[simp] theorem kCh3_f (g : D → D → Option Bool) (d3 : Ev → MM D) (ρ : Ev) (b : D) (w : Wd) : kCh3 g d3 ρ b (.ok false w) = .ok false w := (rfl)
@[simp] theorem kCh2_ok (f g : D → D → Option Bool) (d3 : Ev → MM D) (ρ : Ev) (a b : D) (w : Wd) : kCh2 f g d3 ρ a (.ok b w) = kCh3 g d3 ρ b (ofO (f a b) w) := (rfl)
@[simp] theorem kCh_ok (f g : D → D → Option Bool) (d2 d3 : Ev → MM D) (ρ : Ev) (a : D) (w : Wd) : kCh f g d2 d3 ρ (.ok a w) = kCh2 f g d3 ρ a (d2 ρ w) := (rfl)
@[simp] theorem bChain_ap (f g : D → D → Option Bool) (d1 d2 d3 : Ev → MM D) (ρ : Ev) (ω : Wd) : bChain f g d1 d2 d3 ρ ω = kCh f g d2 d3 ρ (d1 ρ ω) := by
  unfold bChain
  cases h : d1 ρ ω with
  | ok a w =>
    simp only [bind_ok, kCh_ok]
    cases h2 : d2 ρ w with
    | ok b w2 =>
      simp only [bind_ok, kCh2_ok]
      cases h3 : f a b with
      | none => rfl
      | some t => cases t with
        | false => rfl
        | true => simp only [ofO_some, bind_ok, kCh3_t]; cases d3 ρ w2 <;> rfl
    | _ => rfl
  | _ => rfl
def kOfB : Res Bool → Res D
  | .ok b w => .ok (.bool b) w
  | .exc e w => .exc e w
  | .bad => .bad
@[simp] theorem kOfB_ok (b : Bool) (w : Wd) : kOfB (.ok b w) = .ok (.bool b) w := (rfl)
@[simp] theorem eOfB_ap (d : Ev → MM Bool) (ρ : Ev) (ω : Wd) : eOfB d ρ ω = kOfB (d ρ ω) := by unfold eOfB; cases d ρ ω <;> rfl
def kB (f : D → Option Bool) : Res D → Res Bool
  | .ok a w => ofO (f a) w
  | .exc e w => .exc e w
  | .bad => .bad
@[simp] theorem kB_ok (f : D → Option Bool) (a : D) (w : Wd) : kB f (.ok a w) = ofO (f a) w := (rfl)
@[simp] theorem kB_exc (f : D → Option Bool) (e : Ex) (w : Wd) : kB f (.exc e w) = .exc e w := (rfl)
@[simp] theorem bTru_ap (d : Ev → MM D) (ρ : Ev) (ω : Wd) : bTru d ρ ω = kB truth (d ρ ω) := by unfold bTru; cases d ρ ω <;> rfl
@[simp] theorem bOfE_ap (d : Ev → MM D) (ρ : Ev) (ω : Wd) : bOfE d ρ ω = kB asB (d ρ ω) := by unfold bOfE; cases d ρ ω <;> rfl
@[simp] theorem truth_bool (b : Bool) : truth (.bool b) = some b := (rfl)
@[simp] theorem truth_int (b : Int) : truth (.int b) = some (b != 0) := (rfl)
@[simp] theorem truth_none : truth .none = some false := (rfl)
@[simp] theorem truth_list (xs : List D) : truth (.list xs) = some (!xs.isEmpty) := (rfl)
@[simp] theorem truth_tuple (xs : List D) : truth (.tuple xs) = some (!xs.isEmpty) := (rfl)
@[simp] theorem asB_bool (b : Bool) : asB (.bool b) = some b := (rfl)
def kNot : Res Bool → Res Bool
  | .ok b w => .ok (!b) w
  | .exc e w => .exc e w
  | .bad => .bad
@[simp] theorem kNot_ok (b : Bool) (w : Wd) : kNot (.ok b w) = .ok (!b) w := (rfl)
@[simp] theorem bNot_ap (d : Ev → MM Bool) (ρ : Ev) (ω : Wd) : bNot d ρ ω = kNot (d ρ ω) := by unfold bNot; cases d ρ ω <;> rfl
def kAnd (d : Ev → MM Bool) (ρ : Ev) : Res Bool → Res Bool
  | .ok true w => d ρ w
  | r => r
def kOr (d : Ev → MM Bool) (ρ : Ev) : Res Bool → Res Bool
  | .ok false w => d ρ w
  | r => r
@[simp] theorem kAnd_t (d : Ev → MM Bool) (ρ : Ev) (w : Wd) : kAnd d ρ (.ok true w) = d ρ w := (rfl)
@[simp] theorem kAnd_f (d : Ev → MM Bool) (ρ : Ev) (w : Wd) : kAnd d ρ (.ok false w) = .ok false w := (rfl)
@[simp] theorem kOr_t (d : Ev → MM Bool) (ρ : Ev) (w : Wd) : kOr d ρ (.ok true w) = .ok true w := (rfl)
@[simp] theorem kOr_f (d : Ev → MM Bool) (ρ : Ev) (w : Wd) : kOr d ρ (.ok false w) = d ρ w := (rfl)
@[simp] theorem bAnd_ap (d1 d2 : Ev → MM Bool) (ρ : Ev) (ω : Wd) : bAnd d1 d2 ρ ω = kAnd d2 ρ (d1 ρ ω) := by
  unfold bAnd
  cases h : d1 ρ ω with
  | ok b w => cases b <;> rfl
  | _ => rfl
@[simp] theorem bOr_ap (d1 d2 : Ev → MM Bool) (ρ : Ev) (ω : Wd) : bOr d1 d2 ρ ω = kOr d2 ρ (d1 ρ ω) := by
  unfold bOr
  cases h : d1 ρ ω with
  | ok b w => cases b <;> rfl
  | _ => rfl
def kEAnd (d : Ev → MM D) (ρ : Ev) : Res Bool → Res D
  | .ok true w => d ρ w
  | .ok false w => .ok (.bool false) w
  | .exc e w => .exc e w
  | .bad => .bad
def kEOr (d : Ev → MM D) (ρ : Ev) : Res Bool → Res D
  | .ok false w => d ρ w
  | .ok true w => .ok (.bool true) w
  | .exc e w => .exc e w
  | .bad => .bad
@[simp] theorem kEAnd_t (d : Ev → MM D) (ρ : Ev) (w : Wd) : kEAnd d ρ (.ok true w) = d ρ w := (rfl)
@[simp] theorem kEAnd_f (d : Ev → MM D) (ρ : Ev) (w : Wd) : kEAnd d ρ (.ok false w) = .ok (.bool false) w := (rfl)
@[simp] theorem kEOr_f (d : Ev → MM D) (ρ : Ev) (w : Wd) : kEOr d ρ (.ok false w) = d ρ w := (rfl)
@[simp] theorem kEOr_t (d : Ev → MM D) (ρ : Ev) (w : Wd) : kEOr d ρ (.ok true w) = .ok (.bool true) w := (rfl)
@[simp] theorem eAnd_ap (d1 d2 : Ev → MM D) (ρ : Ev) (ω : Wd) : eAnd d1 d2 ρ ω = kEAnd d2 ρ (kB asB (d1 ρ ω)) := by
  unfold eAnd
  cases h : d1 ρ ω with
  | ok a w => simp only [bind_ok, kB_ok]; cases h2 : asB a with
    | none => rfl
    | some b => cases b <;> rfl
  | _ => rfl
@[simp] theorem eOr_ap (d1 d2 : Ev → MM D) (ρ : Ev) (ω : Wd) : eOr d1 d2 ρ ω = kEOr d2 ρ (kB asB (d1 ρ ω)) := by
  unfold eOr
  cases h : d1 ρ ω with
  | ok a w => simp only [bind_ok, kB_ok]; cases h2 : asB a with
    | none => rfl
    | some b => cases b <;> rfl
  | _ => rfl
def kEIf (d1 d2 : Ev → MM D) (ρ : Ev) : Res Bool → Res D
  | .ok true w => d1 ρ w
  | .ok false w => d2 ρ w
  | .exc e w => .exc e w
  | .bad => .bad
@[simp] theorem kEIf_t (d1 d2 : Ev → MM D) (ρ : Ev) (w : Wd) : kEIf d1 d2 ρ (.ok true w) = d1 ρ w := (rfl)
@[simp] theorem kEIf_f (d1 d2 : Ev → MM D) (ρ : Ev) (w : Wd) : kEIf d1 d2 ρ (.ok false w) = d2 ρ w := (rfl)
@[simp] theorem eIf_ap (t : Ev → MM Bool) (d1 d2 : Ev → MM D) (ρ : Ev) (ω : Wd) : eIf t d1 d2 ρ ω = kEIf d1 d2 ρ (t ρ ω) := by
  unfold eIf
  cases h : t ρ ω with
  | ok b w => cases b <;> rfl
  | _ => rfl
@[simp] theorem aNil_ap (ρ : Ev) (ω : Wd) : aNil ρ ω = .ok [] ω := (rfl)
def kCons2 (a : D) : Res (List D) → Res (List D)
  | .ok r w => .ok (a :: r) w
  | .exc e w => .exc e w
  | .bad => .bad
def kCons (ds : Ev → MM (List D)) (ρ : Ev) : Res D → Res (List D)
  | .ok a w => kCons2 a (ds ρ w)
  | .exc e w => .exc e w
  | .bad => .bad
@[simp] theorem kCons2_ok (a : D) (r : List D) (w : Wd) : kCons2 a (.ok r w) = .ok (a :: r) w := (rfl)
@[simp] theorem kCons_ok (ds : Ev → MM (List D)) (ρ : Ev) (a : D) (w : Wd) : kCons ds ρ (.ok a w) = kCons2 a (ds ρ w) := (rfl)
@[simp] theorem kCons2_exc (a : D) (e : Ex) (w : Wd) : kCons2 a (.exc e w) = .exc e w := (rfl)
@[simp] theorem kCons_exc (ds : Ev → MM (List D)) (ρ : Ev) (e : Ex) (w : Wd) : kCons ds ρ (.exc e w) = .exc e w := (rfl)
@[simp] theorem aCons_ap (d : Ev → MM D) (ds : Ev → MM (List D)) (ρ : Ev) (ω : Wd) : aCons d ds ρ ω = kCons ds ρ (d ρ ω) := by
  unfold aCons
  cases h : d ρ ω with
  | ok a w => simp only [bind_ok, kCons_ok]; cases ds ρ w <;> rfl
  | _ => rfl
def kArgs {α β : Type} (f : α → Option β) : Res α → Res β
  | .ok r w => ofO (f r) w
  | .exc e w => .exc e w
  | .bad => .bad
@[simp] theorem kArgs_ok {α β : Type} (f : α → Option β) (r : α) (w : Wd) : kArgs f (.ok r w) = ofO (f r) w := (rfl)
@[simp] theorem eArgs_ap (f : List D → Option D) (ds : Ev → MM (List D)) (ρ : Ev) (ω : Wd) : eArgs f ds ρ ω = kArgs f (ds ρ ω) := by unfold eArgs; cases ds ρ ω <;> rfl
@[simp] theorem iArgs_ap (f : List D → Option (List D)) (ds : Ev → MM (List D)) (ρ : Ev) (ω : Wd) : iArgs f ds ρ ω = kArgs f (ds ρ ω) := by unfold iArgs; cases ds ρ ω <;> rfl
@[simp] theorem eTup_ap (ds : Ev → MM (List D)) (ρ : Ev) (ω : Wd) : eTup ds ρ ω = kArgs (fun r => some (.tuple r)) (ds ρ ω) := by unfold eTup; cases ds ρ ω <;> rfl
@[simp] theorem eLst_ap (ds : Ev → MM (List D)) (ρ : Ev) (ω : Wd) : eLst ds ρ ω = kArgs (fun r => some (.list r)) (ds ρ ω) := by unfold eLst; cases ds ρ ω <;> rfl
@[simp] theorem eOfF_ap (ds : Ev → MM (List D)) (ρ : Ev) (ω : Wd) : eOfF ds ρ ω = kArgs (fun r => some (.list r)) (ds ρ ω) := by unfold eOfF; cases ds ρ ω <;> rfl
def kCall (f : List D → Res D) : Res (List D) → Res D
  | .ok r w => (f r).at w
  | .exc e w => .exc e w
  | .bad => .bad
@[simp] theorem kCall_ok (f : List D → Res D) (r : List D) (w : Wd) : kCall f (.ok r w) = (f r).at w := (rfl)
@[simp] theorem eCall_ap (f : List D → Res D) (ds : Ev → MM (List D)) (ρ : Ev) (ω : Wd) : eCall f ds ρ ω = kCall f (ds ρ ω) := by unfold eCall; cases ds ρ ω <;> rfl
def kCallS (f : List D → MM D) : Res (List D) → Res D
  | .ok r w => f r w
  | .exc e w => .exc e w
  | .bad => .bad
@[simp] theorem kCallS_ok (f : List D → MM D) (r : List D) (w : Wd) : kCallS f (.ok r w) = f r w := (rfl)
@[simp] theorem eCallS_ap (f : List D → MM D) (ds : Ev → MM (List D)) (ρ : Ev) (ω : Wd) : eCallS f ds ρ ω = kCallS f (ds ρ ω) := by unfold eCallS; cases ds ρ ω <;> rfl
def seqOf : D → Option (List D)
  | .list ds => some ds
  | .tuple ds => some ds
  | _ => none
@[simp] theorem seqOf_list (ds : List D) : seqOf (.list ds) = some ds := (rfl)
@[simp] theorem seqOf_tuple (ds : List D) : seqOf (.tuple ds) = some ds := (rfl)
@[simp] theorem iSeq_ap (d : Ev → MM D) (ρ : Ev) (ω : Wd) : iSeq d ρ ω = kArgs seqOf (d ρ ω) := by
  unfold iSeq
  cases d ρ ω with
  | ok v w => cases v <;> rfl
  | _ => rfl

/-! statements -/
@[simp] theorem sNext_ap (ρ : Ev) (ω : Wd) : sNext ρ ω = .ok (.next ρ) ω := (rfl)
@[simp] theorem sBrk_ap (ρ : Ev) (ω : Wd) : sBrk ρ ω = .ok (.brk ρ) ω := (rfl)
@[simp] theorem sCont_ap (ρ : Ev) (ω : Wd) : sCont ρ ω = .ok (.cont ρ) ω := (rfl)
@[simp] theorem sRaise_ap (e : Ex) (ρ : Ev) (ω : Wd) : sRaise e ρ ω = .exc e ω := (rfl)
def kAsg (g : D → Ev → Option Ev) (ρ : Ev) : Res D → Res Fl
  | .ok v w => (ofO (g v ρ) w).bind fun ρ' w => .ok (.next ρ') w
  | .exc e w => .exc e w
  | .bad => .bad
def kNext : Res Ev → Res Fl
  | .ok ρ w => .ok (.next ρ) w
  | .exc e w => .exc e w
  | .bad => .bad
@[simp] theorem kNext_ok (ρ : Ev) (w : Wd) : kNext (.ok ρ w) = .ok (.next ρ) w := (rfl)
@[simp] theorem kAsg_ok (g : D → Ev → Option Ev) (ρ : Ev) (v : D) (w : Wd) : kAsg g ρ (.ok v w) = kNext (ofO (g v ρ) w) := by
  show (ofO (g v ρ) w).bind _ = _
  cases g v ρ <;> rfl
@[simp] theorem kAsg_exc (g : D → Ev → Option Ev) (ρ : Ev) (e : Ex) (w : Wd) : kAsg g ρ (.exc e w) = .exc e w := (rfl)
@[simp] theorem sAsg_ap (d : Ev → MM D) (g : D → Ev → Option Ev) (ρ : Ev) (ω : Wd) : sAsg d g ρ ω = kAsg g ρ (d ρ ω) := by unfold sAsg; cases d ρ ω <;> rfl
@[simp] theorem gN_ap (i : Nat) (d : D) (ρ : Ev) : gN i d ρ = some (put ρ i d) := (rfl)
@[simp] theorem gT_ap (gs : List D → Ev → Option Ev) (ds : List D) (ρ : Ev) : gT gs (.tuple ds) ρ = gs ds ρ := (rfl)
@[simp] theorem gsNil_ap (ρ : Ev) : gsNil [] ρ = some ρ := (rfl)
def kGs (gs : List D → Ev → Option Ev) (ds : List D) : Option Ev → Option Ev
  | some ρ => gs ds ρ
  | none => none
@[simp] theorem kGs_some (gs : List D → Ev → Option Ev) (ds : List D) (ρ : Ev) : kGs gs ds (some ρ) = gs ds ρ := (rfl)
@[simp] theorem gsCons_ap (g : D → Ev → Option Ev) (gs : List D → Ev → Option Ev) (d : D) (ds : List D) (ρ : Ev) : gsCons g gs (d :: ds) ρ = kGs gs ds (g d ρ) := by
  show (g d ρ).bind (gs ds) = _
  cases g d ρ <;> rfl
def kSeq (d2 : Ev → MM Fl) : Res Fl → Res Fl
  | .ok (.next ρ) w => d2 ρ w
  | r => r
@[simp] theorem kSeq_next (d2 : Ev → MM Fl) (ρ : Ev) (w : Wd) : kSeq d2 (.ok (.next ρ) w) = d2 ρ w := (rfl)
@[simp] theorem kSeq_ret (d2 : Ev → MM Fl) (v : D) (w : Wd) : kSeq d2 (.ok (.ret v) w) = .ok (.ret v) w := (rfl)
@[simp] theorem kSeq_brk (d2 : Ev → MM Fl) (ρ : Ev) (w : Wd) : kSeq d2 (.ok (.brk ρ) w) = .ok (.brk ρ) w := (rfl)
@[simp] theorem kSeq_cont (d2 : Ev → MM Fl) (ρ : Ev) (w : Wd) : kSeq d2 (.ok (.cont ρ) w) = .ok (.cont ρ) w := (rfl)
@[simp] theorem kSeq_exc (d2 : Ev → MM Fl) (e : Ex) (w : Wd) : kSeq d2 (.exc e w) = .exc e w := (rfl)
@[simp] theorem sSeq_ap (d1 d2 : Ev → MM Fl) (ρ : Ev) (ω : Wd) : sSeq d1 d2 ρ ω = kSeq d2 (d1 ρ ω) := by
  unfold sSeq
  cases h : d1 ρ ω with
  | ok f w => cases f <;> rfl
  | _ => rfl
def kRet : Res D → Res Fl
  | .ok v w => .ok (.ret v) w
  | .exc e w => .exc e w
  | .bad => .bad
@[simp] theorem kRet_ok (v : D) (w : Wd) : kRet (.ok v w) = .ok (.ret v) w := (rfl)
@[simp] theorem kRet_exc (e : Ex) (w : Wd) : kRet (.exc e w) = .exc e w := (rfl)
@[simp] theorem sRet_ap (d : Ev → MM D) (ρ : Ev) (ω : Wd) : sRet d ρ ω = kRet (d ρ ω) := by unfold sRet; cases d ρ ω <;> rfl
def kExpr (ρ : Ev) : Res D → Res Fl
  | .ok _ w => .ok (.next ρ) w
  | .exc e w => .exc e w
  | .bad => .bad
@[simp] theorem kExpr_ok (ρ : Ev) (v : D) (w : Wd) : kExpr ρ (.ok v w) = .ok (.next ρ) w := (rfl)
@[simp] theorem kExpr_exc (ρ : Ev) (e : Ex) (w : Wd) : kExpr ρ (.exc e w) = .exc e w := (rfl)
@[simp] theorem sExpr_ap (d : Ev → MM D) (ρ : Ev) (ω : Wd) : sExpr d ρ ω = kExpr ρ (d ρ ω) := by unfold sExpr; cases d ρ ω <;> rfl
def kIf (d1 d2 : Ev → MM Fl) (ρ : Ev) : Res Bool → Res Fl
  | .ok true w => d1 ρ w
  | .ok false w => d2 ρ w
  | .exc e w => .exc e w
  | .bad => .bad
@[simp] theorem kIf_t (d1 d2 : Ev → MM Fl) (ρ : Ev) (w : Wd) : kIf d1 d2 ρ (.ok true w) = d1 ρ w := (rfl)
@[simp] theorem kIf_f (d1 d2 : Ev → MM Fl) (ρ : Ev) (w : Wd) : kIf d1 d2 ρ (.ok false w) = d2 ρ w := (rfl)
@[simp] theorem sIf_ap (t : Ev → MM Bool) (d1 d2 : Ev → MM Fl) (ρ : Ev) (ω : Wd) : sIf t d1 d2 ρ ω = kIf d1 d2 ρ (t ρ ω) := by
  unfold sIf
  cases h : t ρ ω with
  | ok b w => cases b <;> rfl
  | _ => rfl
def kPar2 (i j : Nat) (ρ : Ev) (a : D) : Res D → Res Fl
  | .ok b w => .ok (.next (put (put ρ i a) j b)) w
  | .exc e w => .exc e w
  | .bad => .bad
def kPar (i j : Nat) (d2 : Ev → MM D) (ρ : Ev) : Res D → Res Fl
  | .ok a w => kPar2 i j ρ a (d2 ρ w)
  | .exc e w => .exc e w
  | .bad => .bad
@[simp] theorem kPar2_ok (i j : Nat) (ρ : Ev) (a b : D) (w : Wd) : kPar2 i j ρ a (.ok b w) = .ok (.next (put (put ρ i a) j b)) w := (rfl)
@[simp] theorem kPar_ok (i j : Nat) (d2 : Ev → MM D) (ρ : Ev) (a : D) (w : Wd) : kPar i j d2 ρ (.ok a w) = kPar2 i j ρ a (d2 ρ w) := (rfl)
@[simp] theorem sPar_ap (i j : Nat) (d1 d2 : Ev → MM D) (ρ : Ev) (ω : Wd) : sPar i j d1 d2 ρ ω = kPar i j d2 ρ (d1 ρ ω) := by
  unfold sPar
  cases h : d1 ρ ω with
  | ok a w => simp only [bind_ok, kPar_ok]; cases d2 ρ w <;> rfl
  | _ => rfl
def kPar3c (i j k : Nat) (ρ : Ev) (a b : D) : Res D → Res Fl
  | .ok e w => .ok (.next (put (put (put ρ i a) j b) k e)) w
  | .exc e w => .exc e w
  | .bad => .bad
def kPar3b (i j k : Nat) (d3 : Ev → MM D) (ρ : Ev) (a : D) : Res D → Res Fl
  | .ok b w => kPar3c i j k ρ a b (d3 ρ w)
  | .exc e w => .exc e w
  | .bad => .bad
def kPar3 (i j k : Nat) (d2 d3 : Ev → MM D) (ρ : Ev) : Res D → Res Fl
  | .ok a w => kPar3b i j k d3 ρ a (d2 ρ w)
  | .exc e w => .exc e w
  | .bad => .bad
@[simp] theorem kPar3c_ok (i j k : Nat) (ρ : Ev) (a b e : D) (w : Wd) : kPar3c i j k ρ a b (.ok e w) = .ok (.next (put (put (put ρ i a) j b) k e)) w := (rfl)
@[simp] theorem kPar3b_ok (i j k : Nat) (d3 : Ev → MM D) (ρ : Ev) (a b : D) (w : Wd) : kPar3b i j k d3 ρ a (.ok b w) = kPar3c i j k ρ a b (d3 ρ w) := (rfl)
@[simp] theorem kPar3_ok (i j k : Nat) (d2 d3 : Ev → MM D) (ρ : Ev) (a : D) (w : Wd) : kPar3 i j k d2 d3 ρ (.ok a w) = kPar3b i j k d3 ρ a (d2 ρ w) := (rfl)
@[simp] theorem sPar3_ap (i j k : Nat) (d1 d2 d3 : Ev → MM D) (ρ : Ev) (ω : Wd) : sPar3 i j k d1 d2 d3 ρ ω = kPar3 i j k d2 d3 ρ (d1 ρ ω) := by
  unfold sPar3
  cases h : d1 ρ ω with
  | ok a w =>
    simp only [bind_ok, kPar3_ok]
    cases h2 : d2 ρ w with
    | ok b w2 => simp only [bind_ok, kPar3b_ok]; cases d3 ρ w2 <;> rfl
    | _ => rfl
  | _ => rfl
def kAug2 (i : Nat) (ρ : Ev) : Res D → Res Fl
  | .ok v w => .ok (.next (put ρ i v)) w
  | .exc e w => .exc e w
  | .bad => .bad
def kAug (i : Nat) (f : D → D → Option D) (d : Ev → MM D) (ρ : Ev) (ω : Wd) : Option D → Res Fl
  | some a => kAug2 i ρ (kBin2 f a (d ρ ω))
  | none => .bad
@[simp] theorem kAug2_ok (i : Nat) (ρ : Ev) (v : D) (w : Wd) : kAug2 i ρ (.ok v w) = .ok (.next (put ρ i v)) w := (rfl)
@[simp] theorem kAug_some (i : Nat) (f : D → D → Option D) (d : Ev → MM D) (ρ : Ev) (ω : Wd) (a : D) : kAug i f d ρ ω (some a) = kAug2 i ρ (kBin2 f a (d ρ ω)) := (rfl)
@[simp] theorem sAug_ap (i : Nat) (f : D → D → Option D) (d : Ev → MM D) (ρ : Ev) (ω : Wd) : sAug i f d ρ ω = kAug i f d ρ ω (look ρ i) := by
  unfold sAug
  cases h : look ρ i with
  | none => rfl
  | some a =>
    simp only [kAug_some]
    cases h2 : d ρ ω with
    | ok b w => simp only [bind_ok, kBin2_ok]; cases f a b <;> rfl
    | _ => rfl
def kOwn (i : Nat) (ρ : Ev) : Res (List D) → Res Fl
  | .ok ds w => .ok (.next (put ρ i (.list ds))) w
  | .exc e w => .exc e w
  | .bad => .bad
@[simp] theorem kOwn_ok (i : Nat) (ρ : Ev) (ds : List D) (w : Wd) : kOwn i ρ (.ok ds w) = .ok (.next (put ρ i (.list ds))) w := (rfl)
@[simp] theorem sOwn_ap (i : Nat) (d : Ev → MM (List D)) (ρ : Ev) (ω : Wd) : sOwn i d ρ ω = kOwn i ρ (d ρ ω) := by unfold sOwn; cases d ρ ω <;> rfl
/-- for -/
def kForB (g : D → Ev → Option Ev) (db : Ev → MM Fl) (ds : List D) : Res Fl → Res Fl
  | .ok (.next ρ) w => sFor.go g db ds ρ w
  | .ok (.cont ρ) w => sFor.go g db ds ρ w
  | .ok (.brk ρ) w => .ok (.next ρ) w
  | .ok (.ret v) w => .ok (.ret v) w
  | .exc e w => .exc e w
  | .bad => .bad
def kForG (g : D → Ev → Option Ev) (db : Ev → MM Fl) (ds : List D) : Res Ev → Res Fl
  | .ok ρ w => kForB g db ds (db ρ w)
  | .exc e w => .exc e w
  | .bad => .bad
def kFor (g : D → Ev → Option Ev) (db : Ev → MM Fl) (ρ : Ev) : Res (List D) → Res Fl
  | .ok ds w => sFor.go g db ds ρ w
  | .exc e w => .exc e w
  | .bad => .bad
@[simp] theorem kForB_next (g : D → Ev → Option Ev) (db : Ev → MM Fl) (ds : List D) (ρ : Ev) (w : Wd) : kForB g db ds (.ok (.next ρ) w) = sFor.go g db ds ρ w := (rfl)
@[simp] theorem kForB_cont (g : D → Ev → Option Ev) (db : Ev → MM Fl) (ds : List D) (ρ : Ev) (w : Wd) : kForB g db ds (.ok (.cont ρ) w) = sFor.go g db ds ρ w := (rfl)
@[simp] theorem kForB_brk (g : D → Ev → Option Ev) (db : Ev → MM Fl) (ds : List D) (ρ : Ev) (w : Wd) : kForB g db ds (.ok (.brk ρ) w) = .ok (.next ρ) w := (rfl)
@[simp] theorem kForB_ret (g : D → Ev → Option Ev) (db : Ev → MM Fl) (ds : List D) (v : D) (w : Wd) : kForB g db ds (.ok (.ret v) w) = .ok (.ret v) w := (rfl)
@[simp] theorem kForB_exc (g : D → Ev → Option Ev) (db : Ev → MM Fl) (ds : List D) (e : Ex) (w : Wd) : kForB g db ds (.exc e w) = .exc e w := (rfl)
@[simp] theorem kForG_ok (g : D → Ev → Option Ev) (db : Ev → MM Fl) (ds : List D) (ρ : Ev) (w : Wd) : kForG g db ds (.ok ρ w) = kForB g db ds (db ρ w) := (rfl)
@[simp] theorem kFor_ok (g : D → Ev → Option Ev) (db : Ev → MM Fl) (ρ : Ev) (ds : List D) (w : Wd) : kFor g db ρ (.ok ds w) = sFor.go g db ds ρ w := (rfl)
@[simp] theorem sFor_ap (di : Ev → MM (List D)) (g : D → Ev → Option Ev) (db : Ev → MM Fl) (ρ : Ev) (ω : Wd) : sFor di g db ρ ω = kFor g db ρ (di ρ ω) := by unfold sFor; cases di ρ ω <;> rfl
@[simp] theorem go_nil (g : D → Ev → Option Ev) (db : Ev → MM Fl) (ρ : Ev) (w : Wd) : sFor.go g db [] ρ w = .ok (.next ρ) w := (rfl)
theorem go_cons (g : D → Ev → Option Ev) (db : Ev → MM Fl) (d : D) (ds : List D) (ρ : Ev) (w : Wd) : sFor.go g db (d :: ds) ρ w = kForG g db ds (ofO (g d ρ) w) := by
  rw [sFor.go]
  cases h : g d ρ with
  | none => rfl
  | some ρ1 =>
    simp only [ofO_some, bind_ok, kForG_ok]
    cases h2 : db ρ1 w with
    | ok f w2 => cases f <;> rfl
    | _ => rfl
/-- while -/
noncomputable def kWhB (t : Ev → MM Bool) (db : Ev → MM Fl) : Res Fl → Res Fl
  | .ok (.next ρ) w => sWhile t db ρ w
  | .ok (.cont ρ) w => sWhile t db ρ w
  | .ok (.brk ρ) w => .ok (.next ρ) w
  | .ok (.ret v) w => .ok (.ret v) w
  | .exc e w => .exc e w
  | .bad => .bad
noncomputable def kWh (t : Ev → MM Bool) (db : Ev → MM Fl) (ρ : Ev) : Res Bool → Res Fl
  | .ok true w => kWhB t db (db ρ w)
  | .ok false w => .ok (.next ρ) w
  | .exc e w => .exc e w
  | .bad => .bad
@[simp] theorem kWhB_next (t : Ev → MM Bool) (db : Ev → MM Fl) (ρ : Ev) (w : Wd) : kWhB t db (.ok (.next ρ) w) = sWhile t db ρ w := (rfl)
@[simp] theorem kWhB_cont (t : Ev → MM Bool) (db : Ev → MM Fl) (ρ : Ev) (w : Wd) : kWhB t db (.ok (.cont ρ) w) = sWhile t db ρ w := (rfl)
@[simp] theorem kWhB_brk (t : Ev → MM Bool) (db : Ev → MM Fl) (ρ : Ev) (w : Wd) : kWhB t db (.ok (.brk ρ) w) = .ok (.next ρ) w := (rfl)
@[simp] theorem kWhB_ret (t : Ev → MM Bool) (db : Ev → MM Fl) (v : D) (w : Wd) : kWhB t db (.ok (.ret v) w) = .ok (.ret v) w := (rfl)
@[simp] theorem kWhB_exc (t : Ev → MM Bool) (db : Ev → MM Fl) (e : Ex) (w : Wd) : kWhB t db (.exc e w) = .exc e w := (rfl)
@[simp] theorem kWh_t (t : Ev → MM Bool) (db : Ev → MM Fl) (ρ : Ev) (w : Wd) : kWh t db ρ (.ok true w) = kWhB t db (db ρ w) := (rfl)
@[simp] theorem kWh_f (t : Ev → MM Bool) (db : Ev → MM Fl) (ρ : Ev) (w : Wd) : kWh t db ρ (.ok false w) = .ok (.next ρ) w := (rfl)
theorem sWhile_ap (t : Ev → MM Bool) (db : Ev → MM Fl) (ρ : Ev) (ω : Wd) : sWhile t db ρ ω = kWh t db ρ (t ρ ω) := by
  rw [sWhile_unfold]
  cases h : t ρ ω with
  | ok b w => cases b with
    | false => rfl
    | true =>
      simp only [bind_ok, kWh_t]
      cases h2 : db ρ w with
      | ok f w2 => cases f <;> rfl
      | _ => rfl
  | _ => rfl
/-- a while by an invariant over states of one's own -/
theorem while_by {α : Type} {t : Ev → MM Bool} {db : Ev → MM Fl} {w : Wd} (emb : α → Ev) (P : α → Prop) (c : α → Bool) (f : α → α) (μ : α → Nat)
    (ht : ∀ a, P a → t (emb a) w = .ok (c a) w) (hb : ∀ a, P a → c a = true → db (emb a) w = .ok (.next (emb (f a))) w ∧ P (f a) ∧ μ (f a) < μ a) :
    ∀ a, P a → ∃ b, P b ∧ c b = false ∧ sWhile t db (emb a) w = .ok (.next (emb b)) w := by
  have key : ∀ n a, μ a < n → P a → ∃ b, P b ∧ c b = false ∧ sWhile t db (emb a) w = .ok (.next (emb b)) w := by
    intro n
    induction n with
    | zero => intro a h; omega
    | succ n ih =>
      intro a h p
      rw [sWhile_ap, ht a p]
      cases hc : c a with
      | false => exact ⟨a, p, hc, rfl⟩
      | true =>
        obtain ⟨h1, h2, h3⟩ := hb a p hc
        rw [kWh_t, h1, kWhB_next]
        exact ih (f a) (by omega) h2
  exact fun a p => key (μ a + 1) a (by omega) p
/-- a for by an invariant: P of the items still to come -/
theorem for_by {α : Type} {g : D → Ev → Option Ev} {db : Ev → MM Fl} {w : Wd} (emb : α → Ev) (P : List D → α → Prop)
    (hb : ∀ d ds a, P (d :: ds) a → ∃ a' ρ1, g d (emb a) = some ρ1 ∧ (db ρ1 w = .ok (.next (emb a')) w ∨ db ρ1 w = .ok (.cont (emb a')) w) ∧ P ds a') :
    ∀ ds a, P ds a → ∃ b, P [] b ∧ sFor.go g db ds (emb a) w = .ok (.next (emb b)) w := by
  intro ds
  induction ds with
  | nil => intro a p; exact ⟨a, p, rfl⟩
  | cons d ds ih =>
    intro a p
    obtain ⟨a', ρ1, h1, h2, h3⟩ := hb d ds a p
    obtain ⟨b, h4, h5⟩ := ih a' h3
    refine ⟨b, h4, ?_⟩
    rw [go_cons, h1]
    rcases h2 with h2 | h2 <;> simp [h2, h5]
/-! lists of one's own, the borrowed list -/
def kApp (i : Nat) (ρ : Ev) (ds : List D) : Res D → Res Fl
  | .ok v w => if ds.length < sizeLine then .ok (.next (put ρ i (.list (ds ++ [v])))) w else .bad
  | .exc e w => .exc e w
  | .bad => .bad
@[simp] theorem kApp_ok (i : Nat) (ρ : Ev) (ds : List D) (v : D) (w : Wd) : kApp i ρ ds (.ok v w) = if ds.length < sizeLine then .ok (.next (put ρ i (.list (ds ++ [v])))) w else .bad := (rfl)
theorem sApp_ap (i : Nat) (d : Ev → MM D) (ρ : Ev) (ω : Wd) (ds : List D) (h : look ρ i = some (.list ds)) : sApp i d ρ ω = kApp i ρ ds (d ρ ω) := by
  unfold sApp
  rw [h]
  cases d ρ ω <;> rfl
def kExt (i : Nat) (ρ : Ev) (ds : List D) : Res D → Res Fl
  | .ok (.list es) w => if ds.length + es.length ≤ sizeLine then .ok (.next (put ρ i (.list (ds ++ es)))) w else .bad
  | .ok _ _ => .bad
  | .exc e w => .exc e w
  | .bad => .bad
@[simp] theorem kExt_ok (i : Nat) (ρ : Ev) (ds es : List D) (w : Wd) : kExt i ρ ds (.ok (.list es) w) = if ds.length + es.length ≤ sizeLine then .ok (.next (put ρ i (.list (ds ++ es)))) w else .bad := (rfl)
theorem sExt_ap (i : Nat) (d : Ev → MM D) (ρ : Ev) (ω : Wd) (ds : List D) (h : look ρ i = some (.list ds)) : sExt i d ρ ω = kExt i ρ ds (d ρ ω) := by
  unfold sExt
  rw [h]
  cases d ρ ω with
  | ok v w => cases v <;> rfl
  | _ => rfl
def ixB (w : Wd) : D → Res D
  | .int k => ofO (atI w k) w
  | _ => .bad
def kIxB : Res D → Res D
  | .ok k w => ixB w k
  | .exc e w => .exc e w
  | .bad => .bad
@[simp] theorem ixB_int (w : Wd) (k : Int) : ixB w (.int k) = ofO (atI w k) w := (rfl)
@[simp] theorem kIxB_ok (k : D) (w : Wd) : kIxB (.ok k w) = ixB w k := (rfl)
@[simp] theorem eIxB_ap (d : Ev → MM D) (ρ : Ev) (ω : Wd) : eIxB d ρ ω = kIxB (d ρ ω) := by
  unfold eIxB
  cases d ρ ω with
  | ok v w => cases v <;> rfl
  | _ => rfl
def kSetB3 (ρ : Ev) (v : D) (w : Wd) : Option Nat → Res Fl
  | some j => .ok (.next ρ) (w.set j v)
  | none => .bad
def kSetB2 (ρ : Ev) (v : D) : Res D → Res Fl
  | .ok (.int k) w => kSetB3 ρ v w (ixN w.length k)
  | .ok _ _ => .bad
  | .exc e w => .exc e w
  | .bad => .bad
def kSetB (dk : Ev → MM D) (ρ : Ev) : Res D → Res Fl
  | .ok v w => kSetB2 ρ v (dk ρ w)
  | .exc e w => .exc e w
  | .bad => .bad
@[simp] theorem kSetB3_some (ρ : Ev) (v : D) (w : Wd) (j : Nat) : kSetB3 ρ v w (some j) = .ok (.next ρ) (w.set j v) := (rfl)
@[simp] theorem kSetB2_ok (ρ : Ev) (v : D) (k : Int) (w : Wd) : kSetB2 ρ v (.ok (.int k) w) = kSetB3 ρ v w (ixN w.length k) := (rfl)
@[simp] theorem kSetB_ok (dk : Ev → MM D) (ρ : Ev) (v : D) (w : Wd) : kSetB dk ρ (.ok v w) = kSetB2 ρ v (dk ρ w) := (rfl)
@[simp] theorem sSetB_ap (dv dk : Ev → MM D) (ρ : Ev) (ω : Wd) : sSetB dv dk ρ ω = kSetB dk ρ (dv ρ ω) := by
  unfold sSetB
  cases dv ρ ω with
  | ok v w =>
    simp only [bind_ok, kSetB_ok]
    cases dk ρ w with
    | ok k w2 => cases k with
      | int k => simp only [bind_ok, kSetB2_ok]; cases ixN w2.length k <;> rfl
      | _ => rfl
    | _ => rfl
  | _ => rfl
/-! defs -/
@[simp] theorem endF_ret (d : D) (w : Wd) : endF (.ok (.ret d) w) = .ok d w := (rfl)
@[simp] theorem endF_next (ρ : Ev) (w : Wd) : endF (.ok (.next ρ) w) = .ok .none w := (rfl)
@[simp] theorem endF_exc (e : Ex) (w : Wd) : endF (.exc e w) = .exc e w := (rfl)
theorem runF_ap (nl n : Nat) (db : Ev → MM Fl) (ds : List D) (h : ds.length = n) : runF nl n db ds = endF (db (ds.map some ++ List.replicate (nl - n) none) []) := by unfold runF; rw [if_pos h]
theorem runS_ap (nl n : Nat) (db : Ev → MM Fl) (ds : List D) (ω : Wd) (h : ds.length + 1 = n) : runS nl n db ds ω = endF (db (none :: (ds.map some ++ List.replicate (nl - n) none)) ω) := by unfold runS; rw [if_pos h]
@[simp] theorem run0 (nl : Nat) (db : Ev → MM Fl) : runF nl 0 db [] = endF (db (List.replicate (nl - 0) none) []) := (rfl)
@[simp] theorem runS0 (nl : Nat) (db : Ev → MM Fl) (ω : Wd) : runS nl 1 db [] ω = endF (db (none :: List.replicate (nl - 1) none) ω) := (rfl)
@[simp] theorem run1 (nl : Nat) (db : Ev → MM Fl) (a0 : D) : runF nl 1 db [a0] = endF (db (some a0 :: List.replicate (nl - 1) none) []) := (rfl)
@[simp] theorem runS1 (nl : Nat) (db : Ev → MM Fl) (a0 : D) (ω : Wd) : runS nl 2 db [a0] ω = endF (db (none :: some a0 :: List.replicate (nl - 2) none) ω) := (rfl)
@[simp] theorem run2 (nl : Nat) (db : Ev → MM Fl) (a0 a1 : D) : runF nl 2 db [a0, a1] = endF (db (some a0 :: some a1 :: List.replicate (nl - 2) none) []) := (rfl)
@[simp] theorem runS2 (nl : Nat) (db : Ev → MM Fl) (a0 a1 : D) (ω : Wd) : runS nl 3 db [a0, a1] ω = endF (db (none :: some a0 :: some a1 :: List.replicate (nl - 3) none) ω) := (rfl)
@[simp] theorem run3 (nl : Nat) (db : Ev → MM Fl) (a0 a1 a2 : D) : runF nl 3 db [a0, a1, a2] = endF (db (some a0 :: some a1 :: some a2 :: List.replicate (nl - 3) none) []) := (rfl)
@[simp] theorem runS3 (nl : Nat) (db : Ev → MM Fl) (a0 a1 a2 : D) (ω : Wd) : runS nl 4 db [a0, a1, a2] ω = endF (db (none :: some a0 :: some a1 :: some a2 :: List.replicate (nl - 4) none) ω) := (rfl)
@[simp] theorem run4 (nl : Nat) (db : Ev → MM Fl) (a0 a1 a2 a3 : D) : runF nl 4 db [a0, a1, a2, a3] = endF (db (some a0 :: some a1 :: some a2 :: some a3 :: List.replicate (nl - 4) none) []) := (rfl)
@[simp] theorem runS4 (nl : Nat) (db : Ev → MM Fl) (a0 a1 a2 a3 : D) (ω : Wd) : runS nl 5 db [a0, a1, a2, a3] ω = endF (db (none :: some a0 :: some a1 :: some a2 :: some a3 :: List.replicate (nl - 5) none) ω) := (rfl)
@[simp] theorem run5 (nl : Nat) (db : Ev → MM Fl) (a0 a1 a2 a3 a4 : D) : runF nl 5 db [a0, a1, a2, a3, a4] = endF (db (some a0 :: some a1 :: some a2 :: some a3 :: some a4 :: List.replicate (nl - 5) none) []) := (rfl)
@[simp] theorem runS5 (nl : Nat) (db : Ev → MM Fl) (a0 a1 a2 a3 a4 : D) (ω : Wd) : runS nl 6 db [a0, a1, a2, a3, a4] ω = endF (db (none :: some a0 :: some a1 :: some a2 :: some a3 :: some a4 :: List.replicate (nl - 6) none) ω) := (rfl)
@[simp] theorem run6 (nl : Nat) (db : Ev → MM Fl) (a0 a1 a2 a3 a4 a5 : D) : runF nl 6 db [a0, a1, a2, a3, a4, a5] = endF (db (some a0 :: some a1 :: some a2 :: some a3 :: some a4 :: some a5 :: List.replicate (nl - 6) none) []) := (rfl)
@[simp] theorem runS6 (nl : Nat) (db : Ev → MM Fl) (a0 a1 a2 a3 a4 a5 : D) (ω : Wd) : runS nl 7 db [a0, a1, a2, a3, a4, a5] ω = endF (db (none :: some a0 :: some a1 :: some a2 :: some a3 :: some a4 :: some a5 :: List.replicate (nl - 7) none) ω) := (rfl)
/-! values -/
@[simp] theorem vAdd_int (a b : Int) : vAdd (.int a) (.int b) = some (.int (a + b)) := (rfl)
@[simp] theorem vAddI_int (a b : Int) : vAddI (.int a) (.int b) = some (.int (a + b)) := (rfl)
@[simp] theorem vSub_int (a b : Int) : vSub (.int a) (.int b) = some (.int (a - b)) := (rfl)
@[simp] theorem vNeg_int (a : Int) : vNeg (.int a) = some (.int (-a)) := (rfl)
theorem vMul_int {a b : Int} (h : mulOk a b) : vMul (.int a) (.int b) = some (.int (a * b)) := if_pos h
theorem vMulI_int {a b : Int} (h : mulOk a b) : vMulI (.int a) (.int b) = some (.int (a * b)) := if_pos h
theorem vFdiv_int {a b : Int} (h : divOk b) : vFdiv (.int a) (.int b) = some (.int (a.fdiv b)) := if_pos h
theorem vMod_int {a b : Int} (h : b ≠ 0) : vMod (.int a) (.int b) = some (.int (a.fmod b)) := if_neg h
theorem vPow_int {a b : Int} (h : powOk a b) : vPow (.int a) (.int b) = some (.int (a ^ b.toNat)) := if_pos h
@[simp] theorem cLt_int (a b : Int) : cLt (.int a) (.int b) = some (decide (a < b)) := (rfl)
@[simp] theorem cLe_int (a b : Int) : cLe (.int a) (.int b) = some (decide (a ≤ b)) := (rfl)
@[simp] theorem cGt_int (a b : Int) : cGt (.int a) (.int b) = some (decide (b < a)) := (rfl)
@[simp] theorem cGe_int (a b : Int) : cGe (.int a) (.int b) = some (decide (b ≤ a)) := (rfl)
@[simp] theorem shaped_int (a : Int) : SeqAt.shaped (.int a) = true := by simp [SeqAt.shaped, PyData.canLay0, PyData.depth]
@[simp] theorem shaped_bool (a : Bool) : SeqAt.shaped (.bool a) = true := by simp [SeqAt.shaped, PyData.canLay0, PyData.depth]
@[simp] theorem shaped_none : SeqAt.shaped .none = true := by simp [SeqAt.shaped, PyData.canLay0, PyData.depth]
@[simp] theorem vEq_int (a b : Int) : vEq (.int a) (.int b) = some (decide (a = b)) := by
  simp only [vEq, shaped_int, and_self, if_true, PyData.eqv]
  congr 1
@[simp] theorem vNe_int (a b : Int) : vNe (.int a) (.int b) = some (!decide (a = b)) := by
  simp only [vNe, shaped_int, and_self, if_true, PyData.eqv]
  congr 1
@[simp] theorem vIsN_int (a : Int) : vIsN (.int a) .none = some false := (rfl)
@[simp] theorem vIsN_none : vIsN .none .none = some true := (rfl)
@[simp] theorem vIsN_bool (a : Bool) : vIsN (.bool a) .none = some false := (rfl)
@[simp] theorem vIsN_list (a : List D) : vIsN (.list a) .none = some false := (rfl)
@[simp] theorem vIsN_tuple (a : List D) : vIsN (.tuple a) .none = some false := (rfl)
@[simp] theorem vNotN_int (a : Int) : vNotN (.int a) .none = some true := (rfl)
@[simp] theorem vNotN_none : vNotN .none .none = some false := (rfl)
@[simp] theorem vNotN_tuple (a : List D) : vNotN (.tuple a) .none = some true := (rfl)
@[simp] theorem vIsB_bool (a b : Bool) : vIsB (.bool a) (.bool b) = some (a == b) := (rfl)
@[simp] theorem vNotB_bool (a b : Bool) : vNotB (.bool a) (.bool b) = some (!(a == b)) := (rfl)
@[simp] theorem fAbs_int (i : Int) : fAbs [.int i] = some (.int (if i < 0 then -i else i)) := (rfl)
@[simp] theorem fInt_int (i : Int) : fInt [.int i] = some (.int i) := (rfl)
@[simp] theorem fInt_bool (b : Bool) : fInt [.bool b] = some (.int (if b then 1 else 0)) := (rfl)
@[simp] theorem fLen_list (xs : List D) : fLen [.list xs] = some (.int xs.length) := (rfl)
@[simp] theorem fLen_tuple (xs : List D) : fLen [.tuple xs] = some (.int xs.length) := (rfl)
@[simp] theorem fTuple_list (xs : List D) : fTuple [.list xs] = some (.tuple xs) := (rfl)
@[simp] theorem fTuple_tuple (xs : List D) : fTuple [.tuple xs] = some (.tuple xs) := (rfl)
@[simp] theorem fList_list (xs : List D) : fList [.list xs] = some (.list xs) := (rfl)
@[simp] theorem fList_tuple (xs : List D) : fList [.tuple xs] = some (.list xs) := (rfl)
@[simp] theorem fSum_ints (ns : List Int) : fSum [.list (ns.map .int)] = some (.int ns.sum) := by simp [fSum]
@[simp] theorem fSorted_ints (ns : List Int) : fSorted [.list (ns.map .int)] = some (.list ((sortI ns).map .int)) := by simp [fSorted]
theorem vIx_list {xs : List D} {j : Nat} {v : D} (h : xs[j]? = some v) : vIx (.list xs) (.int j) = some v := atI_nat h
theorem vIx_tuple {xs : List D} {j : Nat} {v : D} (h : xs[j]? = some v) : vIx (.tuple xs) (.int j) = some v := atI_nat h
end M

set_option Elab.async false
set_option linter.all false
set_option maxRecDepth 100000
set_option maxHeartbeats 4000000
namespace M
open PySem PySem.Spec PyProof.Rows L2
/-! ### loops, sizes -/
def loop {α : Type} (c : α → Bool) (f : α → α) (n : Nat) : α → α := Nat.rec (motive := fun _ => α → α) (fun a => a) (fun _ ih a => bif c a then ih (f a) else a) n
theorem loop_zero {α : Type} (c : α → Bool) (f : α → α) (a : α) : loop c f 0 a = a := rfl
theorem loop_succ {α : Type} (c : α → Bool) (f : α → α) (n : Nat) (a : α) : loop c f (n + 1) a = bif c a then loop c f n (f a) else a := rfl
/-- a while that is the loop of one's own -/
theorem while_loop {α : Type} {t : Ev → MM Bool} {db : Ev → MM Fl} {w : Wd} (emb : α → Ev) (P : α → Prop) (c : α → Bool) (f : α → α) (μ : α → Nat)
    (ht : ∀ a, P a → t (emb a) w = .ok (c a) w) (hb : ∀ a, P a → c a = true → db (emb a) w = .ok (.next (emb (f a))) w ∧ P (f a) ∧ μ (f a) < μ a) :
    ∀ n a, P a → μ a ≤ n → P (loop c f n a) ∧ c (loop c f n a) = false ∧ sWhile t db (emb a) w = .ok (.next (emb (loop c f n a))) w := by
  intro n
  induction n with
  | zero =>
    intro a p h
    have hc : c a = false := by
      cases hc : c a with
      | false => rfl
      | true => have := (hb a p hc).2.2; omega
    refine ⟨p, hc, ?_⟩
    rw [sWhile_ap, ht a p, hc, loop_zero]; rfl
  | succ n ih =>
    intro a p h
    rw [loop_succ]
    cases hc : c a with
    | false => refine ⟨p, hc, ?_⟩; rw [sWhile_ap, ht a p, hc]; rfl
    | true =>
      obtain ⟨h1, h2, h3⟩ := hb a p hc
      obtain ⟨i1, i2, i3⟩ := ih (f a) h2 (by omega)
      refine ⟨i1, i2, ?_⟩
      rw [sWhile_ap, ht a p, hc, kWh_t, h1, kWhB_next]
      exact i3
def Sm (a : Int) : Prop := a.natAbs < 2 ^ 250
theorem Sm.of {a : Int} (h : -(2 ^ 250) < a) (h2 : a < 2 ^ 250) : Sm a := by unfold Sm; omega
theorem log2_sm {n : Nat} (h : n < 2 ^ 250) : n.log2 < 250 := by
  by_cases z : n = 0
  · subst z; decide
  · exact (Nat.log2_lt z).2 h
theorem mulOk_sm {a b : Int} (ha : Sm a) (hb : Sm b) : mulOk a b := by
  have h1 := log2_sm ha
  have h2 := log2_sm hb
  unfold mulOk
  omega
theorem divOk_sm {a : Int} (h : a ≠ 0) (ha : Sm a) : divOk a := ⟨h, by have := log2_sm ha; omega⟩
theorem mulSm {a b : Int} (ha : -(2 ^ 250) < a ∧ a < 2 ^ 250) (hb : -(2 ^ 250) < b ∧ b < 2 ^ 250) : vMul (.int a) (.int b) = some (.int (a * b)) := vMul_int (mulOk_sm (Sm.of ha.1 ha.2) (Sm.of hb.1 hb.2))
theorem mulISm {a b : Int} (ha : -(2 ^ 250) < a ∧ a < 2 ^ 250) (hb : -(2 ^ 250) < b ∧ b < 2 ^ 250) : vMulI (.int a) (.int b) = some (.int (a * b)) := vMulI_int (mulOk_sm (Sm.of ha.1 ha.2) (Sm.of hb.1 hb.2))
theorem divSm {a b : Int} (hb : 0 < b) (h2 : b < 2 ^ 250) : vFdiv (.int a) (.int b) = some (.int (a / b)) := by
  rw [vFdiv_int (divOk_sm (by omega) (Sm.of (by omega) h2)), Int.fdiv_eq_ediv_of_nonneg _ (by omega)]
theorem modP {a b : Int} (hb : 0 < b) : vMod (.int a) (.int b) = some (.int (a % b)) := by
  rw [vMod_int (by omega), Int.fmod_eq_emod_of_nonneg _ (by omega)]
/-- a for that draws -/
theorem for_st {α : Type} {g : D → Ev → Option Ev} {db : Ev → MM Fl} (emb : α → Ev) (P : List D → α → Wd → Prop)
    (hb : ∀ d ds a w, P (d :: ds) a w → ∃ a' w' ρ1, g d (emb a) = some ρ1 ∧ db ρ1 w = .ok (.next (emb a')) w' ∧ P ds a' w') :
    ∀ ds a w, P ds a w → ∃ b w', P [] b w' ∧ sFor.go g db ds (emb a) w = .ok (.next (emb b)) w' := by
  intro ds
  induction ds with
  | nil => intro a w p; exact ⟨a, w, p, rfl⟩
  | cons d ds ih =>
    intro a w p
    obtain ⟨a', w', ρ1, h1, h2, h3⟩ := hb d ds a w p
    obtain ⟨b, w2, h4, h5⟩ := ih a' w' h3
    refine ⟨b, w2, h4, ?_⟩
    rw [go_cons, h1, ofO_some, kForG_ok, h2, kForB_next, h5]
theorem range1 {j : Int} (h : -(2 ^ 62) ≤ j ∧ j < 2 ^ 62) : iRange [.int j] = some (rangeL 0 1 j.toNat) := if_pos h
theorem range1N {k : Nat} (h : k < 2 ^ 60) : iRange [.int (k : Int)] = some (rangeL 0 1 k) := by rw [range1 (by omega)]; rfl
theorem range2 {i j : Int} (h : -(2 ^ 62) ≤ i ∧ i < 2 ^ 62) (h2 : -(2 ^ 62) ≤ j ∧ j < 2 ^ 62) : iRange [.int i, .int j] = some (rangeL i 1 (j - i).toNat) := if_pos ⟨h, h2⟩
/-! comprehensions -/
@[simp] theorem noX_ok2 {α : Type} (a : α) (w : Wd) : noX (Res.ok a w) = .ok a w := (rfl)
@[simp] theorem bYes_ap (ρ : Ev) (ω : Wd) : bYes ρ ω = .ok true ω := (rfl)
def kLc (g : D → Ev → Option Ev) (t : Ev → MM Bool) (d : Ev → MM D) (ρ0 : Ev) : Res (List D) → Res (List D)
  | .ok xs w => if xs.length ≤ sizeLine then lcGo g t d ρ0 xs w else .bad
  | .exc e w => .exc e w
  | .bad => .bad
@[simp] theorem lcD_ap (di : Ev → MM (List D)) (g : D → Ev → Option Ev) (t : Ev → MM Bool) (d : Ev → MM D) (vs : List Nat) (ρ : Ev) (ω : Wd) : lcD di g t d vs ρ ω = kLc g t d (wipeD ρ vs) (di ρ ω) := by unfold lcD; cases di ρ ω <;> rfl
theorem kLc_ok {g : D → Ev → Option Ev} {t : Ev → MM Bool} {d : Ev → MM D} {ρ0 : Ev} {xs : List D} {w : Wd} (h : xs.length ≤ sizeLine) : kLc g t d ρ0 (.ok xs w) = lcGo g t d ρ0 xs w := if_pos h
@[simp] theorem wipe_nil (ρ : Ev) : wipeD ρ [] = ρ := (rfl)
@[simp] theorem wipe_cons (ρ : Ev) (v : Nat) (vs : List Nat) : wipeD ρ (v :: vs) = (wipeD ρ vs).set v none := (rfl)
theorem lc_eval {α : Type} {g : D → Ev → Option Ev} {t : Ev → MM Bool} {d : Ev → MM D} {ρ0 : Ev} {w : Wd} (enc : α → D) (c : α → Bool) (f : α → D) :
    ∀ xs : List α, (∀ x ∈ xs, ∃ ρ1, g (enc x) ρ0 = some ρ1 ∧ t ρ1 w = .ok (c x) w ∧ (c x = true → d ρ1 w = .ok (f x) w)) → lcGo g t d ρ0 (xs.map enc) w = .ok ((xs.filter c).map f) w := by
  intro xs
  induction xs with
  | nil => intro _; rfl
  | cons x xs ih =>
    intro h
    obtain ⟨ρ1, h1, h2, h3⟩ := h x (by simp)
    have ih := ih fun y hy => h y (by simp [hy])
    rw [List.map_cons, lcGo, h1, ofO_some, bind_ok, h2, noX_ok, bind_ok]
    cases hc : c x with
    | true => simp [h3 hc, ih, hc]
    | false => simp [ih, hc]
theorem lc_map {α : Type} {g : D → Ev → Option Ev} {d : Ev → MM D} {ρ0 : Ev} {w : Wd} (enc : α → D) (f : α → D) (xs : List α) (h : ∀ x ∈ xs, ∃ ρ1, g (enc x) ρ0 = some ρ1 ∧ d ρ1 w = .ok (f x) w) : lcGo g bYes d ρ0 (xs.map enc) w = .ok (xs.map f) w := by
  have := lc_eval (w := w) (g := g) (t := bYes) (d := d) (ρ0 := ρ0) enc (fun _ => true) f xs fun x hx => by
    obtain ⟨ρ1, h1, h2⟩ := h x hx
    exact ⟨ρ1, h1, rfl, fun _ => h2⟩
  rwa [List.filter_eq_self.2 (by simp)] at this
def rngI (lo : Int) : Nat → List Int
  | 0 => []
  | n + 1 => lo :: rngI (lo + 1) n
theorem rangeL_eq : ∀ (n : Nat) (lo : Int), rangeL lo 1 n = (rngI lo n).map .int
  | 0, _ => rfl
  | n + 1, lo => by simp [rangeL, rngI, rangeL_eq n]
theorem rngI_len : ∀ (n : Nat) (lo : Int), (rngI lo n).length = n
  | 0, _ => rfl
  | n + 1, lo => by simp [rngI, rngI_len n]
theorem mem_rngI : ∀ (n : Nat) (lo x : Int), x ∈ rngI lo n ↔ lo ≤ x ∧ x < lo + n
  | 0, lo, x => by simp only [rngI, List.not_mem_nil, false_iff]; omega
  | n + 1, lo, x => by simp only [rngI, List.mem_cons, mem_rngI n]; omega
/-! equality of data -/
def Fl2 (n : Nat) (d : D) : Prop := PyData.canLay0 d = true ∧ PyData.depth d ≤ n
theorem fl_int (n : Nat) (i : Int) : Fl2 n (.int i) := by simp [Fl2, PyData.canLay0, PyData.depth]
theorem fl_bool (n : Nat) (i : Bool) : Fl2 n (.bool i) := by simp [Fl2, PyData.canLay0, PyData.depth]
theorem fl_none (n : Nat) : Fl2 n .none := by simp [Fl2, PyData.canLay0, PyData.depth]
theorem fl_all {n : Nat} : ∀ {xs : List D}, (∀ x ∈ xs, Fl2 n x) → PyData.canLayAll0 xs = true ∧ PyData.depthAll xs ≤ n
  | [], _ => by simp [PyData.canLayAll0, PyData.depthAll]
  | x :: xs, h => by
    have h1 := h x (by simp)
    have h2 := fl_all (xs := xs) fun y hy => h y (by simp [hy])
    simp only [PyData.canLayAll0, PyData.depthAll, Bool.and_eq_true]
    exact ⟨⟨h1.1, h2.1⟩, Nat.max_le.2 ⟨h1.2, h2.2⟩⟩
theorem fl_list {n : Nat} {xs : List D} (h : ∀ x ∈ xs, Fl2 n x) : Fl2 (n + 1) (.list xs) := by
  have := fl_all h
  simp only [Fl2, PyData.canLay0, PyData.depth]
  exact ⟨this.1, by omega⟩
theorem fl_tuple {n : Nat} {xs : List D} (h : ∀ x ∈ xs, Fl2 n x) : Fl2 (n + 1) (.tuple xs) := by
  have := fl_all h
  simp only [Fl2, PyData.canLay0, PyData.depth]
  exact ⟨this.1, by omega⟩
theorem fl_nil {n : Nat} : ∀ x ∈ ([] : List D), Fl2 n x := fun _ h => nomatch h
theorem fl_cons {n : Nat} {d : D} {ds : List D} (h : Fl2 n d) (h2 : ∀ x ∈ ds, Fl2 n x) : ∀ x ∈ d :: ds, Fl2 n x := fun x hx => by
  rcases List.mem_cons.1 hx with rfl | hx
  · exact h
  · exact h2 x hx
theorem fl_map {α : Type} {n : Nat} {f : α → D} {xs : List α} (h : ∀ x, Fl2 n (f x)) : ∀ x ∈ xs.map f, Fl2 n x := fun x hx => by
  obtain ⟨a, _, rfl⟩ := List.mem_map.1 hx
  exact h a
theorem shaped_of {n : Nat} {d : D} (h : Fl2 n d) (hn : n ≤ 64) : SeqAt.shaped d = true := by
  simp [SeqAt.shaped, h.1]; exact Nat.le_trans h.2 hn
theorem eqvAll_map {α : Type} [DecidableEq α] {f : α → D} (h : ∀ a b, PyData.eqv (f a) (f b) = decide (a = b)) : ∀ xs ys : List α, PyData.eqvAll (xs.map f) (ys.map f) = decide (xs = ys)
  | [], [] => by simp [PyData.eqvAll]
  | x :: xs, [] => by simp [PyData.eqvAll]
  | [], y :: ys => by simp [PyData.eqvAll]
  | x :: xs, y :: ys => by simp [PyData.eqvAll, h, eqvAll_map h xs ys]
theorem vEq_of {a b : D} {n : Nat} (ha : Fl2 n a) (hb : Fl2 n b) (hn : n ≤ 64) : vEq a b = some (PyData.eqv a b) := by simp [vEq, shaped_of ha hn, shaped_of hb hn]
theorem vNe_of {a b : D} {n : Nat} (ha : Fl2 n a) (hb : Fl2 n b) (hn : n ≤ 64) : vNe a b = some (!PyData.eqv a b) := by simp [vNe, shaped_of ha hn, shaped_of hb hn]
theorem eqv_int (a b : Int) : PyData.eqv (.int a) (.int b) = decide (a = b) := by simp only [PyData.eqv]; congr 1
theorem eqv_bool (a b : Bool) : PyData.eqv (.bool a) (.bool b) = decide (a = b) := by cases a <;> cases b <;> rfl
theorem fl_ints (xs : List Int) : Fl2 1 (.list (xs.map .int)) := fl_list (fl_map fun i => fl_int 0 i)
theorem eqv_ints (xs ys : List Int) : PyData.eqv (.list (xs.map .int)) (.list (ys.map .int)) = decide (xs = ys) := by
  simp only [PyData.eqv]; exact eqvAll_map eqv_int xs ys
@[simp] theorem vEq_ints (xs ys : List Int) : vEq (.list (xs.map .int)) (.list (ys.map .int)) = some (decide (xs = ys)) := by rw [vEq_of (fl_ints xs) (fl_ints ys) (by omega), eqv_ints]
@[simp] theorem vNe_ints (xs ys : List Int) : vNe (.list (xs.map .int)) (.list (ys.map .int)) = some (!decide (xs = ys)) := by rw [vNe_of (fl_ints xs) (fl_ints ys) (by omega), eqv_ints]
/-- pairs of numbers -/
def encQ (q : Nat × Nat) : D := .tuple [.int (q.1 : Int), .int (q.2 : Int)]
theorem fl_encQ (q : Nat × Nat) : Fl2 1 (encQ q) := fl_tuple (fl_cons (fl_int 0 _) (fl_cons (fl_int 0 _) fl_nil))
theorem eqv_encQ (a b : Nat × Nat) : PyData.eqv (encQ a) (encQ b) = decide (a = b) := by
  obtain ⟨a1, a2⟩ := a
  obtain ⟨b1, b2⟩ := b
  simp [encQ, PyData.eqv, PyData.eqvAll]
  by_cases h1 : a1 = b1 <;> by_cases h2 : a2 = b2 <;> simp [h1, h2] <;> omega
theorem vEq_encQ (xs ys : List (Nat × Nat)) : vEq (.tuple (xs.map encQ)) (.tuple (ys.map encQ)) = some (decide (xs = ys)) := by
  rw [vEq_of (fl_tuple (fl_map fl_encQ)) (fl_tuple (fl_map fl_encQ)) (by omega)]
  simp only [PyData.eqv]
  rw [eqvAll_map eqv_encQ]
theorem fRep_eq {d1 d2 : Ev → MM D} {ρ : Ev} {ω : Wd} {xs : List D} {k : Int} (h1 : d1 ρ ω = .ok (.list xs) ω) (h2 : d2 ρ ω = .ok (.int k) ω) (h0 : 0 ≤ k) (hk : k < 2 ^ 62) (h : xs.length * k.toNat ≤ sizeLine) : fRep d1 d2 ρ ω = .ok (List.replicate k.toNat xs).flatten ω := by
  unfold fRep
  rw [h1, bind_ok, h2, bind_ok]
  exact if_pos ⟨by omega, by omega, h⟩
/-! places -/
@[simp] theorem vIx_t0 (a0 : D) (r : List D) : vIx (.tuple (a0 :: r)) (.int 0) = some a0 := vIx_tuple (j := 0) rfl
@[simp] theorem vIx_l0 (a0 : D) (r : List D) : vIx (.list (a0 :: r)) (.int 0) = some a0 := vIx_list (j := 0) rfl
@[simp] theorem vIx_t1 (a0 a1 : D) (r : List D) : vIx (.tuple (a0 :: a1 :: r)) (.int 1) = some a1 := vIx_tuple (j := 1) rfl
@[simp] theorem vIx_l1 (a0 a1 : D) (r : List D) : vIx (.list (a0 :: a1 :: r)) (.int 1) = some a1 := vIx_list (j := 1) rfl
@[simp] theorem vIx_t2 (a0 a1 a2 : D) (r : List D) : vIx (.tuple (a0 :: a1 :: a2 :: r)) (.int 2) = some a2 := vIx_tuple (j := 2) rfl
@[simp] theorem vIx_l2 (a0 a1 a2 : D) (r : List D) : vIx (.list (a0 :: a1 :: a2 :: r)) (.int 2) = some a2 := vIx_list (j := 2) rfl
@[simp] theorem vIx_t3 (a0 a1 a2 a3 : D) (r : List D) : vIx (.tuple (a0 :: a1 :: a2 :: a3 :: r)) (.int 3) = some a3 := vIx_tuple (j := 3) rfl
@[simp] theorem vIx_l3 (a0 a1 a2 a3 : D) (r : List D) : vIx (.list (a0 :: a1 :: a2 :: a3 :: r)) (.int 3) = some a3 := vIx_list (j := 3) rfl
@[simp] theorem vIx_t4 (a0 a1 a2 a3 a4 : D) (r : List D) : vIx (.tuple (a0 :: a1 :: a2 :: a3 :: a4 :: r)) (.int 4) = some a4 := vIx_tuple (j := 4) rfl
@[simp] theorem vIx_l4 (a0 a1 a2 a3 a4 : D) (r : List D) : vIx (.list (a0 :: a1 :: a2 :: a3 :: a4 :: r)) (.int 4) = some a4 := vIx_list (j := 4) rfl
@[simp] theorem vIx_t5 (a0 a1 a2 a3 a4 a5 : D) (r : List D) : vIx (.tuple (a0 :: a1 :: a2 :: a3 :: a4 :: a5 :: r)) (.int 5) = some a5 := vIx_tuple (j := 5) rfl
@[simp] theorem vIx_l5 (a0 a1 a2 a3 a4 a5 : D) (r : List D) : vIx (.list (a0 :: a1 :: a2 :: a3 :: a4 :: a5 :: r)) (.int 5) = some a5 := vIx_list (j := 5) rfl
/-! ### what a law draws -/
noncomputable def dDraw : List D → MM D := runS 5 2
 ((sSeq (sIf (bBin vEq (eIxB (eC (.int 3))) (eC (.int 0))) (sSeq (sIf (bBin cGe (eIxB (eC (.int 1))) (eArgs fLen (aCons (eIxB (eC (.int 0))) aNil))) (sRet (eC (.int 0))) sNext)
 (sSeq (sAsg (eBin vIx (eIxB (eC (.int 0))) (eIxB (eC (.int 1)))) (gN 2))
 (sSeq (sIf (bBin cLt (eVar 2) (eC (.int 0))) (sAsg (eBin vSub (eUn vNeg (eC (.int 1))) (eVar 2)) (gN 2)) sNext)
 (sSeq (sSetB (eBin vAdd (eIxB (eC (.int 1))) (eC (.int 1))) (eC (.int 1)))
 (sSeq (sSetB (eVar 2) (eC (.int 2)))
 (sSeq (sSetB (eOfB (bBin cGe (eVar 2) (eBin vPow (eC (.int 10)) (eC (.int 18))))) (eC (.int 4)))
 (sSeq (sSetB (eC (.int 6)) (eC (.int 3)))
 (sIf (bTru (eIxB (eC (.int 4)))) (sSetB (eC (.int 60)) (eC (.int 3))) sNext)))))))) sNext)
 (sSeq (sSetB (eBin vSub (eIxB (eC (.int 3))) (eC (.int 1))) (eC (.int 3)))
 (sSeq (sIf (bTru (eIxB (eC (.int 4)))) (sSeq (sAsg (eBin vMod (eArgs fInt (aCons (eIxB (eC (.int 2))) aNil)) (eVar 1)) (gN 3))
 (sSeq (sSetB (eBin vFdiv (eIxB (eC (.int 2))) (eVar 1)) (eC (.int 2)))
 (sSeq (sIf (bBin vEq (eIxB (eC (.int 2))) (eC (.int 0))) (sSetB (eC (.int 0)) (eC (.int 3))) sNext)
 (sRet (eVar 3))))) sNext)
 (sSeq (sAsg (eBin vMod (eArgs fInt (aCons (eBin vAdd (eBin vAdd (eBin vMul (eIxB (eC (.int 2))) (eC (.int 48271))) (eBin vMul (eIxB (eC (.int 3))) (eC (.int 69621)))) (eC (.int 7))) aNil)) (eC (.int 2147483647))) (gN 4))
 (sSeq (sAsg (eBin vMod (eArgs fInt (aCons (eBin vAdd (eBin vAdd (eBin vMul (eVar 4) (eVar 4)) (eBin vMul (eIxB (eC (.int 2))) (eC (.int 31)))) (eIxB (eC (.int 3)))) aNil)) (eC (.int 1000003))) (gN 4))
 (sRet (eBin vMod (eArgs fInt (aCons (eVar 4) aNil)) (eVar 1)))))))))
def stO (ns : List Int) (i c k : Int) (b : Bool) : Wd := [.list (ns.map .int), .int i, .int c, .int k, .bool b, .int 500]
def StOk (ω : Wd) : Prop := ∃ ns i c k b, ω = stO ns i c k b ∧ 0 ≤ i ∧ 0 ≤ c ∧ 0 ≤ k ∧ k ≤ 60 ∧ (b = false → c < 10 ^ 18)
theorem stOk0 (ns : List Int) : StOk (ω0 ns) := ⟨ns, 0, 0, 0, false, rfl, by omega, by omega, by omega, by omega, by omega⟩
@[simp] theorem st0 (ns i c k b) : atI (stO ns i c k b) 0 = some (.list (ns.map .int)) := (rfl)
@[simp] theorem st1 (ns i c k b) : atI (stO ns i c k b) 1 = some (.int i) := (rfl)
@[simp] theorem st2 (ns i c k b) : atI (stO ns i c k b) 2 = some (.int c) := (rfl)
@[simp] theorem st3 (ns i c k b) : atI (stO ns i c k b) 3 = some (.int k) := (rfl)
@[simp] theorem st4 (ns i c k b) : atI (stO ns i c k b) 4 = some (.bool b) := (rfl)
@[simp] theorem stx1 (ns i c k b) : ixN (stO ns i c k b).length 1 = some 1 := (rfl)
@[simp] theorem stx2 (ns i c k b) : ixN (stO ns i c k b).length 2 = some 2 := (rfl)
@[simp] theorem stx3 (ns i c k b) : ixN (stO ns i c k b).length 3 = some 3 := (rfl)
@[simp] theorem stx4 (ns i c k b) : ixN (stO ns i c k b).length 4 = some 4 := (rfl)
@[simp] theorem sts1 (ns i c k b v) : (stO ns i c k b).set 1 (.int v) = stO ns v c k b := (rfl)
@[simp] theorem sts2 (ns i c k b v) : (stO ns i c k b).set 2 (.int v) = stO ns i v k b := (rfl)
@[simp] theorem sts3 (ns i c k b v) : (stO ns i c k b).set 3 (.int v) = stO ns i c v b := (rfl)
@[simp] theorem sts4 (ns i c k b v) : (stO ns i c k b).set 4 (.bool v) = stO ns i c k v := (rfl)
theorem pow18 : vPow (.int 10) (.int 18) = some (.int 1000000000000000000) := by rw [vPow_int (by decide)]; rfl
/-- the second half of it -/
theorem draw2 {ns : List Int} {i c k : Int} {b : Bool} {m : Int} (o : Option D) (hi : 0 ≤ i) (hc : 0 ≤ c) (hk : 1 ≤ k) (hk2 : k ≤ 60) (hb : b = false → c < 10 ^ 18) (hm : 0 < m) (hm2 : m < 2 ^ 250) :
    ∃ r ω', endF ((sSeq (sSetB (eBin vSub (eIxB (eC (.int 3))) (eC (.int 1))) (eC (.int 3)))
 (sSeq (sIf (bTru (eIxB (eC (.int 4)))) (sSeq (sAsg (eBin vMod (eArgs fInt (aCons (eIxB (eC (.int 2))) aNil)) (eVar 1)) (gN 3))
 (sSeq (sSetB (eBin vFdiv (eIxB (eC (.int 2))) (eVar 1)) (eC (.int 2)))
 (sSeq (sIf (bBin vEq (eIxB (eC (.int 2))) (eC (.int 0))) (sSetB (eC (.int 0)) (eC (.int 3))) sNext)
 (sRet (eVar 3))))) sNext)
 (sSeq (sAsg (eBin vMod (eArgs fInt (aCons (eBin vAdd (eBin vAdd (eBin vMul (eIxB (eC (.int 2))) (eC (.int 48271))) (eBin vMul (eIxB (eC (.int 3))) (eC (.int 69621)))) (eC (.int 7))) aNil)) (eC (.int 2147483647))) (gN 4))
 (sSeq (sAsg (eBin vMod (eArgs fInt (aCons (eBin vAdd (eBin vAdd (eBin vMul (eVar 4) (eVar 4)) (eBin vMul (eIxB (eC (.int 2))) (eC (.int 31)))) (eIxB (eC (.int 3)))) aNil)) (eC (.int 1000003))) (gN 4))
 (sRet (eBin vMod (eArgs fInt (aCons (eVar 4) aNil)) (eVar 1))))))) [none, some (.int m), o, none, none] (stO ns i c k b)) = .ok (.int r) ω' ∧ 0 ≤ r ∧ r < m ∧ StOk ω' := by
  cases b with
  | true =>
    refine ⟨c % m, ?_⟩
    have q : 0 ≤ c / m := Int.ediv_nonneg hc (by omega)
    by_cases z : c / m = 0
    · refine ⟨stO ns i 0 0 true, ?_, Int.emod_nonneg _ (by omega), Int.emod_lt_of_pos _ hm, ⟨ns, i, 0, 0, true, rfl, hi, by omega, by omega, by omega, by simp⟩⟩
      simp [modP hm, divSm hm hm2, z]
    · refine ⟨stO ns i (c / m) (k - 1) true, ?_, Int.emod_nonneg _ (by omega), Int.emod_lt_of_pos _ hm, ⟨ns, i, c / m, k - 1, true, rfl, hi, q, by omega, by omega, by simp⟩⟩
      simp [modP hm, divSm hm hm2, z]
  | false =>
    have hc2 := hb rfl
    have m1 : 0 ≤ (c * 48271 + (k - 1) * 69621 + 7) % 2147483647 := Int.emod_nonneg _ (by omega)
    have m2 : (c * 48271 + (k - 1) * 69621 + 7) % 2147483647 < 2147483647 := Int.emod_lt_of_pos _ (by omega)
    generalize hx : (c * 48271 + (k - 1) * 69621 + 7) % 2147483647 = x at m1 m2
    refine ⟨(x * x + c * 31 + (k - 1)) % 1000003 % m, stO ns i c (k - 1) false, ?_, Int.emod_nonneg _ (by omega), Int.emod_lt_of_pos _ hm, ⟨ns, i, c, k - 1, false, rfl, hi, hc, by omega, by omega, hb⟩⟩
    simp [modP hm, modP (b := 2147483647) (by omega), modP (b := 1000003) (by omega), mulSm (a := c) (b := 48271) (by omega) (by omega), mulSm (a := k - 1) (b := 69621) (by omega) (by omega), mulSm (a := c) (b := 31) (by omega) (by omega), hx, mulSm (a := x) (b := x) (by omega) (by omega)]
theorem draw_ok {ω : Wd} (h : StOk ω) {m : Int} (hm : 0 < m) (hm2 : m < 2 ^ 250) : ∃ r ω', dDraw [.int m] ω = .ok (.int r) ω' ∧ 0 ≤ r ∧ r < m ∧ StOk ω' := by
  obtain ⟨ns, i, c, k, b, rfl, hi, hc, hk, hk2, hb⟩ := h
  unfold dDraw
  rw [runS1]
  rw [sSeq_ap, sIf_ap]
  simp only [bBin_ap, eIxB_ap, eC_ap, kIxB_ok, ixB_int, st3, ofO_some, kBin_ok, kBin2_ok, vEq_int]
  by_cases z : k = 0
  · subst z
    simp only [decide_true, kIf_t]
    by_cases hl : (ns.length : Int) ≤ i
    · exact ⟨0, stO ns i c 0 b, by simp [hl], by omega, hm, ⟨ns, i, c, 0, b, rfl, hi, hc, by omega, by omega, hb⟩⟩
    · have hi2 : i.toNat < ns.length := by omega
      have hcell : vIx (.list (ns.map .int)) (.int i) = some (.int (ns[i.toNat])) := by
        have := vIx_list (xs := ns.map PyData.int) (j := i.toNat) (v := .int (ns[i.toNat])) (by simp [hi2])
        rwa [Int.toNat_of_nonneg hi] at this
      generalize hx : ns[i.toNat] = x at hcell
      by_cases hneg : x < 0
      · by_cases hbig : (1000000000000000000 : Int) ≤ -1 - x
        · obtain ⟨r, ω', h1, h2⟩ := draw2 (ns := ns) (i := i + 1) (c := -1 - x) (k := 60) (b := true) (some (.int (-1 - x))) (by omega) (by omega) (by omega) (by omega) (by simp) hm hm2
          refine ⟨r, ω', ?_, h2⟩
          rw [← h1]
          simp [hl, hcell, hneg, pow18, hbig]
        · obtain ⟨r, ω', h1, h2⟩ := draw2 (ns := ns) (i := i + 1) (c := -1 - x) (k := 6) (b := false) (some (.int (-1 - x))) (by omega) (by omega) (by omega) (by omega) (by omega) hm hm2
          refine ⟨r, ω', ?_, h2⟩
          rw [← h1]
          simp [hl, hcell, hneg, pow18, hbig]
      · by_cases hbig : (1000000000000000000 : Int) ≤ x
        · obtain ⟨r, ω', h1, h2⟩ := draw2 (ns := ns) (i := i + 1) (c := x) (k := 60) (b := true) (some (.int x)) (by omega) (by omega) (by omega) (by omega) (by simp) hm hm2
          refine ⟨r, ω', ?_, h2⟩
          rw [← h1]
          simp [hl, hcell, hneg, pow18, hbig]
        · obtain ⟨r, ω', h1, h2⟩ := draw2 (ns := ns) (i := i + 1) (c := x) (k := 6) (b := false) (some (.int x)) (by omega) (by omega) (by omega) (by omega) (by omega) hm hm2
          refine ⟨r, ω', ?_, h2⟩
          rw [← h1]
          simp [hl, hcell, hneg, pow18, hbig]
  · simp only [z, decide_false, kIf_f, sNext_ap, kSeq_next]
    exact draw2 none hi hc (by omega) hk2 hb hm hm2
end M

set_option Elab.async false
set_option linter.all false
set_option maxRecDepth 100000
set_option maxHeartbeats 4000000
namespace M
open PySem PySem.Spec PyProof.Rows L2
/-! ### sizes by themselves -/
class Szc (x : Int) (n : outParam Nat) : Prop where
  h : x.natAbs < 2 ^ n
theorem two_pow_le {m n : Nat} (h : m ≤ n) : 2 ^ m ≤ 2 ^ n := Nat.pow_le_pow_right (by omega) h
instance sz_mul {a b : Int} {m n : Nat} [ha : Szc a m] [hb : Szc b n] : Szc (a * b) (m + n) := ⟨by
  rw [Int.natAbs_mul, Nat.pow_add]
  have h1 := ha.h
  have h2 := hb.h
  exact Nat.mul_lt_mul'' h1 h2⟩
theorem two_pow_add {m n : Nat} : 2 ^ m + 2 ^ n ≤ 2 ^ (max m n + 1) := by
  have h1 := two_pow_le (Nat.le_max_left m n)
  have h2 := two_pow_le (Nat.le_max_right m n)
  rw [Nat.pow_succ]; omega
instance sz_add {a b : Int} {m n : Nat} [ha : Szc a m] [hb : Szc b n] : Szc (a + b) (max m n + 1) := ⟨by
  have h1 := ha.h
  have h2 := hb.h
  have := Int.natAbs_add_le a b
  have := @two_pow_add m n
  omega⟩
instance sz_neg {a : Int} {m : Nat} [ha : Szc a m] : Szc (-a) m := ⟨by rw [Int.natAbs_neg]; exact ha.h⟩
instance sz_sub {a b : Int} {m n : Nat} [ha : Szc a m] [hb : Szc b n] : Szc (a - b) (max m n + 1) := ⟨by
  have h1 := ha.h
  have h2 := hb.h
  have := Int.natAbs_sub_le a b
  have := @two_pow_add m n
  omega⟩
instance : Szc 0 0 := ⟨by decide⟩
instance : Szc 1 1 := ⟨by decide⟩
instance : Szc 2 2 := ⟨by decide⟩
instance : Szc 3 2 := ⟨by decide⟩
instance : Szc 4 3 := ⟨by decide⟩
instance : Szc 5 3 := ⟨by decide⟩
instance : Szc 6 3 := ⟨by decide⟩
instance : Szc 7 3 := ⟨by decide⟩
instance : Szc 8 4 := ⟨by decide⟩
instance : Szc 9 4 := ⟨by decide⟩
instance : Szc 10 4 := ⟨by decide⟩
instance : Szc 11 4 := ⟨by decide⟩
instance : Szc 12 4 := ⟨by decide⟩
instance : Szc 13 4 := ⟨by decide⟩
instance : Szc 14 4 := ⟨by decide⟩
instance : Szc 15 4 := ⟨by decide⟩
instance : Szc 16 5 := ⟨by decide⟩
instance : Szc 17 5 := ⟨by decide⟩
instance : Szc 18 5 := ⟨by decide⟩
instance : Szc 19 5 := ⟨by decide⟩
instance : Szc 20 5 := ⟨by decide⟩
instance : Szc 21 5 := ⟨by decide⟩
instance : Szc 22 5 := ⟨by decide⟩
instance : Szc 23 5 := ⟨by decide⟩
instance : Szc 24 5 := ⟨by decide⟩
instance : Szc 25 5 := ⟨by decide⟩
instance : Szc 26 5 := ⟨by decide⟩
instance : Szc 27 5 := ⟨by decide⟩
instance : Szc 28 5 := ⟨by decide⟩
instance : Szc 29 5 := ⟨by decide⟩
instance : Szc 30 5 := ⟨by decide⟩
instance : Szc 31 5 := ⟨by decide⟩
instance : Szc 32 6 := ⟨by decide⟩
instance : Szc 33 6 := ⟨by decide⟩
instance : Szc 34 6 := ⟨by decide⟩
instance : Szc 35 6 := ⟨by decide⟩
instance : Szc 36 6 := ⟨by decide⟩
instance : Szc 37 6 := ⟨by decide⟩
instance : Szc 38 6 := ⟨by decide⟩
instance : Szc 39 6 := ⟨by decide⟩
instance : Szc 40 6 := ⟨by decide⟩
instance : Szc 41 6 := ⟨by decide⟩
instance : Szc 42 6 := ⟨by decide⟩
instance : Szc 43 6 := ⟨by decide⟩
instance : Szc 44 6 := ⟨by decide⟩
instance : Szc 45 6 := ⟨by decide⟩
instance : Szc 46 6 := ⟨by decide⟩
instance : Szc 47 6 := ⟨by decide⟩
instance : Szc 48 6 := ⟨by decide⟩
instance : Szc 49 6 := ⟨by decide⟩
instance : Szc 50 6 := ⟨by decide⟩
instance : Szc 51 6 := ⟨by decide⟩
instance : Szc 52 6 := ⟨by decide⟩
instance : Szc 53 6 := ⟨by decide⟩
instance : Szc 54 6 := ⟨by decide⟩
instance : Szc 55 6 := ⟨by decide⟩
instance : Szc 56 6 := ⟨by decide⟩
instance : Szc 57 6 := ⟨by decide⟩
instance : Szc 58 6 := ⟨by decide⟩
instance : Szc 59 6 := ⟨by decide⟩
instance : Szc 60 6 := ⟨by decide⟩
instance : Szc 61 6 := ⟨by decide⟩
instance : Szc 62 6 := ⟨by decide⟩
instance : Szc 63 6 := ⟨by decide⟩
instance : Szc 64 7 := ⟨by decide⟩
instance : Szc 99 7 := ⟨by decide⟩
instance : Szc 100 7 := ⟨by decide⟩
instance : Szc 120 7 := ⟨by decide⟩
instance : Szc 121 7 := ⟨by decide⟩
instance : Szc 128 8 := ⟨by decide⟩
instance : Szc 200 8 := ⟨by decide⟩
instance : Szc 256 9 := ⟨by decide⟩
instance : Szc 400 9 := ⟨by decide⟩
instance : Szc 500 9 := ⟨by decide⟩
instance : Szc 512 10 := ⟨by decide⟩
instance : Szc 700 10 := ⟨by decide⟩
instance : Szc 1000 10 := ⟨by decide⟩
instance : Szc 1024 11 := ⟨by decide⟩
instance : Szc 10000 14 := ⟨by decide⟩
instance : Szc 100000 17 := ⟨by decide⟩
instance : Szc 1000000 20 := ⟨by decide⟩
instance : Szc 1000000000000 40 := ⟨by decide⟩
instance sz_div {a b : Int} {m : Nat} [ha : Szc a m] : Szc (a / b) m := ⟨Nat.lt_of_le_of_lt (Int.natAbs_ediv_le_natAbs a b) ha.h⟩
instance sz_mod {a b : Int} {m n : Nat} [ha : Szc a m] [hb : Szc b n] : Szc (a % b) (max m n) := ⟨by
  have h1 := ha.h
  have h2 := hb.h
  by_cases z : b = 0
  · subst z
    rw [Int.emod_zero]
    exact Nat.lt_of_lt_of_le h1 (two_pow_le (Nat.le_max_left m n))
  · have e1 := Int.emod_nonneg a z
    have e2 := Int.emod_lt a z
    have e3 := two_pow_le (Nat.le_max_right m n)
    omega⟩
theorem log2_lt_of {x n : Nat} (h : x < 2 ^ n) : x.log2 ≤ n := by
  by_cases z : x = 0
  · subst z; simp
  · exact Nat.le_of_lt ((Nat.log2_lt z).2 h)
theorem mulOk_c {a b : Int} {m n : Nat} [ha : Szc a m] [hb : Szc b n] (h : m + n < 1000000) : mulOk a b := by
  have h1 := log2_lt_of ha.h
  have h2 := log2_lt_of hb.h
  unfold mulOk
  omega
@[simp] theorem vMul_c {a b : Int} {m n : Nat} [ha : Szc a m] [hb : Szc b n] (h : m + n < 1000000) : vMul (.int a) (.int b) = some (.int (a * b)) := vMul_int (mulOk_c h)
@[simp] theorem vMulI_c {a b : Int} {m n : Nat} [ha : Szc a m] [hb : Szc b n] (h : m + n < 1000000) : vMulI (.int a) (.int b) = some (.int (a * b)) := vMulI_int (mulOk_c h)
theorem vFdiv_c {a b : Int} {n : Nat} [hb : Szc b n] (h : n < 9000) (h0 : b ≠ 0) : vFdiv (.int a) (.int b) = some (.int (a.fdiv b)) := vFdiv_int ⟨h0, by have := log2_lt_of hb.h; omega⟩
theorem sz_of {x : Int} {n : Nat} (h : -(2 ^ n : Nat) < x) (h2 : x < (2 ^ n : Nat)) : Szc x n := ⟨by omega⟩
theorem tst (a b c : Int) (ha : 0 ≤ a ∧ a < 121) (hb : 0 ≤ b ∧ b < 121) : vMul (.int (a * a - 4 * b)) (.int (a * 20 - 7 * b * b)) = some (.int ((a * a - 4 * b) * (a * 20 - 7 * b * b))) := by
  haveI : Szc a 7 := sz_of (by omega) (by omega)
  haveI : Szc b 7 := sz_of (by omega) (by omega)
  simp
end M

set_option Elab.async false
set_option linter.all false
set_option maxRecDepth 100000
set_option maxHeartbeats 4000000
namespace M
open PySem PySem.Spec PyProof.Rows L2
/-! ### more equalities -/
theorem vEq_ti (xs ys : List Int) : vEq (.tuple (xs.map .int)) (.tuple (ys.map .int)) = some (decide (xs = ys)) := by
  rw [vEq_of (fl_tuple (fl_map fun i => fl_int 0 i)) (fl_tuple (fl_map fun i => fl_int 0 i)) (by omega)]
  exact congrArg some (eqvAll_map eqv_int xs ys)
theorem vNe_ti (xs ys : List Int) : vNe (.tuple (xs.map .int)) (.tuple (ys.map .int)) = some (!decide (xs = ys)) := by
  rw [vNe_of (fl_tuple (fl_map fun i => fl_int 0 i)) (fl_tuple (fl_map fun i => fl_int 0 i)) (by omega)]
  exact congrArg (fun z => some (!z)) (eqvAll_map eqv_int xs ys)
@[simp] theorem vEq_t1 (a0 b0 : Int) : vEq (.tuple [.int a0]) (.tuple [.int b0]) = some (decide ([a0] = [b0])) := vEq_ti [a0] [b0]
@[simp] theorem vNe_t1 (a0 b0 : Int) : vNe (.tuple [.int a0]) (.tuple [.int b0]) = some (!decide ([a0] = [b0])) := vNe_ti [a0] [b0]
@[simp] theorem vEq_l1 (a0 b0 : Int) : vEq (.list [.int a0]) (.list [.int b0]) = some (decide ([a0] = [b0])) := vEq_ints [a0] [b0]
@[simp] theorem vNe_l1 (a0 b0 : Int) : vNe (.list [.int a0]) (.list [.int b0]) = some (!decide ([a0] = [b0])) := vNe_ints [a0] [b0]
@[simp] theorem vEq_t2 (a0 a1 b0 b1 : Int) : vEq (.tuple [.int a0, .int a1]) (.tuple [.int b0, .int b1]) = some (decide ([a0, a1] = [b0, b1])) := vEq_ti [a0, a1] [b0, b1]
@[simp] theorem vNe_t2 (a0 a1 b0 b1 : Int) : vNe (.tuple [.int a0, .int a1]) (.tuple [.int b0, .int b1]) = some (!decide ([a0, a1] = [b0, b1])) := vNe_ti [a0, a1] [b0, b1]
@[simp] theorem vEq_l2 (a0 a1 b0 b1 : Int) : vEq (.list [.int a0, .int a1]) (.list [.int b0, .int b1]) = some (decide ([a0, a1] = [b0, b1])) := vEq_ints [a0, a1] [b0, b1]
@[simp] theorem vNe_l2 (a0 a1 b0 b1 : Int) : vNe (.list [.int a0, .int a1]) (.list [.int b0, .int b1]) = some (!decide ([a0, a1] = [b0, b1])) := vNe_ints [a0, a1] [b0, b1]
@[simp] theorem vEq_t3 (a0 a1 a2 b0 b1 b2 : Int) : vEq (.tuple [.int a0, .int a1, .int a2]) (.tuple [.int b0, .int b1, .int b2]) = some (decide ([a0, a1, a2] = [b0, b1, b2])) := vEq_ti [a0, a1, a2] [b0, b1, b2]
@[simp] theorem vNe_t3 (a0 a1 a2 b0 b1 b2 : Int) : vNe (.tuple [.int a0, .int a1, .int a2]) (.tuple [.int b0, .int b1, .int b2]) = some (!decide ([a0, a1, a2] = [b0, b1, b2])) := vNe_ti [a0, a1, a2] [b0, b1, b2]
@[simp] theorem vEq_l3 (a0 a1 a2 b0 b1 b2 : Int) : vEq (.list [.int a0, .int a1, .int a2]) (.list [.int b0, .int b1, .int b2]) = some (decide ([a0, a1, a2] = [b0, b1, b2])) := vEq_ints [a0, a1, a2] [b0, b1, b2]
@[simp] theorem vNe_l3 (a0 a1 a2 b0 b1 b2 : Int) : vNe (.list [.int a0, .int a1, .int a2]) (.list [.int b0, .int b1, .int b2]) = some (!decide ([a0, a1, a2] = [b0, b1, b2])) := vNe_ints [a0, a1, a2] [b0, b1, b2]
@[simp] theorem vEq_t4 (a0 a1 a2 a3 b0 b1 b2 b3 : Int) : vEq (.tuple [.int a0, .int a1, .int a2, .int a3]) (.tuple [.int b0, .int b1, .int b2, .int b3]) = some (decide ([a0, a1, a2, a3] = [b0, b1, b2, b3])) := vEq_ti [a0, a1, a2, a3] [b0, b1, b2, b3]
@[simp] theorem vNe_t4 (a0 a1 a2 a3 b0 b1 b2 b3 : Int) : vNe (.tuple [.int a0, .int a1, .int a2, .int a3]) (.tuple [.int b0, .int b1, .int b2, .int b3]) = some (!decide ([a0, a1, a2, a3] = [b0, b1, b2, b3])) := vNe_ti [a0, a1, a2, a3] [b0, b1, b2, b3]
@[simp] theorem vEq_l4 (a0 a1 a2 a3 b0 b1 b2 b3 : Int) : vEq (.list [.int a0, .int a1, .int a2, .int a3]) (.list [.int b0, .int b1, .int b2, .int b3]) = some (decide ([a0, a1, a2, a3] = [b0, b1, b2, b3])) := vEq_ints [a0, a1, a2, a3] [b0, b1, b2, b3]
@[simp] theorem vNe_l4 (a0 a1 a2 a3 b0 b1 b2 b3 : Int) : vNe (.list [.int a0, .int a1, .int a2, .int a3]) (.list [.int b0, .int b1, .int b2, .int b3]) = some (!decide ([a0, a1, a2, a3] = [b0, b1, b2, b3])) := vNe_ints [a0, a1, a2, a3] [b0, b1, b2, b3]
@[simp] theorem vEq_t5 (a0 a1 a2 a3 a4 b0 b1 b2 b3 b4 : Int) : vEq (.tuple [.int a0, .int a1, .int a2, .int a3, .int a4]) (.tuple [.int b0, .int b1, .int b2, .int b3, .int b4]) = some (decide ([a0, a1, a2, a3, a4] = [b0, b1, b2, b3, b4])) := vEq_ti [a0, a1, a2, a3, a4] [b0, b1, b2, b3, b4]
@[simp] theorem vNe_t5 (a0 a1 a2 a3 a4 b0 b1 b2 b3 b4 : Int) : vNe (.tuple [.int a0, .int a1, .int a2, .int a3, .int a4]) (.tuple [.int b0, .int b1, .int b2, .int b3, .int b4]) = some (!decide ([a0, a1, a2, a3, a4] = [b0, b1, b2, b3, b4])) := vNe_ti [a0, a1, a2, a3, a4] [b0, b1, b2, b3, b4]
@[simp] theorem vEq_l5 (a0 a1 a2 a3 a4 b0 b1 b2 b3 b4 : Int) : vEq (.list [.int a0, .int a1, .int a2, .int a3, .int a4]) (.list [.int b0, .int b1, .int b2, .int b3, .int b4]) = some (decide ([a0, a1, a2, a3, a4] = [b0, b1, b2, b3, b4])) := vEq_ints [a0, a1, a2, a3, a4] [b0, b1, b2, b3, b4]
@[simp] theorem vNe_l5 (a0 a1 a2 a3 a4 b0 b1 b2 b3 b4 : Int) : vNe (.list [.int a0, .int a1, .int a2, .int a3, .int a4]) (.list [.int b0, .int b1, .int b2, .int b3, .int b4]) = some (!decide ([a0, a1, a2, a3, a4] = [b0, b1, b2, b3, b4])) := vNe_ints [a0, a1, a2, a3, a4] [b0, b1, b2, b3, b4]
@[simp] theorem vNe_nn : vNe .none .none = some false := (rfl)
@[simp] theorem vEq_nn : vEq .none .none = some true := (rfl)
@[simp] theorem vEq_ni (i : Int) : vEq .none (.int i) = some false := by simp [vEq, PyData.eqv]
@[simp] theorem vEq_in (i : Int) : vEq (.int i) .none = some false := by simp [vEq, PyData.eqv]
@[simp] theorem vNe_ni (i : Int) : vNe .none (.int i) = some true := by simp [vNe, PyData.eqv]
@[simp] theorem vNe_in (i : Int) : vNe (.int i) .none = some true := by simp [vNe, PyData.eqv]
@[simp] theorem vEq_b (a b : Bool) : vEq (.bool a) (.bool b) = some (decide (a = b)) := by simp [vEq, eqv_bool]
@[simp] theorem vNe_b (a b : Bool) : vNe (.bool a) (.bool b) = some (!decide (a = b)) := by simp [vNe, eqv_bool]
theorem fAll_bools0 (bs : List Bool) : fAll [.list (bs.map .bool)] = some (.bool (bs.all id)) := by simp [fAll]
theorem fAll_cons1 (b : Bool) (bs : List Bool) : fAll [.list ((b :: bs).map .bool)] = some (.bool ((b :: bs).all id)) := fAll_bools0 (b :: bs)
theorem lcGo_nil (g : D → Ev → Option Ev) (t : Ev → MM Bool) (d : Ev → MM D) (ρ0 : Ev) (w : Wd) : lcGo g t d ρ0 [] w = .ok [] w := (rfl)
def kLg3 (v : D) : Res (List D) → Res (List D)
  | .ok ys w => .ok (v :: ys) w
  | .exc e w => .exc e w
  | .bad => .bad
def kLg2 (g : D → Ev → Option Ev) (t : Ev → MM Bool) (d : Ev → MM D) (ρ0 : Ev) (xs : List D) : Res D → Res (List D)
  | .ok v w => kLg3 v (lcGo g t d ρ0 xs w)
  | _ => .bad
def kLg1 (g : D → Ev → Option Ev) (t : Ev → MM Bool) (d : Ev → MM D) (ρ0 ρ1 : Ev) (xs : List D) : Res Bool → Res (List D)
  | .ok true w => kLg2 g t d ρ0 xs (d ρ1 w)
  | .ok false w => lcGo g t d ρ0 xs w
  | _ => .bad
def kLg (g : D → Ev → Option Ev) (t : Ev → MM Bool) (d : Ev → MM D) (ρ0 : Ev) (xs : List D) (w : Wd) : Option Ev → Res (List D)
  | some ρ1 => kLg1 g t d ρ0 ρ1 xs (t ρ1 w)
  | none => .bad
theorem lcGo_cons (g : D → Ev → Option Ev) (t : Ev → MM Bool) (d : Ev → MM D) (ρ0 : Ev) (x : D) (xs : List D) (w : Wd) : lcGo g t d ρ0 (x :: xs) w = kLg g t d ρ0 xs w (g x ρ0) := by
  rw [lcGo]
  cases g x ρ0 with
  | none => rfl
  | some ρ1 =>
    simp only [ofO_some, bind_ok, kLg]
    cases t ρ1 w with
    | ok b w2 =>
      cases b with
      | false => rfl
      | true =>
        simp only [noX_ok, bind_ok, kLg1]
        cases d ρ1 w2 with
        | ok v w3 =>
          simp only [noX_ok, bind_ok, kLg2]
          cases lcGo g t d ρ0 xs w3 <;> rfl
        | _ => rfl
    | _ => rfl
@[simp] theorem kLg_some (g : D → Ev → Option Ev) (t : Ev → MM Bool) (d : Ev → MM D) (ρ0 ρ1 : Ev) (xs : List D) (w : Wd) : kLg g t d ρ0 xs w (some ρ1) = kLg1 g t d ρ0 ρ1 xs (t ρ1 w) := (rfl)
@[simp] theorem kLg1_t (g : D → Ev → Option Ev) (t : Ev → MM Bool) (d : Ev → MM D) (ρ0 ρ1 : Ev) (xs : List D) (w : Wd) : kLg1 g t d ρ0 ρ1 xs (.ok true w) = kLg2 g t d ρ0 xs (d ρ1 w) := (rfl)
@[simp] theorem kLg1_f (g : D → Ev → Option Ev) (t : Ev → MM Bool) (d : Ev → MM D) (ρ0 ρ1 : Ev) (xs : List D) (w : Wd) : kLg1 g t d ρ0 ρ1 xs (.ok false w) = lcGo g t d ρ0 xs w := (rfl)
@[simp] theorem kLg2_ok (g : D → Ev → Option Ev) (t : Ev → MM Bool) (d : Ev → MM D) (ρ0 : Ev) (xs : List D) (v : D) (w : Wd) : kLg2 g t d ρ0 xs (.ok v w) = kLg3 v (lcGo g t d ρ0 xs w) := (rfl)
@[simp] theorem kLg3_ok (v : D) (ys : List D) (w : Wd) : kLg3 v (.ok ys w) = .ok (v :: ys) w := (rfl)
/-! slices -/
def kOp : Res D → Res (Option Int)
  | .ok (.int i) w => .ok (some i) w
  | .ok _ _ => .bad
  | .exc e w => .exc e w
  | .bad => .bad
@[simp] theorem kOp_int (i : Int) (w : Wd) : kOp (.ok (.int i) w) = .ok (some i) w := (rfl)
@[simp] theorem oPart_ap (d : Ev → MM D) (ρ : Ev) (ω : Wd) : oPart d ρ ω = kOp (d ρ ω) := by
  unfold oPart
  cases d ρ ω with
  | ok a w => cases a <;> rfl
  | _ => rfl
@[simp] theorem oNone_ap (ρ : Ev) (ω : Wd) : oNone ρ ω = .ok none ω := (rfl)
def kSl3 (a : D) (l : Option Int) : Res (Option Int) → Res D
  | .ok h w => ofO (vSl a l h) w
  | .exc e w => .exc e w
  | .bad => .bad
def kSl2 (dh : Ev → MM (Option Int)) (ρ : Ev) (a : D) : Res (Option Int) → Res D
  | .ok l w => kSl3 a l (dh ρ w)
  | .exc e w => .exc e w
  | .bad => .bad
def kSl (dl dh : Ev → MM (Option Int)) (ρ : Ev) : Res D → Res D
  | .ok a w => kSl2 dh ρ a (dl ρ w)
  | .exc e w => .exc e w
  | .bad => .bad
@[simp] theorem kSl3_ok (a : D) (l h : Option Int) (w : Wd) : kSl3 a l (.ok h w) = ofO (vSl a l h) w := (rfl)
@[simp] theorem kSl2_ok (dh : Ev → MM (Option Int)) (ρ : Ev) (a : D) (l : Option Int) (w : Wd) : kSl2 dh ρ a (.ok l w) = kSl3 a l (dh ρ w) := (rfl)
@[simp] theorem kSl_ok (dl dh : Ev → MM (Option Int)) (ρ : Ev) (a : D) (w : Wd) : kSl dl dh ρ (.ok a w) = kSl2 dh ρ a (dl ρ w) := (rfl)
@[simp] theorem eSl_ap (d : Ev → MM D) (dl dh : Ev → MM (Option Int)) (ρ : Ev) (ω : Wd) : eSl d dl dh ρ ω = kSl dl dh ρ (d ρ ω) := by
  unfold eSl
  cases d ρ ω with
  | ok a w =>
    simp only [bind_ok, kSl_ok]
    cases dl ρ w with
    | ok l w =>
      simp only [bind_ok, kSl2_ok]
      cases dh ρ w <;> rfl
    | _ => rfl
  | _ => rfl
@[simp] theorem vSl_tuple (xs : List D) (lo hi : Option Int) : vSl (.tuple xs) lo hi = some (.tuple (cutD xs lo hi)) := (rfl)
@[simp] theorem vSl_list (xs : List D) (lo hi : Option Int) : vSl (.list xs) lo hi = some (.list (cutD xs lo hi)) := (rfl)
@[simp] theorem cut_h2 (x y : D) : cutD [x, y] none (some 2) = [x, y] := (rfl)
@[simp] theorem cut_h23 (x y z : D) : cutD [x, y, z] none (some 2) = [x, y] := (rfl)
@[simp] theorem cut_h24 (x y z u : D) : cutD [x, y, z, u] none (some 2) = [x, y] := (rfl)
@[simp] theorem cut_h34 (x y z u : D) : cutD [x, y, z, u] none (some 3) = [x, y, z] := (rfl)
theorem shaped_str {x : PySem.Str} : SeqAt.shaped (.str x) = PyData.canLay0 (.str x) := by simp [SeqAt.shaped, PyData.depth]
@[simp] theorem kLc_l0 (g : D → Ev → Option Ev) (t : Ev → MM Bool) (d : Ev → MM D) (ρ0 : Ev) (w : Wd) : kLc g t d ρ0 (.ok [] w) = lcGo g t d ρ0 [] w := kLc_ok (by show 0 ≤ 16777216; omega)
@[simp] theorem kLc_l1 (g : D → Ev → Option Ev) (t : Ev → MM Bool) (d : Ev → MM D) (ρ0 : Ev) (a0 : D) (w : Wd) : kLc g t d ρ0 (.ok [a0] w) = lcGo g t d ρ0 [a0] w := kLc_ok (by show 1 ≤ 16777216; omega)
@[simp] theorem kLc_l2 (g : D → Ev → Option Ev) (t : Ev → MM Bool) (d : Ev → MM D) (ρ0 : Ev) (a0 a1 : D) (w : Wd) : kLc g t d ρ0 (.ok [a0, a1] w) = lcGo g t d ρ0 [a0, a1] w := kLc_ok (by show 2 ≤ 16777216; omega)
@[simp] theorem kLc_l3 (g : D → Ev → Option Ev) (t : Ev → MM Bool) (d : Ev → MM D) (ρ0 : Ev) (a0 a1 a2 : D) (w : Wd) : kLc g t d ρ0 (.ok [a0, a1, a2] w) = lcGo g t d ρ0 [a0, a1, a2] w := kLc_ok (by show 3 ≤ 16777216; omega)
@[simp] theorem kLc_l4 (g : D → Ev → Option Ev) (t : Ev → MM Bool) (d : Ev → MM D) (ρ0 : Ev) (a0 a1 a2 a3 : D) (w : Wd) : kLc g t d ρ0 (.ok [a0, a1, a2, a3] w) = lcGo g t d ρ0 [a0, a1, a2, a3] w := kLc_ok (by show 4 ≤ 16777216; omega)
@[simp] theorem kLc_l5 (g : D → Ev → Option Ev) (t : Ev → MM Bool) (d : Ev → MM D) (ρ0 : Ev) (a0 a1 a2 a3 a4 : D) (w : Wd) : kLc g t d ρ0 (.ok [a0, a1, a2, a3, a4] w) = lcGo g t d ρ0 [a0, a1, a2, a3, a4] w := kLc_ok (by show 5 ≤ 16777216; omega)
@[simp] theorem kLc_l6 (g : D → Ev → Option Ev) (t : Ev → MM Bool) (d : Ev → MM D) (ρ0 : Ev) (a0 a1 a2 a3 a4 a5 : D) (w : Wd) : kLc g t d ρ0 (.ok [a0, a1, a2, a3, a4, a5] w) = lcGo g t d ρ0 [a0, a1, a2, a3, a4, a5] w := kLc_ok (by show 6 ≤ 16777216; omega)
@[simp] theorem kLc_l7 (g : D → Ev → Option Ev) (t : Ev → MM Bool) (d : Ev → MM D) (ρ0 : Ev) (a0 a1 a2 a3 a4 a5 a6 : D) (w : Wd) : kLc g t d ρ0 (.ok [a0, a1, a2, a3, a4, a5, a6] w) = lcGo g t d ρ0 [a0, a1, a2, a3, a4, a5, a6] w := kLc_ok (by show 7 ≤ 16777216; omega)
@[simp] theorem kLc_l8 (g : D → Ev → Option Ev) (t : Ev → MM Bool) (d : Ev → MM D) (ρ0 : Ev) (a0 a1 a2 a3 a4 a5 a6 a7 : D) (w : Wd) : kLc g t d ρ0 (.ok [a0, a1, a2, a3, a4, a5, a6, a7] w) = lcGo g t d ρ0 [a0, a1, a2, a3, a4, a5, a6, a7] w := kLc_ok (by show 8 ≤ 16777216; omega)
@[simp] theorem kLc_l9 (g : D → Ev → Option Ev) (t : Ev → MM Bool) (d : Ev → MM D) (ρ0 : Ev) (a0 a1 a2 a3 a4 a5 a6 a7 a8 : D) (w : Wd) : kLc g t d ρ0 (.ok [a0, a1, a2, a3, a4, a5, a6, a7, a8] w) = lcGo g t d ρ0 [a0, a1, a2, a3, a4, a5, a6, a7, a8] w := kLc_ok (by show 9 ≤ 16777216; omega)
@[simp] theorem kLc_l10 (g : D → Ev → Option Ev) (t : Ev → MM Bool) (d : Ev → MM D) (ρ0 : Ev) (a0 a1 a2 a3 a4 a5 a6 a7 a8 a9 : D) (w : Wd) : kLc g t d ρ0 (.ok [a0, a1, a2, a3, a4, a5, a6, a7, a8, a9] w) = lcGo g t d ρ0 [a0, a1, a2, a3, a4, a5, a6, a7, a8, a9] w := kLc_ok (by show 10 ≤ 16777216; omega)
/-! chains of three -/
def kC3 (k : Bool → Wd → Res D) : Res Bool → Res D
  | .ok t w => k t w
  | .exc e w => .exc e w
  | .bad => .bad
@[simp] theorem kC3_ok (k : Bool → Wd → Res D) (t : Bool) (w : Wd) : kC3 k (.ok t w) = k t w := (rfl)
def kCc (h : D → D → Option Bool) (z : D) : Res D → Res D
  | .ok u w => kOfB (ofO (h z u) w)
  | .exc e w => .exc e w
  | .bad => .bad
@[simp] theorem kCc_ok (h : D → D → Option Bool) (z u : D) (w : Wd) : kCc h z (.ok u w) = kOfB (ofO (h z u) w) := (rfl)
@[simp] theorem ch3c_f (h : D → D → Option Bool) (d4 : Ev → MM D) (ρ : Ev) (z : D) (w : Wd) : ch3c h d4 ρ z false w = .ok (.bool false) w := (rfl)
@[simp] theorem ch3c_t (h : D → D → Option Bool) (d4 : Ev → MM D) (ρ : Ev) (z : D) (w : Wd) : ch3c h d4 ρ z true w = kCc h z (d4 ρ w) := by
  show (d4 ρ w).bind _ = _
  cases d4 ρ w with
  | ok u w2 => simp only [bind_ok, kCc_ok]; cases h z u <;> rfl
  | _ => rfl
def kCb (g h : D → D → Option Bool) (d4 : Ev → MM D) (ρ : Ev) (b : D) : Res D → Res D
  | .ok z w => kC3 (ch3c h d4 ρ z) (ofO (g b z) w)
  | .exc e w => .exc e w
  | .bad => .bad
@[simp] theorem kCb_ok (g h : D → D → Option Bool) (d4 : Ev → MM D) (ρ : Ev) (b z : D) (w : Wd) : kCb g h d4 ρ b (.ok z w) = kC3 (ch3c h d4 ρ z) (ofO (g b z) w) := (rfl)
@[simp] theorem ch3b_f (g h : D → D → Option Bool) (d3 d4 : Ev → MM D) (ρ : Ev) (b : D) (w : Wd) : ch3b g h d3 d4 ρ b false w = .ok (.bool false) w := (rfl)
@[simp] theorem ch3b_t (g h : D → D → Option Bool) (d3 d4 : Ev → MM D) (ρ : Ev) (b : D) (w : Wd) : ch3b g h d3 d4 ρ b true w = kCb g h d4 ρ b (d3 ρ w) := by
  show (d3 ρ w).bind _ = _
  cases d3 ρ w with
  | ok z w2 => simp only [bind_ok, kCb_ok]; cases g b z <;> rfl
  | _ => rfl
def kCa2 (f g h : D → D → Option Bool) (d3 d4 : Ev → MM D) (ρ : Ev) (a : D) : Res D → Res D
  | .ok b w => kC3 (ch3b g h d3 d4 ρ b) (ofO (f a b) w)
  | .exc e w => .exc e w
  | .bad => .bad
def kCa (f g h : D → D → Option Bool) (d2 d3 d4 : Ev → MM D) (ρ : Ev) : Res D → Res D
  | .ok a w => kCa2 f g h d3 d4 ρ a (d2 ρ w)
  | .exc e w => .exc e w
  | .bad => .bad
@[simp] theorem kCa2_ok (f g h : D → D → Option Bool) (d3 d4 : Ev → MM D) (ρ : Ev) (a b : D) (w : Wd) : kCa2 f g h d3 d4 ρ a (.ok b w) = kC3 (ch3b g h d3 d4 ρ b) (ofO (f a b) w) := (rfl)
@[simp] theorem kCa_ok (f g h : D → D → Option Bool) (d2 d3 d4 : Ev → MM D) (ρ : Ev) (a : D) (w : Wd) : kCa f g h d2 d3 d4 ρ (.ok a w) = kCa2 f g h d3 d4 ρ a (d2 ρ w) := (rfl)
@[simp] theorem eChain3_ap (f g h : D → D → Option Bool) (d1 d2 d3 d4 : Ev → MM D) (ρ : Ev) (ω : Wd) : eChain3 f g h d1 d2 d3 d4 ρ ω = kCa f g h d2 d3 d4 ρ (d1 ρ ω) := by
  unfold eChain3
  cases d1 ρ ω with
  | ok a w =>
    simp only [bind_ok, kCa_ok]
    cases d2 ρ w with
    | ok b w => simp only [bind_ok, kCa2_ok]; cases f a b <;> rfl
    | _ => rfl
  | _ => rfl
end M

set_option Elab.async false
set_option linter.all false
set_option maxRecDepth 100000
set_option maxHeartbeats 4000000
namespace M
/-! ### forms -/
@[ext] structure Fm where
  a : Int
  b : Int
  c : Int
deriving DecidableEq
@[ext] structure Mt where
  p : Int
  q : Int
  r : Int
  s : Int
deriving DecidableEq
def Fm.at (f : Fm) (x y : Int) : Int := f.a * x * x + f.b * x * y + f.c * y * y
def Fm.turn (f : Fm) (m : Mt) : Fm := ⟨f.at m.p m.r, 2 * f.a * m.p * m.q + f.b * (m.p * m.s + m.q * m.r) + 2 * f.c * m.r * m.s, f.at m.q m.s⟩
def Fm.disc (f : Fm) : Int := f.b * f.b - 4 * f.a * f.c
def Mt.mul (x y : Mt) : Mt := ⟨x.p * y.p + x.q * y.r, x.p * y.q + x.q * y.s, x.r * y.p + x.s * y.r, x.r * y.q + x.s * y.s⟩
def Mt.det (x : Mt) : Int := x.p * x.s - x.q * x.r
def Mt.inv (x : Mt) : Mt := ⟨x.s, -x.q, -x.r, x.p⟩
def Mt.one : Mt := ⟨1, 0, 0, 1⟩
theorem Fm.turn_mul (f : Fm) (x y : Mt) : (f.turn x).turn y = f.turn (x.mul y) := by
  ext <;> simp only [Fm.turn, Fm.at, Mt.mul] <;> grind
theorem Fm.turn_one (f : Fm) : f.turn Mt.one = f := by
  ext <;> simp only [Fm.turn, Fm.at, Mt.one] <;> grind
theorem Mt.det_mul (x y : Mt) : (x.mul y).det = x.det * y.det := by simp only [Mt.mul, Mt.det]; grind
theorem Mt.mul_inv {x : Mt} (h : x.det = 1) : x.mul x.inv = Mt.one := by
  unfold Mt.det at h
  ext <;> simp only [Mt.mul, Mt.inv, Mt.one] <;> grind
theorem Mt.det_inv (x : Mt) : x.inv.det = x.det := by simp only [Mt.inv, Mt.det]; grind
theorem Fm.turn_back (f : Fm) {x : Mt} (h : x.det = 1) : (f.turn x).turn x.inv = f := by rw [Fm.turn_mul, Mt.mul_inv h, Fm.turn_one]
theorem Fm.disc_turn (f : Fm) (x : Mt) : (f.turn x).disc = f.disc * x.det * x.det := by
  simp only [Fm.disc, Fm.turn, Fm.at, Mt.det]; grind
theorem Fm.turn_at (f : Fm) (m : Mt) (x y : Int) : (f.turn m).at x y = f.at (m.p * x + m.q * y) (m.r * x + m.s * y) := by
  simp only [Fm.turn, Fm.at]; grind
/-- reduced -/
structure Fm.Red (f : Fm) : Prop where
  b1 : -f.a < f.b
  b2 : f.b ≤ f.a
  ac : f.a ≤ f.c
  eq : f.a = f.c → 0 ≤ f.b
theorem Fm.Red.pos {f : Fm} (h : f.Red) : 0 < f.a := by have := h.b1; have := h.b2; omega
theorem prod_abs (x y : Int) : x * y ≤ x.natAbs * y.natAbs ∧ -(x.natAbs * y.natAbs : Int) ≤ x * y := by
  have : ((x * y).natAbs : Int) = x.natAbs * y.natAbs := by rw [Int.natAbs_mul]; simp
  omega
theorem Fm.Red.value {f : Fm} (h : f.Red) {x y : Int} (hy : y ≠ 0) : f.c ≤ f.at x y := by
  obtain ⟨b1, b2, ac, _⟩ := h
  have ha : 0 < f.a := by omega
  have hu : (0 : Int) ≤ x.natAbs := by omega
  have hv : (1 : Int) ≤ y.natAbs := by omega
  have hbv : -(f.a * (x.natAbs * y.natAbs)) ≤ f.b * (x * y) := by
    have e := prod_abs f.b (x * y)
    have e2 : ((x * y).natAbs : Int) = x.natAbs * y.natAbs := by rw [Int.natAbs_mul]; simp
    rw [e2] at e
    have hb : (f.b.natAbs : Int) ≤ f.a := by omega
    have := Int.mul_le_mul_of_nonneg_right hb (Int.mul_nonneg hu (by omega : (0 : Int) ≤ y.natAbs))
    omega
  have xx : x * x = (x.natAbs : Int) * x.natAbs := by rw [← Int.natCast_mul, Int.natAbs_mul_self]
  have yy : y * y = (y.natAbs : Int) * y.natAbs := by rw [← Int.natCast_mul, Int.natAbs_mul_self]
  have e : f.at x y = f.a * (x * x) + f.b * (x * y) + f.c * (y * y) := by simp only [Fm.at]; grind
  rw [e, xx, yy]
  generalize (x.natAbs : Int) = u at *
  generalize (y.natAbs : Int) = v at *
  have vv : 1 ≤ v * v := by have := Int.mul_le_mul hv hv (by omega) (by omega); omega
  rcases Int.le_total v u with z | z
  · have h1 := Int.mul_nonneg (Int.le_of_lt ha) (Int.mul_nonneg hu (show 0 ≤ u - v by omega))
    have h2 := Int.mul_le_mul_of_nonneg_left vv (show 0 ≤ f.c by omega)
    have e3 : f.a * (u * u) = f.a * (u * (u - v)) + f.a * (u * v) := by grind
    omega
  · have h1 := Int.mul_le_mul_of_nonneg_right ac (Int.mul_nonneg hu (show 0 ≤ v - u by omega))
    have e3 : f.a * (u * v) = f.a * (u * u) + f.a * (u * (v - u)) := by grind
    have e4 : f.c * (v * v) = f.c * (u * (v - u)) + f.c * (v * (v - u) + u * u) := by grind
    have h3 : 1 ≤ v * (v - u) + u * u := by
      rcases (show u < v ∨ v ≤ u by omega) with w | w
      · have := Int.mul_le_mul hv (show 1 ≤ v - u by omega) (by omega) (by omega)
        have := Int.mul_nonneg hu hu
        omega
      · have e5 : u = v := by omega
        subst e5
        have : u - u = 0 := by omega
        rw [this]; omega
    have h2 := Int.mul_le_mul_of_nonneg_left h3 (show 0 ≤ f.c by omega)
    omega
theorem unit_or {p s : Int} (h : p * s = 1) : (p = 1 ∧ s = 1) ∨ (p = -1 ∧ s = -1) := by
  have e2 : p.natAbs * s.natAbs = 1 := by rw [← Int.natAbs_mul, h]; rfl
  have e3 := Nat.dvd_one.1 ⟨_, e2.symm⟩
  have e4 : p = 1 ∨ p = -1 := by omega
  rcases e4 with rfl | rfl <;> omega
theorem sq_inj {x y : Int} (hx : 0 ≤ x) (hy : 0 ≤ y) (h : x * x = y * y) : x = y := by
  rcases (show x < y ∨ y < x ∨ x = y by omega) with z | z | z
  · have h1 := Int.mul_le_mul_of_nonneg_left (show x + 1 ≤ y by omega) hx
    have h2 := Int.mul_le_mul_of_nonneg_right (show x + 1 ≤ y by omega) hy
    have e1 : x * (x + 1) = x * x + x := by grind
    have e2 : (x + 1) * y = x * y + y := by grind
    omega
  · have h1 := Int.mul_le_mul_of_nonneg_left (show y + 1 ≤ x by omega) hy
    have h2 := Int.mul_le_mul_of_nonneg_right (show y + 1 ≤ x by omega) hx
    have e1 : y * (y + 1) = y * y + y := by grind
    have e2 : (y + 1) * x = x * y + x := by grind
    have e3 : y * x = x * y := Int.mul_comm _ _
    omega
  · exact z
theorem Fm.Red.uniq {f : Fm} {m : Mt} (hf : f.Red) (hg : (f.turn m).Red) (hd : m.det = 1) : f.turn m = f := by
  by_cases hr : m.r = 0
  · have ps : m.p * m.s = 1 := by unfold Mt.det at hd; rw [hr] at hd; omega
    have ha := hf.pos
    have bb : (f.turn m).b = f.b + 2 * (f.a * (m.p * m.q)) := by
      have : (f.turn m).b = f.b * (m.p * m.s) + 2 * (f.a * (m.p * m.q)) := by simp only [Fm.turn, hr]; grind
      rw [this, ps]; omega
    have aa : (f.turn m).a = f.a := by
      have : (f.turn m).a = f.a * (m.p * m.p) := by simp only [Fm.turn, Fm.at, hr]; grind
      rw [this]
      rcases unit_or ps with ⟨h, _⟩ | ⟨h, _⟩ <;> rw [h] <;> omega
    have g1 := hg.b1
    have g2 := hg.b2
    have f1 := hf.b1
    have f2 := hf.b2
    have q0 : m.p * m.q = 0 := by
      rcases (show m.p * m.q = 0 ∨ 1 ≤ m.p * m.q ∨ m.p * m.q ≤ -1 by omega) with z | z | z
      · exact z
      · have := Int.mul_le_mul_of_nonneg_left z (Int.le_of_lt ha); omega
      · have := Int.mul_le_mul_of_nonneg_left z (Int.le_of_lt ha); omega
    have mq : m.q = 0 := by rcases unit_or ps with ⟨h, _⟩ | ⟨h, _⟩ <;> rw [h] at q0 <;> omega
    have cc : (f.turn m).c = f.c := by
      have : (f.turn m).c = f.c * (m.s * m.s) := by simp only [Fm.turn, Fm.at, mq]; grind
      rw [this]
      rcases unit_or ps with ⟨_, h⟩ | ⟨_, h⟩ <;> rw [h] <;> omega
    rw [q0] at bb
    exact Fm.ext aa (by omega) cc
  · have v1 : f.c ≤ (f.turn m).a := hf.value hr
    have v2 : (f.turn m).c ≤ f.a := by
      have := hg.value (x := m.inv.p) (y := m.inv.r) (by simp only [Mt.inv]; omega)
      have e : (f.turn m).at m.inv.p m.inv.r = ((f.turn m).turn m.inv).a := rfl
      rw [e, Fm.turn_back f hd] at this
      exact this
    have ac := hf.ac
    have gac := hg.ac
    have hb := hf.eq (by omega)
    have gb := hg.eq (by omega)
    have dd := Fm.disc_turn f m
    rw [hd] at dd
    simp only [Fm.disc] at dd
    have e1 : (f.turn m).a = f.a := by omega
    have e2 : (f.turn m).c = f.c := by omega
    rw [e1, e2] at dd
    exact Fm.ext e1 (sq_inj gb hb (by omega)) e2
end M

set_option Elab.async false
set_option linter.all false
set_option maxRecDepth 100000
set_option maxHeartbeats 4000000
namespace M
/-! ### how a form is reduced -/
def Fm.sh (f : Fm) : Int := -((f.b + f.a - 1) / (2 * f.a))
def Fm.n1 (f : Fm) : Fm := f.turn ⟨1, f.sh, 0, 1⟩
def Fm.sw (f : Fm) : Bool := decide (f.c < f.a) || (decide (f.a = f.c) && decide (f.b < 0))
def Fm.isRed (f : Fm) : Bool := decide (-f.a < f.b) && (decide (f.b ≤ f.a) && (decide (f.a ≤ f.c) && (!decide (f.a = f.c) || decide (0 ≤ f.b))))
theorem Fm.isRed_iff (f : Fm) : f.isRed = true ↔ f.Red := by
  unfold Fm.isRed
  simp only [Bool.and_eq_true, decide_eq_true_eq, Bool.or_eq_true, Bool.not_eq_true', decide_eq_false_iff_not]
  constructor
  · intro ⟨h1, h2, h3, h4⟩
    exact ⟨h1, h2, h3, fun e => h4.elim (fun n => absurd e n) id⟩
  · intro ⟨h1, h2, h3, h4⟩
    refine ⟨h1, h2, h3, ?_⟩
    by_cases e : f.a = f.c
    · exact .inr (h4 e)
    · exact .inl e
theorem Fm.n1_spec {f : Fm} (h : 0 < f.a) : f.n1.a = f.a ∧ -f.a < f.n1.b ∧ f.n1.b ≤ f.a ∧ f.n1.disc = f.disc := by
  have e := Int.mul_ediv_add_emod (f.b + f.a - 1) (2 * f.a)
  have m1 := Int.emod_nonneg (f.b + f.a - 1) (show 2 * f.a ≠ 0 by omega)
  have m2 := Int.emod_lt_of_pos (f.b + f.a - 1) (show 0 < 2 * f.a by omega)
  have eb : f.n1.b = f.b - 2 * f.a * ((f.b + f.a - 1) / (2 * f.a)) := by simp only [Fm.n1, Fm.turn, Fm.sh]; grind
  refine ⟨by simp only [Fm.n1, Fm.turn, Fm.at]; grind, by omega, by omega, ?_⟩
  rw [Fm.n1, Fm.disc_turn]
  simp only [Mt.det]
  grind
def Mt.tn : Mt := ⟨0, -1, 1, 0⟩
theorem Fm.tn_spec (f : Fm) : f.turn Mt.tn = ⟨f.c, -f.b, f.a⟩ := by ext <;> simp only [Fm.turn, Fm.at, Mt.tn] <;> grind
/-- one turn of the loop: the form and the matrix -/
def stepF (x : Fm × Mt) : Fm × Mt := if x.1.n1.sw then (x.1.n1.turn Mt.tn, (x.2.mul ⟨1, x.1.sh, 0, 1⟩).mul Mt.tn) else (x.1.n1, x.2.mul ⟨1, x.1.sh, 0, 1⟩)
theorem stepF_turn {f : Fm} {x : Fm × Mt} (h : f.turn x.2 = x.1) (hd : x.2.det = 1) : f.turn (stepF x).2 = (stepF x).1 ∧ (stepF x).2.det = 1 := by
  unfold stepF
  split
  · refine ⟨by rw [← Fm.turn_mul, ← Fm.turn_mul, h]; rfl, ?_⟩
    rw [Mt.det_mul, Mt.det_mul, hd]; simp [Mt.det, Mt.tn]
  · refine ⟨by rw [← Fm.turn_mul, h]; rfl, ?_⟩
    rw [Mt.det_mul, hd]; simp [Mt.det]
theorem neg_disc_pos {f : Fm} (h : f.disc < 0) (ha : 0 < f.a) : 0 < f.c := by
  unfold Fm.disc at h
  have e : f.b * f.b = (f.b.natAbs : Int) * f.b.natAbs := by rw [← Int.natCast_mul, Int.natAbs_mul_self]
  have : 0 ≤ f.b * f.b := by rw [e]; exact Int.mul_nonneg (by omega) (by omega)
  rcases (show 0 < f.c ∨ f.c ≤ 0 by omega) with z | z
  · exact z
  · have := Int.mul_nonneg (show 0 ≤ f.a by omega) (show 0 ≤ -f.c by omega)
    have e2 : f.a * -f.c = -(f.a * f.c) := by grind
    have e3 : 4 * f.a * f.c = 4 * (f.a * f.c) := by grind
    omega
def muF (x : Fm) : Nat := if x.isRed then 0 else x.a.toNat + 1
theorem stepF_mu {x : Fm × Mt} (ha : 0 < x.1.a) (hd : x.1.disc < 0) (hr : x.1.isRed = false) : 0 < (stepF x).1.a ∧ (stepF x).1.disc = x.1.disc ∧ muF (stepF x).1 < muF x.1 := by
  obtain ⟨f, m⟩ := x
  simp only at *
  obtain ⟨n1, n2, n3, n4⟩ := Fm.n1_spec ha
  have hc := neg_disc_pos (f := f.n1) (by rw [n4]; exact hd) (by rw [n1]; exact ha)
  have mf : muF f = f.a.toNat + 1 := by unfold muF; rw [hr]; rfl
  unfold stepF
  simp only
  split
  · rename_i sw
    rw [Fm.tn_spec]
    refine ⟨hc, by rw [← n4]; simp only [Fm.disc]; grind, ?_⟩
    rw [mf]
    unfold muF
    split
    · omega
    · rename_i nr
      simp only
      have lt : f.n1.c < f.a := by
        unfold Fm.sw at sw
        simp only [Bool.or_eq_true, Bool.and_eq_true, decide_eq_true_eq] at sw
        rcases sw with z | ⟨z1, z2⟩
        · omega
        · exfalso
          apply nr
          rw [Fm.isRed_iff]
          exact ⟨by simp only; omega, by simp only; omega, by simp only; omega, fun _ => by simp only; omega⟩
      omega
  · rename_i sw
    refine ⟨by rw [n1]; exact ha, n4, ?_⟩
    have : f.n1.isRed = true := by
      rw [Fm.isRed_iff]
      unfold Fm.sw at sw
      simp only [Bool.or_eq_true, Bool.and_eq_true, decide_eq_true_eq, not_or, not_and] at sw
      exact ⟨by omega, by omega, by omega, fun e => by have := sw.2 e; omega⟩
    rw [mf]
    unfold muF
    rw [this]
    simp
end M

set_option Elab.async false
set_option linter.all false
set_option maxRecDepth 100000
set_option maxHeartbeats 4000000
namespace M
/-! ### sizes in the reduction -/
theorem sq_nonneg' (x : Int) : 0 ≤ x * x := by
  rw [show x * x = (x.natAbs : Int) * x.natAbs by rw [← Int.natCast_mul, Int.natAbs_mul_self]]
  exact Int.mul_nonneg (by omega) (by omega)
theorem natAbs_le_of_sq {x : Int} {n : Nat} (h : x * x ≤ n) : x.natAbs ≤ n := by
  have e : x * x = (x.natAbs : Int) * x.natAbs := by rw [← Int.natCast_mul, Int.natAbs_mul_self]
  rcases (show x.natAbs = 0 ∨ 1 ≤ x.natAbs by omega) with z | z
  · omega
  · have := Nat.mul_le_mul_left x.natAbs z
    have e2 : (x.natAbs : Int) * x.natAbs = ((x.natAbs * x.natAbs : Nat) : Int) := by rw [Int.natCast_mul]
    omega
/-- the entries of a matrix by the values that it makes -/
theorem entry_bound {f : Fm} (ha : 0 < f.a) (hd : f.disc < 0) {x y : Int} : y * y ≤ 4 * f.a * f.at x y ∧ x * x ≤ 4 * f.c * f.at x y := by
  have hc := neg_disc_pos hd ha
  have e1 : 4 * f.a * f.at x y = (2 * f.a * x + f.b * y) * (2 * f.a * x + f.b * y) - f.disc * (y * y) := by simp only [Fm.at, Fm.disc]; grind
  have e2 : 4 * f.c * f.at x y = (2 * f.c * y + f.b * x) * (2 * f.c * y + f.b * x) - f.disc * (x * x) := by simp only [Fm.at, Fm.disc]; grind
  have s1 := sq_nonneg' (2 * f.a * x + f.b * y)
  have s2 := sq_nonneg' (2 * f.c * y + f.b * x)
  have h1 := Int.mul_le_mul_of_nonneg_right (show 1 ≤ -f.disc by omega) (sq_nonneg' y)
  have h2 := Int.mul_le_mul_of_nonneg_right (show 1 ≤ -f.disc by omega) (sq_nonneg' x)
  have m1 : -f.disc * (y * y) = -(f.disc * (y * y)) := Int.neg_mul _ _
  have m2 : -f.disc * (x * x) = -(f.disc * (x * x)) := Int.neg_mul _ _
  omega
end M

set_option Elab.async false
set_option linter.all false
set_option maxRecDepth 100000
set_option maxHeartbeats 4000000
namespace M
/-! ### the shift is one; how many turns -/
theorem Fm.shift_uniq {f : Fm} (ha : 0 < f.a) {t : Int} (h1 : -f.a < (f.turn ⟨1, t, 0, 1⟩).b) (h2 : (f.turn ⟨1, t, 0, 1⟩).b ≤ f.a) : t = f.sh := by
  have e : (f.turn ⟨1, t, 0, 1⟩).b = f.b + 2 * f.a * t := by simp only [Fm.turn]; grind
  rw [e] at h1 h2
  obtain ⟨n1, n2, n3, n4⟩ := Fm.n1_spec ha
  have e2 : f.n1.b = f.b + 2 * f.a * f.sh := by simp only [Fm.n1, Fm.turn]; grind
  rw [e2] at n2 n3
  have e3 : 2 * f.a * (t - f.sh) = 2 * f.a * t - 2 * f.a * f.sh := by grind
  rcases (show t = f.sh ∨ 1 ≤ t - f.sh ∨ t - f.sh ≤ -1 by omega) with z | z | z
  · exact z
  · have := Int.mul_le_mul_of_nonneg_left z (show 0 ≤ 2 * f.a by omega); omega
  · have := Int.mul_le_mul_of_nonneg_left z (show 0 ≤ 2 * f.a by omega); omega
theorem Fm.shift_n1 {f : Fm} (ha : 0 < f.a) {t : Int} (h1 : -f.a < (f.turn ⟨1, t, 0, 1⟩).b) (h2 : (f.turn ⟨1, t, 0, 1⟩).b ≤ f.a) : f.turn ⟨1, t, 0, 1⟩ = f.n1 := by
  rw [Fm.shift_uniq ha h1 h2]; rfl
theorem Fm.n1_self {f : Fm} (ha : 0 < f.a) (h1 : -f.a < f.b) (h2 : f.b ≤ f.a) : f.n1 = f := by
  have := Fm.shift_n1 (f := f) (t := 0) ha (by rw [show (⟨1, 0, 0, 1⟩ : Mt) = Mt.one from rfl, Fm.turn_one]; exact h1) (by rw [show (⟨1, 0, 0, 1⟩ : Mt) = Mt.one from rfl, Fm.turn_one]; exact h2)
  rw [← this]; exact Fm.turn_one f
def Fm.next (f : Fm) : Fm := f.n1.turn Mt.tn
theorem Fm.next_eq (f : Fm) : f.next = ⟨f.n1.c, -f.n1.b, f.n1.a⟩ := Fm.tn_spec _
theorem Fm.n1_red {f : Fm} (ha : 0 < f.a) (h : f.n1.sw = false) : f.n1.Red := by
  obtain ⟨n1, n2, n3, n4⟩ := Fm.n1_spec ha
  unfold Fm.sw at h
  simp only [Bool.or_eq_false_iff, decide_eq_false_iff_not, Bool.and_eq_false_iff] at h
  exact ⟨by omega, by omega, by omega, fun e => by rcases h.2 with z | z <;> omega⟩
theorem Fm.red_sw {f : Fm} (h : f.Red) : f.n1 = f ∧ f.n1.sw = false := by
  have e := Fm.n1_self h.pos h.b1 h.b2
  refine ⟨e, ?_⟩
  rw [e]
  unfold Fm.sw
  have := h.ac
  have := h.eq
  simp only [Bool.or_eq_false_iff, decide_eq_false_iff_not, Bool.and_eq_false_iff]
  refine ⟨by omega, ?_⟩
  by_cases z : f.a = f.c
  · right; have := this z; omega
  · left; exact z
/-- the form has its end within k turns -/
def Tn : Nat → Fm → Prop
  | 0, f => f.n1.sw = false
  | k + 1, f => f.n1.sw = false ∨ Tn k f.next
theorem Tn.succ : ∀ {k : Nat} {f : Fm}, Tn k f → Tn (k + 1) f
  | 0, _, h => .inl h
  | k + 1, _, h => h.elim .inl fun h => .inr h.succ
theorem Tn.le {k m : Nat} {f : Fm} (h : Tn k f) (hm : k ≤ m) : Tn m f := by
  induction m with
  | zero => have : k = 0 := by omega
            subst this; exact h
  | succ m ih =>
    by_cases e : k = m + 1
    · subst e; exact h
    · exact (ih (by omega)).succ
theorem Tn.of_red {f : Fm} (h : f.Red) : Tn 0 f := (Fm.red_sw h).2
theorem next_pos {f : Fm} (ha : 0 < f.a) (hd : f.disc < 0) : 0 < f.next.a ∧ f.next.disc = f.disc := by
  obtain ⟨n1, n2, n3, n4⟩ := Fm.n1_spec ha
  have hc := neg_disc_pos (f := f.n1) (by rw [n4]; exact hd) (by rw [n1]; exact ha)
  rw [Fm.next_eq]
  exact ⟨hc, by rw [← n4]; simp only [Fm.disc]; grind⟩
theorem sw_lt {f : Fm} (h : f.sw = true) : f.c ≤ f.a := by
  unfold Fm.sw at h
  simp only [Bool.or_eq_true, Bool.and_eq_true, decide_eq_true_eq] at h
  omega
/-- if the next first number is more than half, one more turn at most -/
theorem turn_last {f : Fm} (ha : 0 < f.a) (hd : f.disc < 0) (hs : f.n1.sw = true) (h2 : f.n1.a < 2 * f.n1.c) : Tn 1 f.next := by
  obtain ⟨n1, n2, n3, n4⟩ := Fm.n1_spec ha
  obtain ⟨g1, g2⟩ := next_pos ha hd
  have hc := sw_lt hs
  have ge := Fm.next_eq f
  generalize f.next = g at *
  have ga : g.a = f.n1.c := by rw [ge]
  have gb : g.b = -f.n1.b := by rw [ge]
  have gc : g.c = f.n1.a := by rw [ge]
  obtain ⟨m1, m2, m3, m4⟩ := Fm.n1_spec g1
  -- the shift is 0, 1 or -1
  have eb : g.n1.b = g.b + 2 * g.a * g.sh := by simp only [Fm.n1, Fm.turn]; grind
  have ec : g.n1.c = g.a * g.sh * g.sh + g.b * g.sh + g.c := by simp only [Fm.n1, Fm.turn, Fm.at]; grind
  have hsh : g.sh = 0 ∨ g.sh = 1 ∨ g.sh = -1 := by
    rcases (show g.sh = 0 ∨ g.sh = 1 ∨ g.sh = -1 ∨ 2 ≤ g.sh ∨ g.sh ≤ -2 by omega) with z | z | z | z | z
    · exact .inl z
    · exact .inr (.inl z)
    · exact .inr (.inr z)
    · have := Int.mul_le_mul_of_nonneg_left z (show 0 ≤ 2 * g.a by omega); omega
    · have := Int.mul_le_mul_of_nonneg_left z (show 0 ≤ 2 * g.a by omega); omega
  have hge : g.a ≤ g.n1.c := by
    rcases hsh with z | z | z
    · rw [ec, z]; omega
    · rw [ec, z]; rw [z] at eb; omega
    · rw [ec, z]; rw [z] at eb; omega
  by_cases hs2 : g.n1.sw = true
  · right
    have hle := sw_lt hs2
    show g.next.n1.sw = false
    have hb : g.n1.b < 0 := by
      unfold Fm.sw at hs2
      simp only [Bool.or_eq_true, Bool.and_eq_true, decide_eq_true_eq] at hs2
      omega
    have : g.next.Red := by rw [Fm.next_eq]; exact ⟨by simp only; omega, by simp only; omega, by simp only; omega, fun _ => by simp only; omega⟩
    exact (Fm.red_sw this).2
  · left; simpa using hs2
theorem Tn.log : ∀ (m : Nat) (f : Fm), 0 < f.a → f.disc < 0 → f.a < 2 ^ m → Tn (m + 2) f := by
  intro m
  induction m with
  | zero => intro f h _ h2; simp at h2; omega
  | succ m ih =>
    intro f ha hd h2
    by_cases hs : f.n1.sw = true
    · right
      obtain ⟨g1, g2⟩ := next_pos ha hd
      obtain ⟨n1, _⟩ := Fm.n1_spec ha
      by_cases hh : f.n1.a < 2 * f.n1.c
      · exact (turn_last ha hd hs hh).le (by omega)
      · refine ih f.next g1 (by omega) ?_
        rw [Fm.next_eq]
        simp only
        rw [Int.pow_succ] at h2
        omega
    · left; simpa using hs
/-- the numbers that come first on the way -/
def stp : Nat → Fm → List Int
  | 0, _ => []
  | k + 1, f => if f.n1.sw then f.n1.c :: stp k f.next else []
theorem stp_stable : ∀ {k m : Nat} {f : Fm}, Tn k f → k ≤ m → stp m f = stp k f
  | 0, 0, _, _, _ => rfl
  | 0, m + 1, f, h, _ => by
    have h : f.n1.sw = false := h
    simp [stp, h]
  | k + 1, 0, _, _, hm => by omega
  | k + 1, m + 1, f, h, hm => by
    simp only [stp]
    by_cases hs : f.n1.sw = true
    · simp only [hs, if_true]
      rcases h with h | h
      · rw [h] at hs; cases hs
      · rw [stp_stable h (by omega)]
    · simp only [hs]; rfl
theorem stp_len : ∀ (k : Nat) (f : Fm), (stp k f).length ≤ k
  | 0, _ => Nat.le_refl _
  | k + 1, f => by
    simp only [stp]
    split
    · have := stp_len k f.next; simp; omega
    · simp
/-- the form at the end -/
def fin : Nat → Fm → Fm
  | 0, f => f.n1
  | k + 1, f => if f.n1.sw then fin k f.next else f.n1
theorem fin_spec : ∀ {k : Nat} {f : Fm}, Tn k f → 0 < f.a → f.disc < 0 → (fin k f).Red ∧ ∃ m : Mt, m.det = 1 ∧ f.turn m = fin k f
  | 0, f, h, ha, _ => ⟨Fm.n1_red ha h, ⟨1, f.sh, 0, 1⟩, by simp [Mt.det], rfl⟩
  | k + 1, f, h, ha, hd => by
    simp only [fin]
    by_cases hs : f.n1.sw = true
    · simp only [hs, if_true]
      rcases h with h | h
      · rw [h] at hs; cases hs
      · obtain ⟨g1, g2⟩ := next_pos ha hd
        obtain ⟨r, m, d, e⟩ := fin_spec h g1 (by omega)
        refine ⟨r, (Mt.mul ⟨1, f.sh, 0, 1⟩ Mt.tn).mul m, ?_, ?_⟩
        · rw [Mt.det_mul, Mt.det_mul, d]; simp [Mt.det, Mt.tn]
        · rw [← Fm.turn_mul, ← Fm.turn_mul]; exact e
    · have hs : f.n1.sw = false := by simpa using hs
      simp only [hs]
      exact ⟨Fm.n1_red ha hs, ⟨1, f.sh, 0, 1⟩, by simp [Mt.det], rfl⟩
end M

set_option Elab.async false
set_option linter.all false
set_option maxRecDepth 100000
set_option maxHeartbeats 4000000
namespace M
open PySem PySem.Spec PyProof.Rows L2
/-! ### loops by what holds of the names -/
def WStep (P : Nat → Ev → Prop) (w : Wd) (n : Nat) (E : Res Fl) : Prop := ∃ ρ' m, (E = .ok (.next ρ') w ∨ E = .ok (.cont ρ') w) ∧ m < n ∧ P m ρ'
theorem WStep.next {P : Nat → Ev → Prop} {w : Wd} {n m : Nat} {ρ : Ev} (h : m < n) (p : P m ρ) : WStep P w n (.ok (.next ρ) w) := ⟨ρ, m, .inl rfl, h, p⟩
def WEnd (Q : Ev → Prop) (w : Wd) (E : Res Fl) : Prop := ∃ ρ', E = .ok (.next ρ') w ∧ Q ρ'
theorem while_P {t : Ev → MM Bool} {db : Ev → MM Fl} {w : Wd} (P : Nat → Ev → Prop) (Q : Ev → Prop)
    (hb : ∀ n ρ, P n ρ → (t ρ w = .ok false w ∧ Q ρ) ∨ (t ρ w = .ok true w ∧ WStep P w n (db ρ w))) :
    ∀ n ρ, P n ρ → WEnd Q w (sWhile t db ρ w) := by
  intro n
  induction n using Nat.strongRecOn with
  | ind n ih =>
    intro ρ p
    rw [sWhile_ap]
    rcases hb n ρ p with ⟨h1, h2⟩ | ⟨h1, ρ', m, h2, h3, h4⟩
    · exact ⟨ρ, by rw [h1]; rfl, h2⟩
    · rw [h1, kWh_t]
      rcases h2 with h2 | h2
      · rw [h2, kWhB_next]
        exact ih m h3 ρ' h4
      · rw [h2, kWhB_cont]
        exact ih m h3 ρ' h4
/-- a for that may return -/
def FStep (P : Ev → Prop) (Q : D → Prop) (w : Wd) (E : Res Fl) : Prop := (∃ ρ', (E = .ok (.next ρ') w ∨ E = .ok (.cont ρ') w) ∧ P ρ') ∨ (∃ v, E = .ok (.ret v) w ∧ Q v)
def FEnd (P : Ev → Prop) (Q : D → Prop) (w : Wd) (E : Res Fl) : Prop := (∃ ρ', E = .ok (.next ρ') w ∧ P ρ') ∨ (∃ v, E = .ok (.ret v) w ∧ Q v)
theorem FStep.next {P : Ev → Prop} {Q : D → Prop} {w : Wd} {ρ : Ev} (p : P ρ) : FStep P Q w (.ok (.next ρ) w) := .inl ⟨ρ, .inl rfl, p⟩
theorem FStep.cont {P : Ev → Prop} {Q : D → Prop} {w : Wd} {ρ : Ev} (p : P ρ) : FStep P Q w (.ok (.cont ρ) w) := .inl ⟨ρ, .inr rfl, p⟩
theorem FStep.ret {P : Ev → Prop} {Q : D → Prop} {w : Wd} {v : D} (p : Q v) : FStep P Q w (.ok (.ret v) w) := .inr ⟨v, rfl, p⟩
theorem for_R {g : D → Ev → Option Ev} {db : Ev → MM Fl} {w : Wd} (P : List D → Ev → Prop) (Q : D → Prop)
    (hb : ∀ d ds ρ, P (d :: ds) ρ → ∃ ρ1, g d ρ = some ρ1 ∧ FStep (P ds) Q w (db ρ1 w)) :
    ∀ ds ρ, P ds ρ → FEnd (P []) Q w (sFor.go g db ds ρ w) := by
  intro ds
  induction ds with
  | nil => intro ρ p; exact .inl ⟨ρ, rfl, p⟩
  | cons d ds ih =>
    intro ρ p
    obtain ⟨ρ1, h1, h2⟩ := hb d ds ρ p
    rw [go_cons, h1, ofO_some, kForG_ok]
    rcases h2 with ⟨ρ', h2 | h2, h3⟩ | ⟨v, h2, h3⟩
    · rw [h2, kForB_next]
      exact ih ρ' h3
    · rw [h2]
      exact ih ρ' h3
    · exact .inr ⟨v, by rw [h2]; rfl, h3⟩
theorem for_P {g : D → Ev → Option Ev} {db : Ev → MM Fl} {w : Wd} (P : List D → Ev → Prop)
    (hb : ∀ d ds ρ, P (d :: ds) ρ → ∃ ρ1, g d ρ = some ρ1 ∧ FStep (P ds) (fun _ => False) w (db ρ1 w)) :
    ∀ ds ρ, P ds ρ → WEnd (P []) w (sFor.go g db ds ρ w) := by
  intro ds ρ p
  rcases for_R P (fun _ => False) hb ds ρ p with h | ⟨_, _, h⟩
  · exact h
  · exact h.elim
/-- a for that draws -/
def SStep (P : Ev → Wd → Prop) (E : Res Fl) : Prop := ∃ ρ' w', E = .ok (.next ρ') w' ∧ P ρ' w'
theorem SStep.next {P : Ev → Wd → Prop} {w : Wd} {ρ : Ev} (p : P ρ w) : SStep P (.ok (.next ρ) w) := ⟨ρ, w, rfl, p⟩
theorem for_S {g : D → Ev → Option Ev} {db : Ev → MM Fl} (P : List D → Ev → Wd → Prop)
    (hb : ∀ d ds ρ w, P (d :: ds) ρ w → ∃ ρ1, g d ρ = some ρ1 ∧ SStep (P ds) (db ρ1 w)) :
    ∀ ds ρ w, P ds ρ w → SStep (P []) (sFor.go g db ds ρ w) := by
  intro ds
  induction ds with
  | nil => intro ρ w p; exact ⟨ρ, w, rfl, p⟩
  | cons d ds ih =>
    intro ρ w p
    obtain ⟨ρ1, h1, ρ', w', h2, h3⟩ := hb d ds ρ w p
    rw [go_cons, h1]
    simp only [ofO_some, kForG_ok, h2, kForB_next]
    exact ih ρ' w' h3
/-! ### lists of one's own, by simp -/
def kAppL (i : Nat) (ρ : Ev) : Option D → Res D → Res Fl
  | some (.list ds), r => kApp i ρ ds r
  | _, _ => .bad
@[simp] theorem kAppL_some (i : Nat) (ρ : Ev) (ds : List D) (r : Res D) : kAppL i ρ (some (.list ds)) r = kApp i ρ ds r := (rfl)
@[simp] theorem sApp_s (i : Nat) (d : Ev → MM D) (ρ : Ev) (ω : Wd) : sApp i d ρ ω = kAppL i ρ (look ρ i) (d ρ ω) := by
  unfold sApp
  cases look ρ i with
  | none => rfl
  | some v => cases v with
    | list ds => simp only [kAppL_some]; cases d ρ ω <;> rfl
    | _ => rfl
def kExtL (i : Nat) (ρ : Ev) : Option D → Res D → Res Fl
  | some (.list ds), r => kExt i ρ ds r
  | _, _ => .bad
@[simp] theorem kExtL_some (i : Nat) (ρ : Ev) (ds : List D) (r : Res D) : kExtL i ρ (some (.list ds)) r = kExt i ρ ds r := (rfl)
@[simp] theorem sExt_s (i : Nat) (d : Ev → MM D) (ρ : Ev) (ω : Wd) : sExt i d ρ ω = kExtL i ρ (look ρ i) (d ρ ω) := by
  unfold sExt
  cases look ρ i with
  | none => rfl
  | some v => cases v with
    | list ds =>
      simp only [kExtL_some]
      cases d ρ ω with
      | ok v w => cases v <;> rfl
      | _ => rfl
    | _ => rfl
def kIxL : Option D → Res D → Res D
  | some (.list ds), .ok (.int k) w => ofO (atI ds k) w
  | some (.list _), .exc e w => .exc e w
  | _, _ => .bad
@[simp] theorem kIxL_ok (ds : List D) (k : Int) (w : Wd) : kIxL (some (.list ds)) (.ok (.int k) w) = ofO (atI ds k) w := (rfl)
@[simp] theorem eIxO_s (i : Nat) (dk : Ev → MM D) (ρ : Ev) (ω : Wd) : eIxO i dk ρ ω = kIxL (look ρ i) (dk ρ ω) := by
  unfold eIxO
  cases look ρ i with
  | none => rfl
  | some v => cases v with
    | list ds =>
      cases dk ρ ω with
      | ok v w => cases v <;> rfl
      | _ => rfl
    | _ => rfl
def kLenL (w : Wd) : Option D → Res D
  | some (.list ds) => .ok (.int ds.length) w
  | _ => .bad
@[simp] theorem kLenL_some (ds : List D) (w : Wd) : kLenL w (some (.list ds)) = .ok (.int ds.length) w := (rfl)
@[simp] theorem eLenO_s (i : Nat) (ρ : Ev) (ω : Wd) : eLenO i ρ ω = kLenL ω (look ρ i) := by
  unfold eLenO
  cases look ρ i with
  | none => rfl
  | some v => cases v <;> rfl
def kSetIx2 (i : Nat) (ρ : Ev) (v : D) : Option D → Res D → Res Fl
  | some (.list ds), .ok (.int k) w => (ofO (ixN ds.length k) w).bind fun j w => .ok (.next (put ρ i (.list (ds.set j v)))) w
  | some (.list _), .exc e w => .exc e w
  | _, _ => .bad
def kSetIx (i : Nat) (dk : Ev → MM D) (ρ : Ev) : Res D → Res Fl
  | .ok v w => kSetIx2 i ρ v (look ρ i) (dk ρ w)
  | .exc e w => .exc e w
  | .bad => .bad
def kSetIx3 (i : Nat) (ρ : Ev) (v : D) (ds : List D) (w : Wd) : Option Nat → Res Fl
  | some j => .ok (.next (put ρ i (.list (ds.set j v)))) w
  | none => .bad
@[simp] theorem kSetIx_ok (i : Nat) (dk : Ev → MM D) (ρ : Ev) (v : D) (w : Wd) : kSetIx i dk ρ (.ok v w) = kSetIx2 i ρ v (look ρ i) (dk ρ w) := (rfl)
@[simp] theorem kSetIx2_ok (i : Nat) (ρ : Ev) (v : D) (ds : List D) (k : Int) (w : Wd) : kSetIx2 i ρ v (some (.list ds)) (.ok (.int k) w) = kSetIx3 i ρ v ds w (ixN ds.length k) := by
  show (ofO (ixN ds.length k) w).bind _ = _
  cases ixN ds.length k <;> rfl
@[simp] theorem kSetIx3_some (i : Nat) (ρ : Ev) (v : D) (ds : List D) (w : Wd) (j : Nat) : kSetIx3 i ρ v ds w (some j) = .ok (.next (put ρ i (.list (ds.set j v)))) w := (rfl)
@[simp] theorem sSetIx_s (i : Nat) (dv dk : Ev → MM D) (ρ : Ev) (ω : Wd) : sSetIx i dv dk ρ ω = kSetIx i dk ρ (dv ρ ω) := by
  unfold sSetIx
  cases dv ρ ω with
  | ok v w =>
    simp only [bind_ok, kSetIx_ok]
    cases look ρ i with
    | none => rfl
    | some u => cases u with
      | list ds =>
        cases dk ρ w with
        | ok k w2 => cases k <;> rfl
        | _ => rfl
      | _ => rfl
  | _ => rfl
/-! ### forms and matrices as values -/
def Fm.enc (f : Fm) : D := .tuple [.int f.a, .int f.b, .int f.c]
def Mt.enc (m : Mt) : D := .tuple [.int m.p, .int m.q, .int m.r, .int m.s]
@[simp] theorem Fm.eta (f : Fm) : (⟨f.a, f.b, f.c⟩ : Fm) = f := rfl
@[simp] theorem Mt.eta (f : Mt) : (⟨f.p, f.q, f.r, f.s⟩ : Mt) = f := rfl
theorem enc3 (a b c : Int) : PyData.tuple [.int a, .int b, .int c] = Fm.enc ⟨a, b, c⟩ := (rfl)
theorem enc4 (a b c d : Int) : PyData.tuple [.int a, .int b, .int c, .int d] = Mt.enc ⟨a, b, c, d⟩ := (rfl)
@[simp] theorem gT_fm (gs : List D → Ev → Option Ev) (f : Fm) (ρ : Ev) : gT gs f.enc ρ = gs [.int f.a, .int f.b, .int f.c] ρ := (rfl)
@[simp] theorem gT_mt (gs : List D → Ev → Option Ev) (f : Mt) (ρ : Ev) : gT gs f.enc ρ = gs [.int f.p, .int f.q, .int f.r, .int f.s] ρ := (rfl)
@[simp] theorem ix_fm0 (f : Fm) : vIx f.enc (.int 0) = some (.int f.a) := vIx_t0 _ _
@[simp] theorem ix_fm1 (f : Fm) : vIx f.enc (.int 1) = some (.int f.b) := vIx_t1 _ _ _
@[simp] theorem ix_fm2 (f : Fm) : vIx f.enc (.int 2) = some (.int f.c) := vIx_t2 _ _ _ _
@[simp] theorem ix_mt0 (f : Mt) : vIx f.enc (.int 0) = some (.int f.p) := vIx_t0 _ _
@[simp] theorem ix_mt1 (f : Mt) : vIx f.enc (.int 1) = some (.int f.q) := vIx_t1 _ _ _
@[simp] theorem ix_mt2 (f : Mt) : vIx f.enc (.int 2) = some (.int f.r) := vIx_t2 _ _ _ _
@[simp] theorem ix_mt3 (f : Mt) : vIx f.enc (.int 3) = some (.int f.s) := vIx_t3 _ _ _ _ _
@[simp] theorem seq_fm (f : Fm) : seqOf f.enc = some [.int f.a, .int f.b, .int f.c] := (rfl)
@[simp] theorem seq_mt (f : Mt) : seqOf f.enc = some [.int f.p, .int f.q, .int f.r, .int f.s] := (rfl)
theorem fl_fm (f : Fm) : Fl2 1 f.enc := fl_tuple (fl_cons (fl_int 0 _) (fl_cons (fl_int 0 _) (fl_cons (fl_int 0 _) fl_nil)))
theorem fl_mt (f : Mt) : Fl2 1 f.enc := fl_tuple (fl_cons (fl_int 0 _) (fl_cons (fl_int 0 _) (fl_cons (fl_int 0 _) (fl_cons (fl_int 0 _) fl_nil))))
theorem eqv_fm (f g : Fm) : PyData.eqv f.enc g.enc = decide (f = g) := by
  simp only [Fm.enc, PyData.eqv]
  rw [show [PyData.int f.a, .int f.b, .int f.c] = [f.a, f.b, f.c].map .int from rfl, show [PyData.int g.a, .int g.b, .int g.c] = [g.a, g.b, g.c].map .int from rfl, eqvAll_map eqv_int]
  congr 1
  simp [Fm.ext_iff]
theorem eqv_mt (f g : Mt) : PyData.eqv f.enc g.enc = decide (f = g) := by
  simp only [Mt.enc, PyData.eqv]
  rw [show [PyData.int f.p, .int f.q, .int f.r, .int f.s] = [f.p, f.q, f.r, f.s].map .int from rfl, show [PyData.int g.p, .int g.q, .int g.r, .int g.s] = [g.p, g.q, g.r, g.s].map .int from rfl, eqvAll_map eqv_int]
  congr 1
  simp [Mt.ext_iff]
@[simp] theorem vEq_fm (f g : Fm) : vEq f.enc g.enc = some (decide (f = g)) := by rw [vEq_of (fl_fm f) (fl_fm g) (by omega), eqv_fm]
@[simp] theorem vNe_fm (f g : Fm) : vNe f.enc g.enc = some (!decide (f = g)) := by rw [vNe_of (fl_fm f) (fl_fm g) (by omega), eqv_fm]
@[simp] theorem vEq_mt (f g : Mt) : vEq f.enc g.enc = some (decide (f = g)) := by rw [vEq_of (fl_mt f) (fl_mt g) (by omega), eqv_mt]
@[simp] theorem vNe_mt (f g : Mt) : vNe f.enc g.enc = some (!decide (f = g)) := by rw [vNe_of (fl_mt f) (fl_mt g) (by omega), eqv_mt]
theorem vEq_fms (f g : List Fm) : vEq (.list (f.map Fm.enc)) (.list (g.map Fm.enc)) = some (decide (f = g)) := by
  rw [vEq_of (fl_list (fl_map fl_fm)) (fl_list (fl_map fl_fm)) (by omega)]
  exact congrArg some (eqvAll_map eqv_fm f g)
theorem vNe_fms (f g : List Fm) : vNe (.list (f.map Fm.enc)) (.list (g.map Fm.enc)) = some (!decide (f = g)) := by
  rw [vNe_of (fl_list (fl_map fl_fm)) (fl_list (fl_map fl_fm)) (by omega)]
  exact congrArg (fun z => some (!z)) (eqvAll_map eqv_fm f g)
@[simp] theorem vIsN_fm (f : Fm) : vIsN f.enc .none = some false := (rfl)
@[simp] theorem vNotN_fm (f : Fm) : vNotN f.enc .none = some true := (rfl)
@[simp] theorem vIsN_mt (f : Mt) : vIsN f.enc .none = some false := (rfl)
@[simp] theorem vNotN_mt (f : Mt) : vNotN f.enc .none = some true := (rfl)
structure FB (n : Nat) (f : Fm) : Prop where
  a : Szc f.a n
  b : Szc f.b n
  c : Szc f.c n
structure MB4 (n : Nat) (m : Mt) : Prop where
  p : Szc m.p n
  q : Szc m.q n
  r : Szc m.r n
  s : Szc m.s n
theorem szcMono {x : Int} {m n : Nat} (h : Szc x m) (hn : m ≤ n) : Szc x n := ⟨Nat.lt_of_lt_of_le h.h (two_pow_le hn)⟩
theorem FB.mono {m n : Nat} {f : Fm} (h : FB m f) (hn : m ≤ n) : FB n f := ⟨szcMono h.a hn, szcMono h.b hn, szcMono h.c hn⟩
theorem MB4.mono {m n : Nat} {f : Mt} (h : MB4 m f) (hn : m ≤ n) : MB4 n f := ⟨szcMono h.p hn, szcMono h.q hn, szcMono h.r hn, szcMono h.s hn⟩
theorem vMul_le {a b : Int} {m n : Nat} (ha : Szc a m) (hb : Szc b n) (h : m + n < 1000000) : vMul (.int a) (.int b) = some (.int (a * b)) := vMul_int (mulOk_c (ha := ha) (hb := hb) h)
theorem FB.turn {n k : Nat} {f : Fm} {m : Mt} (hf : FB n f) (hm : MB4 k m) : FB (n + k + k + 5) (f.turn m) := by
  have := hf.a
  have := hf.b
  have := hf.c
  have := hm.p
  have := hm.q
  have := hm.r
  have := hm.s
  refine ⟨szcMono (inferInstance : Szc (f.a * m.p * m.p + f.b * m.p * m.r + f.c * m.r * m.r) _) (by omega), szcMono (inferInstance : Szc (2 * f.a * m.p * m.q + f.b * (m.p * m.s + m.q * m.r) + 2 * f.c * m.r * m.s) _) (by omega), szcMono (inferInstance : Szc (f.a * m.q * m.q + f.b * m.q * m.s + f.c * m.s * m.s) _) (by omega)⟩
theorem MB4.mul {n k : Nat} {x y : Mt} (hf : MB4 n x) (hm : MB4 k y) : MB4 (n + k + 1) (x.mul y) := by
  have := hf.p
  have := hf.q
  have := hf.r
  have := hf.s
  have := hm.p
  have := hm.q
  have := hm.r
  have := hm.s
  refine ⟨szcMono (inferInstance : Szc (x.p * y.p + x.q * y.r) _) (by omega), szcMono (inferInstance : Szc (x.p * y.q + x.q * y.s) _) (by omega), szcMono (inferInstance : Szc (x.r * y.p + x.s * y.r) _) (by omega), szcMono (inferInstance : Szc (x.r * y.q + x.s * y.s) _) (by omega)⟩
end M

set_option Elab.async false
set_option linter.all false
set_option maxRecDepth 100000
set_option maxHeartbeats 4000000
namespace M
/-! ### forms that the reduction meets -/
structure Nm (d : Int) (f : Fm) : Prop where
  a0 : 0 < f.a
  dd : f.disc = d
  a1 : f.a < 2 ^ 60
  b0 : -(2 ^ 61) < f.b
  b1 : f.b < 2 ^ 61
  d0 : d < 0
  d1 : -(2 ^ 40) < d
theorem Nm.dn {d : Int} {f : Fm} (h : Nm d f) : f.disc < 0 := by rw [h.dd]; exact h.d0
theorem Nm.c0 {d : Int} {f : Fm} (h : Nm d f) : 0 < f.c := neg_disc_pos h.dn h.a0
theorem sq_lt {x B : Int} (h : -B < x) (h2 : x < B) : x * x < B * B := by
  have := Int.mul_nonneg (show 0 ≤ B - x by omega) (show 0 ≤ B + x by omega)
  have e : (B - x) * (B + x) = B * B - x * x := by grind
  have := Int.mul_pos (show 0 < B - x by omega) (show 0 < B + x by omega)
  omega
theorem Nm.c1 {d : Int} {f : Fm} (h : Nm d f) : f.c < 2 ^ 125 := by
  have e := h.dd
  have hc := h.c0
  unfold Fm.disc at e
  have hb := sq_lt h.b0 h.b1
  have h1 := Int.mul_le_mul_of_nonneg_right (show 1 ≤ f.a by have := h.a0; omega) (show 0 ≤ f.c by omega)
  have e2 : 4 * f.a * f.c = 4 * (f.a * f.c) := by grind
  have := h.d1
  omega
theorem Nm.fb {d : Int} {f : Fm} (h : Nm d f) : FB 130 f := by
  have := h.a0; have := h.a1; have := h.b0; have := h.b1; have := h.c0; have := h.c1
  exact ⟨sz_of (by omega) (by omega), sz_of (by omega) (by omega), sz_of (by omega) (by omega)⟩
theorem Nm.n1 {d : Int} {f : Fm} (h : Nm d f) : Nm d f.n1 := by
  obtain ⟨n1, n2, n3, n4⟩ := Fm.n1_spec h.a0
  have := h.a0; have := h.a1
  exact ⟨by omega, by rw [n4]; exact h.dd, by omega, by omega, by omega, h.d0, h.d1⟩
theorem Nm.next {d : Int} {f : Fm} (h : Nm d f) (hs : f.n1.sw = true) : Nm d f.next := by
  obtain ⟨n1, n2, n3, n4⟩ := Fm.n1_spec h.a0
  obtain ⟨g1, g2⟩ := next_pos h.a0 h.dn
  have := sw_lt hs
  have := h.a1
  refine ⟨g1, by rw [g2]; exact h.dd, ?_, ?_, ?_, h.d0, h.d1⟩ <;> rw [Fm.next_eq] <;> simp only <;> omega
theorem Nm.sh {d : Int} {f : Fm} (h : Nm d f) : Szc f.sh 62 := by
  have := h.a0; have := h.a1; have := h.b0; have := h.b1
  unfold Fm.sh
  refine ⟨?_⟩
  rw [Int.natAbs_neg]
  exact Nat.lt_of_le_of_lt (Int.natAbs_ediv_le_natAbs _ _) (by omega)
theorem Nm.red {d : Int} {f : Fm} (h : Nm d f) {m : Mt} (hm : m.det = 1) (hr : (f.turn m).Red) (ha : (f.turn m).a ≤ f.a) : Nm d (f.turn m) := by
  have := hr.pos; have := hr.b1; have := hr.b2; have := h.a1
  refine ⟨by omega, ?_, by omega, by omega, by omega, h.d0, h.d1⟩
  rw [Fm.disc_turn, hm, h.dd]; omega
theorem Nm.tw {d : Int} {f : Fm} (h : Nm d f) {m : Mt} (hg : Nm d (f.turn m)) : MB4 250 m := by
  have ha := h.a0
  have hd := h.dn
  obtain ⟨p1, p2⟩ := entry_bound ha hd (x := m.p) (y := m.r)
  obtain ⟨q1, q2⟩ := entry_bound ha hd (x := m.q) (y := m.s)
  have e1 : f.at m.p m.r = (f.turn m).a := rfl
  have e2 : f.at m.q m.s = (f.turn m).c := rfl
  have c0 := h.c0; have c1 := h.c1; have a1 := h.a1
  have g0 := hg.a0; have g1 := hg.a1; have k0 := hg.c0; have k1 := hg.c1
  rw [e1] at p1 p2
  rw [e2] at q1 q2
  have bd : ∀ {u v : Int}, 0 < u → u < 2 ^ 125 → 0 < v → v < 2 ^ 125 → 4 * u * v ≤ (2 ^ 252 : Nat) := by
    intro u v u0 u1 v0 v1
    have h1 := Int.mul_le_mul (show u ≤ 2 ^ 125 by omega) (show v ≤ 2 ^ 125 by omega) (by omega) (by omega)
    have e : 4 * u * v = 4 * (u * v) := by grind
    omega
  have fin : ∀ {x u v : Int}, x * x ≤ 4 * u * v → 0 < u → u < 2 ^ 125 → 0 < v → v < 2 ^ 125 → Szc x 250 := by
    intro x u v hx u0 u1 v0 v1
    refine ⟨?_⟩
    have h1 := bd u0 u1 v0 v1
    have h2 : x * x ≤ (2 ^ 126 : Int) * 2 ^ 126 := by omega
    rcases (show x.natAbs < 2 ^ 250 ∨ (2 ^ 250 : Int) ≤ x ∨ x ≤ -(2 ^ 250) by omega) with z | z | z
    · exact z
    · have := Int.mul_le_mul z z (by omega) (by omega); omega
    · have := Int.mul_le_mul (show (2 ^ 250 : Int) ≤ -x by omega) (show (2 ^ 250 : Int) ≤ -x by omega) (by omega) (by omega)
      have e : -x * -x = x * x := by grind
      omega
  exact ⟨fin p2 c0 c1 g0 (by omega), fin q2 c0 c1 k0 k1, fin p1 ha (by omega) g0 (by omega), fin q1 ha (by omega) k0 k1⟩
theorem mb_shift {t : Int} {n : Nat} (h : Szc t n) (hn : 1 ≤ n) : MB4 n ⟨1, t, 0, 1⟩ :=
  ⟨szcMono (inferInstance : Szc 1 1) hn, h, szcMono (inferInstance : Szc 0 0) (by omega), szcMono (inferInstance : Szc 1 1) hn⟩
theorem mb_tn : MB4 1 Mt.tn := ⟨⟨by decide⟩, ⟨by decide⟩, ⟨by decide⟩, ⟨by decide⟩⟩
theorem mb_one : MB4 1 Mt.one := ⟨⟨by decide⟩, ⟨by decide⟩, ⟨by decide⟩, ⟨by decide⟩⟩
end M

set_option Elab.async false
set_option linter.all false
set_option maxRecDepth 100000
set_option maxHeartbeats 4000000
namespace M
/-! ### products of two linear forms -/
def prodF (p q r s : Int) : Fm := ⟨p * r, p * s + q * r, q * s⟩
theorem prodF_disc (p q r s : Int) : (prodF p q r s).disc = (p * s - q * r) * (p * s - q * r) := by simp only [prodF, Fm.disc]; grind
theorem prodF_turn (p q r s : Int) (m : Mt) : (prodF p q r s).turn m = prodF (p * m.p + q * m.r) (p * m.q + q * m.s) (r * m.p + s * m.r) (r * m.q + s * m.s) := by
  ext <;> simp only [prodF, Fm.turn, Fm.at] <;> grind
theorem dt_turn (p q r s : Int) (m : Mt) : (p * m.p + q * m.r) * (r * m.q + s * m.s) - (p * m.q + q * m.s) * (r * m.p + s * m.r) = (p * s - q * r) * m.det := by
  simp only [Mt.det]; grind
/-- the point on a line -/
def upR (a b : Int) : List Int := if rLt [a, b] [-a, -b] then [-a, -b] else [a, b]
def plainP (x y : Int) : List Int := upR (x / Int.gcd x y) (y / Int.gcd x y)
theorem upR_neg (a b : Int) : upR (-a) (-b) = upR a b := by
  unfold upR
  rw [Int.neg_neg, Int.neg_neg]
  cases h : rLt [a, b] [-a, -b] with
  | true =>
    cases g : rLt [-a, -b] [a, b] with
    | true => have := rLt_trans h g; rw [rLt_irrefl] at this; cases this
    | false => rfl
  | false =>
    cases g : rLt [-a, -b] [a, b] with
    | true => rfl
    | false => exact rLt_tri g h
theorem upR_or (a b : Int) : upR a b = [a, b] ∨ upR a b = [-a, -b] := by unfold upR; split <;> simp
theorem gcd_pos_of {x y : Int} (h : ¬ (x = 0 ∧ y = 0)) : 0 < (Int.gcd x y : Int) := by
  have : Int.gcd x y ≠ 0 := fun z => by
    rw [Int.gcd_eq_zero_iff] at z
    exact h z
  omega
theorem plainP_mul {x y k : Int} (h : ¬ (x = 0 ∧ y = 0)) (hk : k ≠ 0) : plainP (k * x) (k * y) = plainP x y := by
  have g := gcd_pos_of h
  unfold plainP
  have e : (Int.gcd (k * x) (k * y) : Int) = k.natAbs * Int.gcd x y := by rw [Int.gcd_mul_left, Int.natCast_mul]
  rw [e]
  have dx : (Int.gcd x y : Int) ∣ x := Int.gcd_dvd_left ..
  have dy : (Int.gcd x y : Int) ∣ y := Int.gcd_dvd_right ..
  rcases (show (k.natAbs : Int) = k ∧ 0 < k ∨ (k.natAbs : Int) = -k ∧ 0 < -k by omega) with ⟨h1, h2⟩ | ⟨h1, h2⟩
  · rw [h1, Int.mul_ediv_mul_of_pos _ _ h2, Int.mul_ediv_mul_of_pos _ _ h2]
  · rw [h1]
    have ex : k * x = -k * -x := by grind
    have ey : k * y = -k * -y := by grind
    rw [ex, ey, Int.mul_ediv_mul_of_pos _ _ h2, Int.mul_ediv_mul_of_pos _ _ h2, Int.neg_ediv_of_dvd dx, Int.neg_ediv_of_dvd dy]
    exact upR_neg _ _
/-- what a point of the line is -/
theorem plainP_spec {x y : Int} (h : ¬ (x = 0 ∧ y = 0)) : ∃ u v k : Int, plainP x y = [u, v] ∧ Int.gcd u v = 1 ∧ k ≠ 0 ∧ x = k * u ∧ y = k * v := by
  have g := gcd_pos_of h
  have dx : (Int.gcd x y : Int) ∣ x := Int.gcd_dvd_left ..
  have dy : (Int.gcd x y : Int) ∣ y := Int.gcd_dvd_right ..
  have c1 : Int.gcd (x / Int.gcd x y) (y / Int.gcd x y) = 1 := Int.gcd_ediv_gcd_ediv_gcd (by omega)
  have ex := Int.mul_ediv_cancel' dx
  have ey := Int.mul_ediv_cancel' dy
  rcases upR_or (x / Int.gcd x y) (y / Int.gcd x y) with e | e
  · exact ⟨_, _, Int.gcd x y, e, c1, by omega, ex.symm, ey.symm⟩
  · refine ⟨_, _, -(Int.gcd x y : Int), e, by rw [Int.gcd_neg, Int.neg_gcd]; exact c1, by omega, ?_, ?_⟩
    · have : -(Int.gcd x y : Int) * -(x / Int.gcd x y) = Int.gcd x y * (x / Int.gcd x y) := by grind
      omega
    · have : -(Int.gcd x y : Int) * -(y / Int.gcd x y) = Int.gcd x y * (y / Int.gcd x y) := by grind
      omega
/-- the two pairs that zero_points forms -/
def zx1 (f : Fm) (root : Int) : Int × Int := if f.a ≠ 0 then (-f.b + root, 2 * f.a) else (1, 0)
def zx2 (f : Fm) (root : Int) : Int × Int := if f.a ≠ 0 then (-f.b - root, 2 * f.a) else (-f.c, f.b)
def zpts (f : Fm) (root : Int) : List (List Int) := sortUR [plainP (zx1 f root).1 (zx1 f root).2, plainP (zx2 f root).1 (zx2 f root).2]
theorem sortUR_two {a b c d : List Int} (h : a = c ∧ b = d ∨ a = d ∧ b = c) : sortUR [a, b] = sortUR [c, d] := by
  refine rlt_ext (sortUR_lt _) (sortUR_lt _) fun z => ?_
  rw [mem_sortUR, mem_sortUR]
  rcases h with ⟨rfl, rfl⟩ | ⟨rfl, rfl⟩
  · exact Iff.rfl
  · simp [or_comm]
theorem zpts_prod {p q r s root : Int} (hd : p * s - q * r ≠ 0) (hr : root = p * s - q * r ∨ root = -(p * s - q * r)) : zpts (prodF p q r s) root = sortUR [plainP q (-p), plainP s (-r)] := by
  have n1 : ¬ (q = 0 ∧ -p = 0) := by
    rintro ⟨h1, h2⟩
    have : p = 0 := by omega
    subst h1; subst this; simp at hd
  have n2 : ¬ (s = 0 ∧ -r = 0) := by
    rintro ⟨h1, h2⟩
    have : r = 0 := by omega
    subst h1; subst this; simp at hd
  unfold zpts zx1 zx2
  by_cases ha : p * r = 0
  · have e : (prodF p q r s).a = 0 := ha
    simp only [e, ne_eq, not_true_eq_false, if_false]
    rcases Int.mul_eq_zero.1 ha with h | h
    · subst h
      have hq : q ≠ 0 := fun z => by subst z; simp at hd
      have hrr : r ≠ 0 := fun z => by subst z; simp at hd
      refine sortUR_two (.inl ⟨?_, ?_⟩)
      · have := plainP_mul (x := 1) (y := 0) (k := q) (by omega) hq
        simpa using this.symm
      · have := plainP_mul (x := s) (y := -r) (k := -q) n2 (by omega)
        rw [← this]
        congr 1 <;> simp only [prodF] <;> grind
    · subst h
      have hs : s ≠ 0 := fun z => by subst z; simp at hd
      have hp : p ≠ 0 := fun z => by subst z; simp at hd
      refine sortUR_two (.inr ⟨?_, ?_⟩)
      · have := plainP_mul (x := 1) (y := 0) (k := s) (by omega) hs
        simpa using this.symm
      · have := plainP_mul (x := q) (y := -p) (k := -s) n1 (by omega)
        rw [← this]
        congr 1 <;> simp only [prodF] <;> grind
  · have hp : p ≠ 0 := fun z => ha (by rw [z]; simp)
    have hrr : r ≠ 0 := fun z => ha (by rw [z]; simp)
    have e : (prodF p q r s).a ≠ 0 := ha
    simp only [if_pos e]
    have A := plainP_mul (x := q) (y := -p) (k := -2 * r) n1 (by omega)
    have B := plainP_mul (x := s) (y := -r) (k := -2 * p) n2 (by omega)
    rcases hr with h | h <;> subst h
    · refine sortUR_two (.inl ⟨?_, ?_⟩)
      · rw [← A]; congr 1 <;> simp only [prodF] <;> grind
      · rw [← B]; congr 1 <;> simp only [prodF] <;> grind
    · refine sortUR_two (.inr ⟨?_, ?_⟩)
      · rw [← B]; congr 1 <;> simp only [prodF] <;> grind
      · rw [← A]; congr 1 <;> simp only [prodF] <;> grind
/-- the matrix to a form with the last number 0 -/
def lastM (u v c1 c2 : Int) : Mt := ⟨-c2, -u, c1, -v⟩
theorem lastM_det {u v c1 c2 : Int} (h : u * c1 + v * c2 = 1) : (lastM u v c1 c2).det = 1 := by simp only [lastM, Mt.det]; grind
theorem last_one {p q r s u v c1 c2 : Int} (h : u * c1 + v * c2 = 1) (h0 : p * u + q * v = 0) : ∃ a, (prodF p q r s).turn (lastM u v c1 c2) = ⟨a, p * s - q * r, 0⟩ := by
  refine ⟨((prodF p q r s).turn (lastM u v c1 c2)).a, ?_⟩
  have d := dt_turn p q r s (lastM u v c1 c2)
  rw [lastM_det h] at d
  have e := prodF_turn p q r s (lastM u v c1 c2)
  have q0 : p * (lastM u v c1 c2).q + q * (lastM u v c1 c2).s = 0 := by simp only [lastM]; grind
  rw [q0] at d e
  rw [e]
  ext
  · rfl
  · simp only [prodF]; grind
  · simp only [prodF]; grind
theorem last_two {p q r s u v c1 c2 : Int} (h : u * c1 + v * c2 = 1) (h0 : r * u + s * v = 0) : ∃ a, (prodF p q r s).turn (lastM u v c1 c2) = ⟨a, -(p * s - q * r), 0⟩ := by
  refine ⟨((prodF p q r s).turn (lastM u v c1 c2)).a, ?_⟩
  have d := dt_turn p q r s (lastM u v c1 c2)
  rw [lastM_det h] at d
  have e := prodF_turn p q r s (lastM u v c1 c2)
  have q0 : r * (lastM u v c1 c2).q + s * (lastM u v c1 c2).s = 0 := by simp only [lastM]; grind
  rw [q0] at d e
  rw [e]
  ext
  · rfl
  · simp only [prodF]; grind
  · simp only [prodF]; grind
theorem low_turn (a k t : Int) : (⟨a, k, 0⟩ : Fm).turn ⟨1, 0, t, 1⟩ = ⟨a + k * t, k, 0⟩ := by ext <;> simp only [Fm.turn, Fm.at] <;> grind
/-- the normal form is one -/
theorem split_uniq {a a2 k : Int} {n : Mt} (hk : 0 < k) (h1 : 0 ≤ a) (h2 : a < k) (g1 : 0 ≤ a2) (g2 : a2 < k) (hn : n.det = 1) (e : (⟨a, k, 0⟩ : Fm).turn n = ⟨a2, k, 0⟩) : a2 = a := by
  have ea := congrArg Fm.a e
  have eb := congrArg Fm.b e
  have ec := congrArg Fm.c e
  simp only [Fm.turn, Fm.at] at ea eb ec
  unfold Mt.det at hn
  have c0 : n.q * (a * n.q + k * n.s) = 0 := by grind
  rcases Int.mul_eq_zero.1 c0 with h | h
  · rw [h] at hn eb
    have ps : n.p * n.s = 1 := by omega
    have pp : n.p * n.p = 1 := by rcases unit_or ps with ⟨z, _⟩ | ⟨z, _⟩ <;> rw [z] <;> rfl
    have ea2 : a2 = a * (n.p * n.p) + k * (n.p * n.r) := by grind
    rw [pp] at ea2
    have h5 : k * (n.p * n.r) < k := by omega
    have h6 : -k < k * (n.p * n.r) := by omega
    have : n.p * n.r = 0 := by
      rcases (show n.p * n.r = 0 ∨ 1 ≤ n.p * n.r ∨ n.p * n.r ≤ -1 by omega) with z | z | z
      · exact z
      · have := Int.mul_le_mul_of_nonneg_left z (Int.le_of_lt hk); omega
      · have := Int.mul_le_mul_of_nonneg_left z (Int.le_of_lt hk); omega
    rw [this] at ea2
    omega
  · exfalso
    have eb2 : n.q * (a * n.p + k * n.r) = k := by grind
    have : k * (n.p * n.s - n.q * n.r) = n.p * (a * n.q + k * n.s) - n.q * (a * n.p + k * n.r) := by grind
    rw [hn, h, eb2] at this
    omega
end M

set_option Elab.async false
set_option linter.all false
set_option maxRecDepth 100000
set_option maxHeartbeats 4000000
namespace M
/-! ### lattices of pairs -/
structure Lat (L : Int → Int → Prop) : Prop where
  z : L 0 0
  sub : ∀ {p q r s}, L p q → L r s → L (p - r) (q - s)
theorem Lat.neg {L : Int → Int → Prop} (h : Lat L) {p q : Int} (h1 : L p q) : L (-p) (-q) := by
  have := h.sub h.z h1
  rwa [Int.zero_sub, Int.zero_sub] at this
theorem Lat.add {L : Int → Int → Prop} (h : Lat L) {p q r s : Int} (h1 : L p q) (h2 : L r s) : L (p + r) (q + s) := by
  have := h.sub h1 (h.neg h2)
  rwa [Int.sub_neg, Int.sub_neg] at this
theorem Lat.nmul {L : Int → Int → Prop} (h : Lat L) {p q : Int} (h1 : L p q) : ∀ n : Nat, L (n * p) (n * q)
  | 0 => by simpa using h.z
  | n + 1 => by
    have := h.add (h.nmul h1 n) h1
    have e : ∀ x : Int, ((n + 1 : Nat) : Int) * x = n * x + x := by intro x; rw [Int.natCast_add]; grind
    rw [e, e]
    exact this
theorem Lat.mul {L : Int → Int → Prop} (h : Lat L) {p q : Int} (h1 : L p q) (n : Int) : L (n * p) (n * q) := by
  rcases Int.eq_nat_or_neg n with ⟨k, rfl | rfl⟩
  · exact h.nmul h1 k
  · have := h.neg (h.nmul h1 k)
    rwa [Int.neg_mul, Int.neg_mul]
theorem Lat.lin {L : Int → Int → Prop} (h : Lat L) {p q r s : Int} (h1 : L p q) (h2 : L r s) (m n : Int) : L (m * p + n * r) (m * q + n * s) := h.add (h.mul h1 m) (h.mul h2 n)
/-- one step of the reduction of rows -/
theorem red_step {L : Int → Int → Prop} (h : Lat L) {X Y r s g u v : Int} (hg : g ≠ 0) (e : Y * u + s * v = g) (d1 : g ∣ Y) (d2 : g ∣ s) :
    (L X Y ∧ L r s) ↔ (L (u * X + v * r) g ∧ L (X - Y / g * (u * X + v * r)) 0 ∧ L (r - s / g * (u * X + v * r)) 0) := by
  have e1 : Y / g * g = Y := Int.ediv_mul_cancel d1
  have e2 : s / g * g = s := Int.ediv_mul_cancel d2
  have eg : u * Y + v * s = g := by rw [← e, Int.mul_comm u, Int.mul_comm v]
  constructor
  · rintro ⟨h1, h2⟩
    have hf := h.lin h1 h2 u v
    rw [eg] at hf
    refine ⟨hf, ?_, ?_⟩
    · have := h.sub h1 (h.mul hf (Y / g))
      rwa [e1, Int.sub_self] at this
    · have := h.sub h2 (h.mul hf (s / g))
      rwa [e2, Int.sub_self] at this
  · rintro ⟨hf, h1, h2⟩
    constructor
    · have := h.add h1 (h.mul hf (Y / g))
      rwa [e1, Int.zero_add, Int.sub_add_cancel] at this
    · have := h.add h2 (h.mul hf (s / g))
      rwa [e2, Int.zero_add, Int.sub_add_cancel] at this
theorem gcd_flat {L : Int → Int → Prop} (h : Lat L) {a b g u v : Int} (e : a * u + b * v = g) (d1 : g ∣ a) (d2 : g ∣ b) : (L a 0 ∧ L b 0) ↔ L g 0 := by
  constructor
  · rintro ⟨h1, h2⟩
    have := h.lin h1 h2 u v
    rwa [Int.mul_zero, Int.mul_zero, Int.add_zero, Int.mul_comm u, Int.mul_comm v, e] at this
  · intro hg
    obtain ⟨c, rfl⟩ := d1
    obtain ⟨d, rfl⟩ := d2
    have h1 := h.mul hg c
    have h2 := h.mul hg d
    rw [Int.mul_zero] at h1 h2
    exact ⟨by rwa [Int.mul_comm], by rwa [Int.mul_comm]⟩
/-- closed under the generator w, w w = s w + t -/
def Om (s t : Int) (L : Int → Int → Prop) : Prop := ∀ p q, L p q → L (t * q) (p + s * q)
structure Rg where
  s : Int
  t : Int
abbrev El := Int × Int
def Rg.mul (R : Rg) (u v : El) : El := (u.1 * v.1 + R.t * u.2 * v.2, u.1 * v.2 + u.2 * v.1 + R.s * u.2 * v.2)
theorem Rg.comm (R : Rg) (u v : El) : R.mul u v = R.mul v u := by
  simp only [Rg.mul, Prod.mk.injEq]
  constructor <;> grind
theorem Rg.assoc (R : Rg) (u v w : El) : R.mul (R.mul u v) w = R.mul u (R.mul v w) := by
  simp only [Rg.mul, Prod.mk.injEq]
  constructor <;> grind
structure Id3 where
  k : Int
  a : Int
  β : Int
/-- the members of (k, a, β) -/
def Id3.has (I : Id3) (p q : Int) : Prop := I.k ∣ q ∧ I.k * I.a ∣ p - I.β * q
structure Id3.Ok (R : Rg) (I : Id3) : Prop where
  k : 0 < I.k
  a : 0 < I.a
  d : I.a ∣ I.β * I.β + R.s * I.β - R.t
theorem Id3.lat (I : Id3) : Lat I.has := by
  refine ⟨⟨Int.dvd_zero _, by simp⟩, fun {p q r s} h1 h2 => ⟨Int.dvd_sub h1.1 h2.1, ?_⟩⟩
  have := Int.dvd_sub h1.2 h2.2
  have e : p - r - I.β * (q - s) = p - I.β * q - (r - I.β * s) := by grind
  rw [e]
  exact this
theorem Id3.gen1 (I : Id3) : I.has (I.k * I.a) 0 := ⟨Int.dvd_zero _, by simp⟩
theorem Id3.gen2 (I : Id3) : I.has (I.k * I.β) I.k := ⟨Int.dvd_refl _, by rw [Int.mul_comm I.β, Int.sub_self]; exact Int.dvd_zero _⟩
theorem Id3.om {R : Rg} {I : Id3} (h : I.Ok R) : Om R.s R.t I.has := by
  rintro p q ⟨⟨n, hn⟩, ⟨m, hm⟩⟩
  obtain ⟨c, hc⟩ := h.d
  have ep : p = I.β * q + I.k * I.a * m := by omega
  refine ⟨⟨I.β * n + I.a * m + R.s * n, by rw [ep, hn]; grind⟩, ⟨-(I.β * m) - R.s * 0 - n * c, ?_⟩⟩
  rw [ep, hn]
  have : R.t * (I.k * n) - I.β * (I.β * (I.k * n) + I.k * I.a * m + R.s * (I.k * n)) = -(I.k * n * (I.β * I.β + R.s * I.β - R.t)) - I.k * I.a * (I.β * m) := by grind
  rw [this, hc]
  grind
/-- the least lattice that has the generators -/
theorem Id3.least {I : Id3} {L : Int → Int → Prop} (h : Lat L) (h1 : L (I.k * I.a) 0) (h2 : L (I.k * I.β) I.k) {p q : Int} (hp : I.has p q) : L p q := by
  obtain ⟨⟨n, hn⟩, ⟨m, hm⟩⟩ := hp
  have := h.lin h1 h2 m n
  have e1 : m * (I.k * I.a) + n * (I.k * I.β) = p := by
    have ep : p = I.β * q + I.k * I.a * m := by omega
    rw [ep, hn]; grind
  have e2 : m * 0 + n * I.k = q := by rw [hn]; grind
  rwa [e1, e2] at this
theorem Id3.same {R : Rg} {I J : Id3} (hI : I.Ok R) (hJ : J.Ok R) (h1 : ∀ p q, I.has p q → J.has p q) (h2 : ∀ p q, J.has p q → I.has p q) : I.k = J.k ∧ I.a = J.a ∧ I.a ∣ I.β - J.β := by
  have k1 := (h1 _ _ I.gen2).1
  have k2 := (h2 _ _ J.gen2).1
  have ek : I.k = J.k := Int.dvd_antisymm (Int.le_of_lt hI.k) (Int.le_of_lt hJ.k) k2 k1
  have a1 := (h1 _ _ I.gen1).2
  have a2 := (h2 _ _ J.gen1).2
  rw [Int.mul_zero, Int.sub_zero] at a1 a2
  have ea : I.k * I.a = J.k * J.a := Int.dvd_antisymm (Int.le_of_lt (Int.mul_pos hI.k hI.a)) (Int.le_of_lt (Int.mul_pos hJ.k hJ.a)) a2 a1
  have ea2 : I.a = J.a := by rw [ek] at ea; exact Int.eq_of_mul_eq_mul_left (by have := hJ.k; omega) ea
  refine ⟨ek, ea2, ?_⟩
  have b := (h1 _ _ I.gen2).2
  rw [← ek, ← ea2] at b
  have e : I.k * I.β - J.β * I.k = I.k * (I.β - J.β) := by grind
  rw [e] at b
  exact Int.dvd_of_mul_dvd_mul_left (by have := hI.k; omega) b
def Id3.nm (I : Id3) : Int := I.k * I.k * I.a
/-- the wedge of two members is a multiple of the norm -/
theorem Id3.wedge {I : Id3} {p q r s : Int} (h1 : I.has p q) (h2 : I.has r s) : I.nm ∣ p * s - r * q := by
  obtain ⟨⟨n, hn⟩, ⟨m, hm⟩⟩ := h1
  obtain ⟨⟨n2, hn2⟩, ⟨m2, hm2⟩⟩ := h2
  have ep : p = I.β * q + I.k * I.a * m := by omega
  have er : r = I.β * s + I.k * I.a * m2 := by omega
  refine ⟨m * n2 - m2 * n, ?_⟩
  rw [ep, er, hn, hn2]
  unfold Id3.nm
  grind
theorem Id3.sub_nm {I J : Id3} (h : ∀ p q, I.has p q → J.has p q) : J.nm ∣ I.nm := by
  have := J.wedge (h _ _ I.gen1) (h _ _ I.gen2)
  have e : I.k * I.a * I.k - I.k * I.β * 0 = I.nm := by unfold Id3.nm; grind
  rwa [e] at this
theorem Id3.nm_pos {R : Rg} {I : Id3} (h : I.Ok R) : 0 < I.nm := Int.mul_pos (Int.mul_pos h.k h.k) h.a
theorem Id3.sub_eq {R : Rg} {I J : Id3} (hI : I.Ok R) (hJ : J.Ok R) (h : ∀ p q, I.has p q → J.has p q) (e : I.nm = J.nm) : ∀ p q, J.has p q → I.has p q := by
  have k1 := (h _ _ I.gen2).1
  have a1 := (h _ _ I.gen1).2
  rw [Int.mul_zero, Int.sub_zero] at a1
  obtain ⟨c, hc⟩ := k1
  obtain ⟨d, hd⟩ := a1
  have kp := hI.k
  have jp := hJ.k
  have Ap := Int.mul_pos hI.k hI.a
  have Bp := Int.mul_pos hJ.k hJ.a
  have cp : 0 < c := by
    rcases (show c ≤ 0 ∨ 0 < c by omega) with z | z
    · have := Int.mul_nonpos_of_nonneg_of_nonpos (Int.le_of_lt jp) z; omega
    · exact z
  have dp : 0 < d := by
    rcases (show d ≤ 0 ∨ 0 < d by omega) with z | z
    · have := Int.mul_nonpos_of_nonneg_of_nonpos (Int.le_of_lt Bp) z; omega
    · exact z
  have e3 : I.nm = J.nm * (c * d) := by
    have : I.nm = I.k * (I.k * I.a) := by unfold Id3.nm; grind
    rw [this, hd, hc]
    unfold Id3.nm
    grind
  have e2 : J.nm * (c * d) = J.nm * 1 := by rw [← e3, e, Int.mul_one]
  have cd := Int.eq_of_mul_eq_mul_left (by have := Id3.nm_pos hJ; omega) e2
  have c1 : c = 1 := Int.le_antisymm (by
    have := Int.mul_le_mul_of_nonneg_left (show 1 ≤ d by omega) (Int.le_of_lt cp); omega) cp
  have d1 : d = 1 := by rw [c1, Int.one_mul] at cd; exact cd
  rw [c1, Int.mul_one] at hc
  rw [d1, Int.mul_one] at hd
  intro p q hp
  refine Id3.least I.lat ?_ ?_ hp
  · rw [← hd]; exact I.gen1
  · have g := (h _ _ I.gen2).2
    refine ⟨by rw [hc]; exact Int.dvd_refl _, ?_⟩
    rw [hd, ← hc]
    rw [← hc] at g
    have g' : J.k * J.a ∣ I.k * I.β - J.β * I.k := by rw [← hc] at *; exact g
    have := Int.dvd_neg.2 g'
    rw [← hc] at this
    have e3 : -(I.k * I.β - J.β * I.k) = I.k * J.β - I.β * I.k := by grind
    rwa [e3] at this
end M

set_option Elab.async false
set_option linter.all false
set_option maxRecDepth 100000
set_option maxHeartbeats 4000000
namespace M
/-! ### spans -/
def OS (R : Rg) (ms : List El) (p q : Int) : Prop := ∀ L : Int → Int → Prop, Lat L → Om R.s R.t L → (∀ m ∈ ms, L m.1 m.2) → L p q
theorem OS.lat {R : Rg} {ms : List El} : Lat (OS R ms) := ⟨fun L h _ _ => h.z, fun h1 h2 L h o m => h.sub (h1 L h o m) (h2 L h o m)⟩
theorem OS.om {R : Rg} {ms : List El} : Om R.s R.t (OS R ms) := fun p q h1 L h o m => o p q (h1 L h o m)
theorem OS.mem {R : Rg} {ms : List El} {m : El} (h : m ∈ ms) : OS R ms m.1 m.2 := fun L _ _ hm => hm m h
theorem om_mul {R : Rg} {L : Int → Int → Prop} (h : Lat L) (o : Om R.s R.t L) {u : El} (hu : L u.1 u.2) (v : El) : L (R.mul u v).1 (R.mul u v).2 := by
  have := h.lin hu (o _ _ hu) v.1 v.2
  have e1 : v.1 * u.1 + v.2 * (R.t * u.2) = (R.mul u v).1 := by simp only [Rg.mul]; grind
  have e2 : v.1 * u.2 + v.2 * (u.1 + R.s * u.2) = (R.mul u v).2 := by simp only [Rg.mul]; grind
  rwa [e1, e2] at this
/-- the form (C; A, B) of a lattice that is closed under w -/
theorem hnf_of {R : Rg} {L : Int → Int → Prop} (h : Lat L) (o : Om R.s R.t L) {A B C n : Int} (hA : 0 ≤ A) (hC : 0 ≤ C) (hn : n ≠ 0) (ln : L n 0) (gA : L A 0) (gB : L B C)
    (gen : ∀ p q, L p q → ∃ x y, p = x * A + y * B ∧ q = y * C) : 0 < C ∧ 0 < A ∧ C ∣ A ∧ C ∣ B ∧ (Id3.mk C (A / C) (B / C)).Ok R ∧ ∀ p q, (Id3.mk C (A / C) (B / C)).has p q ↔ L p q := by
  have C0 : C ≠ 0 := by
    rintro rfl
    obtain ⟨x, y, _, e⟩ := gen _ _ (o _ _ ln)
    simp at e
    exact hn e
  have Cp : 0 < C := by omega
  have flat : ∀ p, L p 0 → A ∣ p := by
    intro p hp
    obtain ⟨x, y, e1, e2⟩ := gen _ _ hp
    have : y = 0 := (Int.mul_eq_zero.1 e2.symm).resolve_right C0
    exact ⟨x, by rw [e1, this]; grind⟩
  have A0 : A ≠ 0 := by
    rintro rfl
    have := flat n ln
    exact hn (Int.zero_dvd.1 this)
  have Ap : 0 < A := by omega
  have cq : ∀ p q, L p q → C ∣ q := by
    intro p q hp
    obtain ⟨x, y, _, e2⟩ := gen _ _ hp
    exact ⟨y, by rw [e2, Int.mul_comm]⟩
  have CA : C ∣ A := by
    have := cq _ _ (o _ _ gA)
    rwa [Int.mul_zero, Int.add_zero] at this
  obtain ⟨a, ha⟩ := CA
  have CB : C ∣ B := by
    have h1 := o _ _ gA
    rw [Int.mul_zero, Int.mul_zero, Int.add_zero] at h1
    have h2 := h.sub h1 (h.mul gB a)
    have e : A - a * C = 0 := by rw [ha]; grind
    rw [e] at h2
    have h3 := flat _ h2
    rw [ha, Int.zero_sub] at h3
    have h3 := Int.dvd_neg.1 h3
    have a0 : a ≠ 0 := by rintro rfl; simp at ha; exact A0 ha
    rw [Int.mul_comm C a] at h3
    exact Int.dvd_of_mul_dvd_mul_left a0 h3
  obtain ⟨β, hβ⟩ := CB
  have ea : A / C = a := by rw [ha]; exact Int.mul_ediv_cancel_left _ C0
  have eb : B / C = β := by rw [hβ]; exact Int.mul_ediv_cancel_left _ C0
  rw [ea, eb]
  refine ⟨Cp, Ap, ⟨a, ha⟩, ⟨β, hβ⟩, ⟨Cp, ?_, ?_⟩, fun p q => ⟨fun hp => ?_, fun hp => ?_⟩⟩
  · rcases (show a ≤ 0 ∨ 0 < a by omega) with z | z
    · have := Int.mul_nonpos_of_nonneg_of_nonpos (Int.le_of_lt Cp) z; omega
    · exact z
  · have h1 := o _ _ gB
    have h2 := h.sub h1 (h.mul gB (β + R.s))
    have e : B + R.s * C - (β + R.s) * C = 0 := by rw [hβ]; grind
    rw [e] at h2
    have h3 := flat _ h2
    have e2 : R.t * C - (β + R.s) * B = C * -(β * β + R.s * β - R.t) := by rw [hβ]; grind
    rw [e2, ha] at h3
    have h4 := Int.dvd_of_mul_dvd_mul_left C0 h3
    exact Int.dvd_neg.1 h4
  · refine Id3.least h ?_ ?_ hp
    · show L (C * a) 0
      rw [← ha]; exact gA
    · show L (C * β) C
      rw [← hβ]; exact gB
  · obtain ⟨x, y, e1, e2⟩ := gen _ _ hp
    refine ⟨⟨y, by rw [e2, Int.mul_comm]⟩, ⟨x, ?_⟩⟩
    rw [e1, e2, ha, hβ]
    show _ = C * a * x
    simp only
    grind
theorem Id3.shift {I : Id3} {γ : Int} (h : I.a ∣ I.β - γ) (p q : Int) : (Id3.mk I.k I.a γ).has p q ↔ I.has p q := by
  obtain ⟨c, hc⟩ := h
  have key : I.k ∣ q → (I.k * I.a ∣ p - γ * q ↔ I.k * I.a ∣ p - I.β * q) := by
    rintro ⟨n, hn⟩
    have e : p - γ * q = p - I.β * q + I.k * I.a * (c * n) := by
      have : p - γ * q = p - I.β * q + (I.β - γ) * q := by grind
      rw [this, hc, hn]; grind
    rw [e]
    exact ⟨fun z => by have := Int.dvd_sub z (Int.dvd_mul_right (I.k * I.a) (c * n)); rwa [Int.add_sub_cancel] at this, fun z => Int.dvd_add z (Int.dvd_mul_right _ _)⟩
  exact ⟨fun ⟨h1, h2⟩ => ⟨h1, (key h1).1 h2⟩, fun ⟨h1, h2⟩ => ⟨h1, (key h1).2 h2⟩⟩
theorem Id3.shift_ok {R : Rg} {I : Id3} (h : I.Ok R) {γ : Int} (hd : I.a ∣ I.β - γ) : (Id3.mk I.k I.a γ).Ok R := by
  refine ⟨h.k, h.a, ?_⟩
  obtain ⟨c, hc⟩ := hd
  obtain ⟨d, hd⟩ := h.d
  refine ⟨d - c * (I.β + γ + R.s), ?_⟩
  have e : γ * γ + R.s * γ - R.t = (I.β * I.β + R.s * I.β - R.t) - (I.β - γ) * (I.β + γ + R.s) := by grind
  show γ * γ + R.s * γ - R.t = _
  rw [e, hd, hc]
  show _ = I.a * _
  grind
/-! ### products -/
def PZ (R : Rg) (I J : Id3) (p q : Int) : Prop := ∀ L : Int → Int → Prop, Lat L → (∀ u v : El, I.has u.1 u.2 → J.has v.1 v.2 → L (R.mul u v).1 (R.mul u v).2) → L p q
theorem PZ.lat {R : Rg} {I J : Id3} : Lat (PZ R I J) := ⟨fun L h _ => h.z, fun h1 h2 L h m => h.sub (h1 L h m) (h2 L h m)⟩
theorem PZ.mem {R : Rg} {I J : Id3} {u v : El} (hu : I.has u.1 u.2) (hv : J.has v.1 v.2) : PZ R I J (R.mul u v).1 (R.mul u v).2 := fun L _ m => m u v hu hv
theorem om_lat {R : Rg} {L : Int → Int → Prop} (h : Lat L) : Lat fun p q => L (R.t * q) (p + R.s * q) := by
  refine ⟨by simpa using h.z, fun {p q r s} h1 h2 => ?_⟩
  have := h.sub h1 h2
  have e1 : R.t * q - R.t * s = R.t * (q - s) := by grind
  have e2 : p + R.s * q - (r + R.s * s) = p - r + R.s * (q - s) := by grind
  rwa [e1, e2] at this
theorem mul_lat {R : Rg} {L : Int → Int → Prop} (h : Lat L) (v : El) : Lat fun p q => L (R.mul (p, q) v).1 (R.mul (p, q) v).2 := by
  refine ⟨?_, fun {p q r s} h1 h2 => ?_⟩
  · have e1 : (R.mul (0, 0) v).1 = 0 := by simp [Rg.mul]
    have e2 : (R.mul (0, 0) v).2 = 0 := by simp [Rg.mul]
    rw [e1, e2]; exact h.z
  · have := h.sub h1 h2
    have e1 : (R.mul (p, q) v).1 - (R.mul (r, s) v).1 = (R.mul (p - r, q - s) v).1 := by simp only [Rg.mul]; grind
    have e2 : (R.mul (p, q) v).2 - (R.mul (r, s) v).2 = (R.mul (p - r, q - s) v).2 := by simp only [Rg.mul]; grind
    rwa [e1, e2] at this
theorem PZ.om {R : Rg} {I J : Id3} (hI : I.Ok R) : Om R.s R.t (PZ R I J) := by
  intro p q h
  refine h (fun p q => PZ R I J (R.t * q) (p + R.s * q)) (om_lat PZ.lat) fun u v hu hv => ?_
  have hw := Id3.om hI _ _ hu
  have := PZ.mem (R := R) (u := (R.t * u.2, u.1 + R.s * u.2)) hw hv
  have e1 : (R.mul (R.t * u.2, u.1 + R.s * u.2) v).1 = R.t * (R.mul u v).2 := by simp only [Rg.mul]; grind
  have e2 : (R.mul (R.t * u.2, u.1 + R.s * u.2) v).2 = (R.mul u v).1 + R.s * (R.mul u v).2 := by simp only [Rg.mul]; grind
  rwa [e1, e2] at this
theorem PZ.comm {R : Rg} {I J : Id3} {p q : Int} (h : PZ R I J p q) : PZ R J I p q := by
  intro L hL m
  refine h L hL fun u v hu hv => ?_
  rw [Rg.comm]
  exact m v u hv hu
def Id3.e1 (I : Id3) : El := (I.k * I.a, 0)
def Id3.e2 (I : Id3) : El := (I.k * I.β, I.k)
/-- it is enough to look at the four products of the generators -/
theorem PZ.of_gens {R : Rg} {I J : Id3} {L : Int → Int → Prop} (h : Lat L) (h11 : L (R.mul I.e1 J.e1).1 (R.mul I.e1 J.e1).2) (h12 : L (R.mul I.e1 J.e2).1 (R.mul I.e1 J.e2).2) (h21 : L (R.mul I.e2 J.e1).1 (R.mul I.e2 J.e1).2) (h22 : L (R.mul I.e2 J.e2).1 (R.mul I.e2 J.e2).2)
    {p q : Int} (hp : PZ R I J p q) : L p q := by
  refine hp L h fun u v hu hv => ?_
  have s1 : ∀ v : El, J.has v.1 v.2 → L (R.mul I.e1 v).1 (R.mul I.e1 v).2 := by
    intro v hv
    rw [Rg.comm]
    refine Id3.least (I := J) (L := fun p q => L (R.mul (p, q) I.e1).1 (R.mul (p, q) I.e1).2) (mul_lat h _) ?_ ?_ hv
    · show L (R.mul J.e1 I.e1).1 (R.mul J.e1 I.e1).2
      rw [Rg.comm]; exact h11
    · show L (R.mul J.e2 I.e1).1 (R.mul J.e2 I.e1).2
      rw [Rg.comm]; exact h12
  have s2 : ∀ v : El, J.has v.1 v.2 → L (R.mul I.e2 v).1 (R.mul I.e2 v).2 := by
    intro v hv
    rw [Rg.comm]
    refine Id3.least (I := J) (L := fun p q => L (R.mul (p, q) I.e2).1 (R.mul (p, q) I.e2).2) (mul_lat h _) ?_ ?_ hv
    · show L (R.mul J.e1 I.e2).1 (R.mul J.e1 I.e2).2
      rw [Rg.comm]; exact h21
    · show L (R.mul J.e2 I.e2).1 (R.mul J.e2 I.e2).2
      rw [Rg.comm]; exact h22
  exact Id3.least (I := I) (L := fun p q => L (R.mul (p, q) v).1 (R.mul (p, q) v).2) (mul_lat h v) (s1 v hv) (s2 v hv) hu
theorem Id3.has_e1 (I : Id3) : I.has I.e1.1 I.e1.2 := I.gen1
theorem Id3.has_e2 (I : Id3) : I.has I.e2.1 I.e2.2 := I.gen2
theorem PZ.within {R : Rg} {I J : Id3} (hI : I.Ok R) {p q : Int} (h : PZ R I J p q) : I.has p q :=
  h I.has I.lat fun u v hu _ => om_mul I.lat (Id3.om hI) hu v
theorem PZ.os {R : Rg} {I J : Id3} (hI : I.Ok R) (p q : Int) : OS R [R.mul I.e1 J.e1, R.mul I.e1 J.e2, R.mul I.e2 J.e1, R.mul I.e2 J.e2] p q ↔ PZ R I J p q := by
  constructor
  · intro h
    refine h _ PZ.lat (PZ.om hI) fun m hm => ?_
    simp only [List.mem_cons, List.not_mem_nil, or_false] at hm
    rcases hm with rfl | rfl | rfl | rfl
    · exact PZ.mem I.has_e1 J.has_e1
    · exact PZ.mem I.has_e1 J.has_e2
    · exact PZ.mem I.has_e2 J.has_e1
    · exact PZ.mem I.has_e2 J.has_e2
  · intro h
    exact PZ.of_gens OS.lat (OS.mem (by simp)) (OS.mem (by simp)) (OS.mem (by simp)) (OS.mem (by simp)) h
end M

set_option Elab.async false
set_option linter.all false
set_option maxRecDepth 100000
set_option maxHeartbeats 4000000
namespace M
theorem bez_nat (m n : Nat) : ∃ x y : Int, m * x + n * y = Nat.gcd m n := by
  induction m, n using Nat.gcd.induction with
  | H0 n => exact ⟨0, 1, by simp⟩
  | H1 m n h ih =>
    obtain ⟨x, y, e⟩ := ih
    rw [Nat.gcd_rec, ← e]
    refine ⟨y - (n / m : Nat) * x, x, ?_⟩
    have : (n : Int) = m * (n / m : Nat) + (n % m : Nat) := by
      rw [← Int.natCast_mul, ← Int.natCast_add, Nat.div_add_mod]
    generalize ((n / m : Nat) : Int) = a at *
    generalize ((n % m : Nat) : Int) = b at *
    rw [this]; grind
theorem bez (a b : Int) : ∃ x y : Int, a * x + b * y = Int.gcd a b := by
  obtain ⟨x, y, e⟩ := bez_nat a.natAbs b.natAbs
  have s : ∀ z : Int, ∃ t : Int, (z.natAbs : Int) = z * t := by
    intro z
    rcases Int.natAbs_eq z with h | h
    · exact ⟨1, by omega⟩
    · exact ⟨-1, by omega⟩
  obtain ⟨t, ht⟩ := s a
  obtain ⟨u, hu⟩ := s b
  refine ⟨t * x, u * y, ?_⟩
  show _ = ((Nat.gcd a.natAbs b.natAbs : Nat) : Int)
  rw [← e, ht, hu]; grind
def Id3.cj (R : Rg) (I : Id3) : Id3 := ⟨I.k, I.a, -(I.β + R.s)⟩
theorem Id3.cj_ok {R : Rg} {I : Id3} (h : I.Ok R) : (I.cj R).Ok R := by
  refine ⟨h.k, h.a, ?_⟩
  have e : -(I.β + R.s) * -(I.β + R.s) + R.s * -(I.β + R.s) - R.t = I.β * I.β + R.s * I.β - R.t := by grind
  show I.a ∣ _
  simp only [Id3.cj]
  rw [e]; exact h.d
/-- the divisor of a, b and c -/
structure Gd (R : Rg) (I : Id3) (c g : Int) : Prop where
  hc : I.β * I.β + R.s * I.β - R.t = I.a * c
  ha : g ∣ I.a
  hb : g ∣ 2 * I.β + R.s
  hd : g ∣ c
  he : ∃ x y z, I.a * x + (2 * I.β + R.s) * y + c * z = g
theorem conj_prod {R : Rg} {I : Id3} {c g : Int} (h : I.Ok R) (G : Gd R I c g) (p q : Int) : PZ R I (I.cj R) p q ↔ (Id3.mk (I.k * I.k * I.a) g I.β).has p q := by
  obtain ⟨a', ha⟩ := G.ha
  obtain ⟨b', hb⟩ := G.hb
  obtain ⟨c', hc⟩ := G.hd
  have hn := G.hc
  have m11 : R.mul I.e1 (I.cj R).e1 = (I.k * I.k * I.a * I.a, 0) := by simp only [Rg.mul, Id3.e1, Id3.cj, Prod.mk.injEq]; constructor <;> grind
  have m12 : R.mul I.e1 (I.cj R).e2 = (I.k * I.k * I.a * -(I.β + R.s), I.k * I.k * I.a) := by simp only [Rg.mul, Id3.e1, Id3.e2, Id3.cj, Prod.mk.injEq]; constructor <;> grind
  have m21 : R.mul I.e2 (I.cj R).e1 = (I.k * I.k * I.a * I.β, I.k * I.k * I.a) := by simp only [Rg.mul, Id3.e1, Id3.e2, Id3.cj, Prod.mk.injEq]; constructor <;> grind
  have m22 : R.mul I.e2 (I.cj R).e2 = (-(I.k * I.k * I.a * c), 0) := by
    have : I.k * I.k * I.a * c = I.k * I.k * (I.β * I.β + R.s * I.β - R.t) := by rw [hn]; grind
    rw [this]
    simp only [Rg.mul, Id3.e2, Id3.cj, Prod.mk.injEq]; constructor <;> grind
  obtain ⟨K, hK⟩ : ∃ K, K = I.k * I.k * I.a := ⟨_, rfl⟩
  rw [← hK] at m11 m12 m21 m22 ⊢
  constructor
  · refine PZ.of_gens (Id3.lat _) ?_ ?_ ?_ ?_
    · rw [m11]
      exact ⟨Int.dvd_zero _, ⟨a', by simp only; rw [ha]; grind⟩⟩
    · rw [m12]
      exact ⟨Int.dvd_refl _, ⟨-b', by
        have : K * -(I.β + R.s) - I.β * K = -(K * (2 * I.β + R.s)) := by grind
        simp only
        rw [this, hb]; grind⟩⟩
    · rw [m21]
      exact ⟨Int.dvd_refl _, ⟨0, by simp only; grind⟩⟩
    · rw [m22]
      exact ⟨Int.dvd_zero _, ⟨-c', by simp only; rw [hc]; grind⟩⟩
  · have l := @PZ.lat R I (I.cj R)
    have h11 := PZ.mem (R := R) I.has_e1 (I.cj R).has_e1
    have h12 := PZ.mem (R := R) I.has_e1 (I.cj R).has_e2
    have h21 := PZ.mem (R := R) I.has_e2 (I.cj R).has_e1
    have h22 := PZ.mem (R := R) I.has_e2 (I.cj R).has_e2
    rw [m11] at h11
    rw [m12] at h12
    rw [m21] at h21
    rw [m22] at h22
    refine Id3.least l ?_ h21
    obtain ⟨x, y, z, e⟩ := G.he
    have t1 := l.lin (l.mul h11 x) (l.lin h21 h12 y (-y)) 1 1
    have t2 := l.lin t1 h22 1 (-z)
    simp only at t2
    have e1 : 1 * (1 * (x * (K * I.a)) + 1 * (y * (K * I.β) + -y * (K * -(I.β + R.s)))) + -z * -(K * c) = K * g := by rw [← e]; grind
    have e2 : 1 * (1 * (x * 0) + 1 * (y * K + -y * K)) + -z * 0 = 0 := by grind
    rw [e1, e2] at t2
    exact t2
/-! ### the norm of a product -/
def wd (u v : El) : Int := u.1 * v.2 - v.1 * u.2
theorem wd_lat (N : Int) (v : El) : Lat fun p q => N ∣ wd (p, q) v := by
  refine ⟨by simp [wd], fun {p q r s} h1 h2 => ?_⟩
  have := Int.dvd_sub h1 h2
  have e : wd (p, q) v - wd (r, s) v = wd (p - r, q - s) v := by simp only [wd]; grind
  rwa [e] at this
theorem wd_swap (u v : El) : wd u v = -wd v u := by simp only [wd]; grind
theorem wd_gens {R : Rg} {I J : Id3} {N : Int} {G : El → Prop} (hG : ∀ v, G v → N ∣ wd (R.mul I.e1 J.e1) v ∧ N ∣ wd (R.mul I.e1 J.e2) v ∧ N ∣ wd (R.mul I.e2 J.e1) v ∧ N ∣ wd (R.mul I.e2 J.e2) v) {u v : El} (hu : PZ R I J u.1 u.2) (hv : G v) : N ∣ wd u v :=
  PZ.of_gens (L := fun p q => N ∣ wd (p, q) v) (wd_lat N v) (hG v hv).1 (hG v hv).2.1 (hG v hv).2.2.1 (hG v hv).2.2.2 hu
structure Minors (R : Rg) (I J : Id3) (c d : Int) : Prop where
  ma : wd (R.mul I.e1 J.e1) (R.mul I.e1 J.e2) = I.nm * J.nm * I.a
  mb : wd (R.mul I.e1 J.e1) (R.mul I.e2 J.e1) = I.nm * J.nm * J.a
  mc : wd (R.mul I.e1 J.e1) (R.mul I.e2 J.e2) = I.nm * J.nm * (I.β + J.β + R.s)
  md : wd (R.mul I.e1 J.e2) (R.mul I.e2 J.e1) = I.nm * J.nm * (J.β - I.β)
  me : wd (R.mul I.e1 J.e2) (R.mul I.e2 J.e2) = I.nm * J.nm * d
  mf : wd (R.mul I.e2 J.e1) (R.mul I.e2 J.e2) = I.nm * J.nm * c
theorem minors {R : Rg} {I J : Id3} {c d : Int} (hc : I.β * I.β + R.s * I.β - R.t = I.a * c) (hd : J.β * J.β + R.s * J.β - R.t = J.a * d) : Minors R I J c d := by
  have ht : R.t = I.β * I.β + R.s * I.β - I.a * c := by omega
  have ht2 : R.t = J.β * J.β + R.s * J.β - J.a * d := by omega
  refine ⟨?_, ?_, ?_, ?_, ?_, ?_⟩
  · simp only [wd, Rg.mul, Id3.e1, Id3.e2, Id3.nm]; grind
  · simp only [wd, Rg.mul, Id3.e1, Id3.e2, Id3.nm]; grind
  · simp only [wd, Rg.mul, Id3.e1, Id3.e2, Id3.nm]; grind
  · simp only [wd, Rg.mul, Id3.e1, Id3.e2, Id3.nm]; grind
  · simp only [wd, Rg.mul, Id3.e1, Id3.e2, Id3.nm]; rw [ht2]; grind
  · simp only [wd, Rg.mul, Id3.e1, Id3.e2, Id3.nm]; rw [ht]; grind
theorem nm_dvd {R : Rg} {I J X : Id3} (hI : I.Ok R) (hJ : J.Ok R) (hX : ∀ p q, X.has p q ↔ PZ R I J p q) : I.nm * J.nm ∣ X.nm := by
  obtain ⟨c, hc⟩ := hI.d
  obtain ⟨d, hd⟩ := hJ.d
  have m := minors hc hd
  have z : ∀ u : El, wd u u = 0 := fun u => by simp only [wd]; omega
  have sw : ∀ {u v : El} {x : Int}, wd u v = I.nm * J.nm * x → I.nm * J.nm ∣ wd v u := fun {u v x} h => by rw [wd_swap, h]; exact Int.dvd_neg.2 ⟨x, rfl⟩
  have st : ∀ {u v : El} {x : Int}, wd u v = I.nm * J.nm * x → I.nm * J.nm ∣ wd u v := fun {u v x} h => ⟨x, h⟩
  have g : ∀ v : El, (v = R.mul I.e1 J.e1 ∨ v = R.mul I.e1 J.e2 ∨ v = R.mul I.e2 J.e1 ∨ v = R.mul I.e2 J.e2) → I.nm * J.nm ∣ wd (R.mul I.e1 J.e1) v ∧ I.nm * J.nm ∣ wd (R.mul I.e1 J.e2) v ∧ I.nm * J.nm ∣ wd (R.mul I.e2 J.e1) v ∧ I.nm * J.nm ∣ wd (R.mul I.e2 J.e2) v := by
    rintro v (rfl | rfl | rfl | rfl)
    · exact ⟨by rw [z]; exact Int.dvd_zero _, sw m.ma, sw m.mb, sw m.mc⟩
    · exact ⟨st m.ma, by rw [z]; exact Int.dvd_zero _, sw m.md, sw m.me⟩
    · exact ⟨st m.mb, st m.md, by rw [z]; exact Int.dvd_zero _, sw m.mf⟩
    · exact ⟨st m.mc, st m.me, st m.mf, by rw [z]; exact Int.dvd_zero _⟩
  have all : ∀ u v : El, PZ R I J u.1 u.2 → PZ R I J v.1 v.2 → I.nm * J.nm ∣ wd u v := by
    intro u v hu hv
    refine wd_gens (G := fun v => PZ R I J v.1 v.2) (fun v hv => ?_) hu hv
    have f : ∀ w : El, (w = R.mul I.e1 J.e1 ∨ w = R.mul I.e1 J.e2 ∨ w = R.mul I.e2 J.e1 ∨ w = R.mul I.e2 J.e2) → I.nm * J.nm ∣ wd w v := by
      intro w hw
      rw [wd_swap]
      exact Int.dvd_neg.2 (wd_gens g hv hw)
    exact ⟨f _ (.inl rfl), f _ (.inr (.inl rfl)), f _ (.inr (.inr (.inl rfl))), f _ (.inr (.inr (.inr rfl)))⟩
  have := all (X.k * X.a, 0) (X.k * X.β, X.k) ((hX _ _).1 X.gen1) ((hX _ _).1 X.gen2)
  have e : wd (X.k * X.a, 0) (X.k * X.β, X.k) = X.nm := by simp only [wd, Id3.nm]; grind
  rwa [e] at this
theorem nm_inv {R : Rg} {I J X : Id3} {c : Int} (hI : I.Ok R) (hJ : J.Ok R) (hXo : X.Ok R) (hX : ∀ p q, X.has p q ↔ PZ R I J p q) (G : Gd R I c 1) : X.nm = I.nm * J.nm := by
  obtain ⟨d, hd⟩ := hJ.d
  have m := minors G.hc hd
  have mem : ∀ u v : El, I.has u.1 u.2 → J.has v.1 v.2 → X.has (R.mul u v).1 (R.mul u v).2 := fun u v hu hv => (hX _ _).2 (PZ.mem hu hv)
  have w : ∀ u v : El, X.has u.1 u.2 → X.has v.1 v.2 → X.nm ∣ wd u v := fun u v hu hv => X.wedge hu hv
  have k1 := w _ _ (mem _ _ I.has_e1 J.has_e1) (mem _ _ I.has_e1 J.has_e2)
  have k3 := w _ _ (mem _ _ I.has_e1 J.has_e1) (mem _ _ I.has_e2 J.has_e2)
  have k4 := w _ _ (mem _ _ I.has_e1 J.has_e2) (mem _ _ I.has_e2 J.has_e1)
  have k6 := w _ _ (mem _ _ I.has_e2 J.has_e1) (mem _ _ I.has_e2 J.has_e2)
  rw [m.ma] at k1
  rw [m.mc] at k3
  rw [m.md] at k4
  rw [m.mf] at k6
  obtain ⟨x, y, z, e⟩ := G.he
  have kb : X.nm ∣ I.nm * J.nm * (2 * I.β + R.s) := by
    have := Int.dvd_sub k3 k4
    have e : I.nm * J.nm * (I.β + J.β + R.s) - I.nm * J.nm * (J.β - I.β) = I.nm * J.nm * (2 * I.β + R.s) := by grind
    rwa [e] at this
  have : X.nm ∣ I.nm * J.nm := by
    have t := Int.dvd_add (Int.dvd_add (Int.dvd_trans k1 ⟨x, rfl⟩) (Int.dvd_trans kb ⟨y, rfl⟩)) (Int.dvd_trans k6 ⟨z, rfl⟩)
    have e2 : I.nm * J.nm * I.a * x + I.nm * J.nm * (2 * I.β + R.s) * y + I.nm * J.nm * c * z = I.nm * J.nm := by
      have : I.nm * J.nm * I.a * x + I.nm * J.nm * (2 * I.β + R.s) * y + I.nm * J.nm * c * z = I.nm * J.nm * (I.a * x + (2 * I.β + R.s) * y + c * z) := by grind
      rw [this, e, Int.mul_one]
    rwa [e2] at t
  exact Int.dvd_antisymm (Int.le_of_lt (Id3.nm_pos hXo)) (Int.le_of_lt (Int.mul_pos (Id3.nm_pos hI) (Id3.nm_pos hJ))) this (nm_dvd hI hJ hX)
end M

set_option Elab.async false
set_option linter.all false
set_option maxRecDepth 100000
set_option maxHeartbeats 4000000
namespace M
def Id3.one : Id3 := ⟨1, 1, 0⟩
def Id3.num (n : Int) : Id3 := ⟨n, 1, 0⟩
theorem Id3.num_ok {R : Rg} {n : Int} (h : 0 < n) : (Id3.num n).Ok R := ⟨h, Int.one_pos, Int.one_dvd _⟩
theorem Id3.num_has (n p q : Int) : (Id3.num n).has p q ↔ n ∣ p ∧ n ∣ q := by
  unfold Id3.has Id3.num
  simp only [Int.mul_one, Int.zero_mul, Int.sub_zero]
  exact And.comm
theorem Id3.one_has (p q : Int) : Id3.one.has p q := (Id3.num_has 1 p q).2 ⟨Int.one_dvd _, Int.one_dvd _⟩
theorem PZ.one {R : Rg} {I : Id3} (h : I.Ok R) (p q : Int) : PZ R I Id3.one p q ↔ I.has p q := by
  refine ⟨PZ.within h, fun hp => ?_⟩
  have := PZ.mem (R := R) (u := (p, q)) (v := (1, 0)) hp (Id3.one_has 1 0)
  have e1 : (R.mul (p, q) (1, 0)).1 = p := by simp [Rg.mul]
  have e2 : (R.mul (p, q) (1, 0)).2 = q := by simp [Rg.mul]
  rwa [e1, e2] at this
/-! ### quotients -/
theorem Id3.scale {J : Id3} (N : Int) {p q : Int} (h : J.has p q) : (Id3.mk (N * J.k) J.a J.β).has (N * p) (N * q) := by
  obtain ⟨⟨n, hn⟩, ⟨m, hm⟩⟩ := h
  refine ⟨⟨n, by simp only; rw [hn]; grind⟩, ⟨m, ?_⟩⟩
  simp only
  have : N * p - J.β * (N * q) = N * (p - J.β * q) := by grind
  rw [this, hm]; grind
theorem quot {R : Rg} {I J X : Id3} {c : Int} (hI : I.Ok R) (hJ : J.Ok R) (hX : ∀ p q, X.has p q ↔ PZ R I J p q) (G : Gd R I c 1) (p q : Int) : PZ R X (I.cj R) p q ↔ (Id3.mk (I.nm * J.k) J.a J.β).has p q := by
  have cp := conj_prod hI G
  have N : ∀ p q, PZ R I (I.cj R) p q ↔ I.nm ∣ p ∧ I.nm ∣ q := by
    intro p q
    rw [cp]
    have e : (Id3.mk (I.k * I.k * I.a) 1 I.β) = ⟨I.nm, 1, I.β⟩ := rfl
    rw [e]
    have := Id3.shift (I := Id3.num I.nm) (γ := I.β) (Int.one_dvd _) p q
    rw [← Id3.num_has]
    exact this
  constructor
  · intro h
    refine h _ (Id3.lat _) fun x v hx hv => ?_
    refine (hX _ _).1 hx (fun p q => (Id3.mk (I.nm * J.k) J.a J.β).has (R.mul (p, q) v).1 (R.mul (p, q) v).2) (mul_lat (Id3.lat _) v) fun u w hu hw => ?_
    show (Id3.mk (I.nm * J.k) J.a J.β).has (R.mul (R.mul u w) v).1 (R.mul (R.mul u w) v).2
    have e : R.mul (R.mul u w) v = R.mul (R.mul u v) w := by rw [Rg.assoc, Rg.comm R w v, ← Rg.assoc]
    rw [e]
    obtain ⟨⟨p', hp'⟩, ⟨q', hq'⟩⟩ := (N _ _).1 (PZ.mem (R := R) hu hv)
    have m := om_mul (R := R) J.lat (Id3.om hJ) (u := w) hw (p', q')
    have sc := Id3.scale I.nm m
    have e2 : R.mul (R.mul u v) w = (I.nm * (R.mul w (p', q')).1, I.nm * (R.mul w (p', q')).2) := by
      have : R.mul u v = (I.nm * p', I.nm * q') := by rw [← hp', ← hq']
      rw [this]
      simp only [Rg.mul, Prod.mk.injEq]; constructor <;> grind
    rw [e2]
    exact sc
  · have nw : ∀ w : El, J.has w.1 w.2 → PZ R X (I.cj R) (I.nm * w.1) (I.nm * w.2) := by
      intro w hw
      have n1 : PZ R I (I.cj R) I.nm 0 := (N _ _).2 ⟨Int.dvd_refl _, Int.dvd_zero _⟩
      have := n1 (fun p q => PZ R X (I.cj R) (R.mul (p, q) w).1 (R.mul (p, q) w).2) (mul_lat PZ.lat w) fun u v hu hv => by
        show PZ R X (I.cj R) (R.mul (R.mul u v) w).1 (R.mul (R.mul u v) w).2
        have e : R.mul (R.mul u v) w = R.mul (R.mul u w) v := by rw [Rg.assoc, Rg.comm R v w, ← Rg.assoc]
        rw [e]
        exact PZ.mem ((hX _ _).2 (PZ.mem hu hw)) hv
      have e1 : (R.mul (I.nm, 0) w).1 = I.nm * w.1 := by simp [Rg.mul]
      have e2 : (R.mul (I.nm, 0) w).2 = I.nm * w.2 := by simp [Rg.mul]
      simp only [e1, e2] at this
      exact this
    intro h
    refine Id3.least PZ.lat ?_ ?_ h
    · have := nw J.e1 J.has_e1
      simp only [Id3.e1, Int.mul_zero] at this
      rw [← Int.mul_assoc] at this
      exact this
    · have := nw J.e2 J.has_e2
      simp only [Id3.e2] at this
      rw [← Int.mul_assoc] at this
      exact this
/-! ### multiples of one element -/
theorem OS.one {R : Rg} {x : El} (p q : Int) : OS R [x] p q ↔ ∃ w : El, R.mul x w = (p, q) := by
  constructor
  · intro h
    refine h (fun p q => ∃ w : El, R.mul x w = (p, q)) ⟨⟨(0, 0), by simp [Rg.mul]⟩, ?_⟩ ?_ ?_
    · rintro p q r s ⟨w, hw⟩ ⟨v, hv⟩
      refine ⟨(w.1 - v.1, w.2 - v.2), ?_⟩
      simp only [Rg.mul, Prod.mk.injEq] at hw hv ⊢
      obtain ⟨h1, h2⟩ := hw
      obtain ⟨h3, h4⟩ := hv
      rw [← h1, ← h2, ← h3, ← h4]
      constructor <;> grind
    · rintro p q ⟨w, hw⟩
      refine ⟨(R.t * w.2, w.1 + R.s * w.2), ?_⟩
      simp only [Rg.mul, Prod.mk.injEq] at hw ⊢
      obtain ⟨h1, h2⟩ := hw
      rw [← h1, ← h2]
      constructor <;> grind
    · intro m hm
      rw [List.mem_singleton] at hm
      subst hm
      exact ⟨(1, 0), by simp [Rg.mul]⟩
  · rintro ⟨w, hw⟩
    have := om_mul (OS.lat (R := R) (ms := [x])) OS.om (OS.mem (m := x) (by simp)) w
    rw [hw] at this
    exact this
def Rg.nrm (R : Rg) (x : El) : Int := x.1 * x.1 + R.s * x.1 * x.2 - R.t * x.2 * x.2
theorem wd_mul (R : Rg) (x u v : El) : wd (R.mul x u) (R.mul x v) = R.nrm x * wd u v := by
  simp only [wd, Rg.mul, Rg.nrm]; grind
theorem nm_principal {R : Rg} {X : Id3} {x : El} (hX : X.Ok R) (h : ∀ p q, X.has p q ↔ OS R [x] p q) : X.nm = (R.nrm x).natAbs := by
  have m : ∀ w, X.has (R.mul x w).1 (R.mul x w).2 := fun w => (h _ _).2 ((OS.one _ _).2 ⟨w, rfl⟩)
  have d1 : X.nm ∣ R.nrm x := by
    have := X.wedge (m (1, 0)) (m (0, 1))
    have e : (R.mul x (1, 0)).1 * (R.mul x (0, 1)).2 - (R.mul x (0, 1)).1 * (R.mul x (1, 0)).2 = R.nrm x := by
      have := wd_mul R x (1, 0) (0, 1)
      simp only [wd] at this
      rw [this]; simp
    rwa [e] at this
  have d2 : R.nrm x ∣ X.nm := by
    obtain ⟨u, hu⟩ := (OS.one _ _).1 ((h _ _).1 X.gen1)
    obtain ⟨v, hv⟩ := (OS.one _ _).1 ((h _ _).1 X.gen2)
    have := wd_mul R x u v
    rw [hu, hv] at this
    have e : wd (X.k * X.a, 0) (X.k * X.β, X.k) = X.nm := by simp only [wd, Id3.nm]; grind
    rw [e] at this
    exact ⟨_, this⟩
  have p := Id3.nm_pos hX
  have a1 := Int.natAbs_dvd_natAbs.2 d1
  have a2 := Int.natAbs_dvd_natAbs.2 d2
  have := Nat.dvd_antisymm a1 a2
  omega
/-! ### sums and what is common -/
def SumP (I J : Id3) (p q : Int) : Prop := ∃ a b : Int, I.has a b ∧ J.has (p - a) (q - b)
theorem SumP.lat {I J : Id3} : Lat (SumP I J) := by
  refine ⟨⟨0, 0, I.lat.z, by simpa using J.lat.z⟩, ?_⟩
  rintro p q r s ⟨a, b, h1, h2⟩ ⟨c, d, h3, h4⟩
  refine ⟨a - c, b - d, I.lat.sub h1 h3, ?_⟩
  have := J.lat.sub h2 h4
  have e1 : p - a - (r - c) = p - r - (a - c) := by omega
  have e2 : q - b - (s - d) = q - s - (b - d) := by omega
  rwa [e1, e2] at this
theorem SumP.om {R : Rg} {I J : Id3} (hI : I.Ok R) (hJ : J.Ok R) : Om R.s R.t (SumP I J) := by
  rintro p q ⟨a, b, h1, h2⟩
  refine ⟨_, _, Id3.om hI _ _ h1, ?_⟩
  have := Id3.om hJ _ _ h2
  have e1 : R.t * (q - b) = R.t * q - R.t * b := by grind
  have e2 : p - a + R.s * (q - b) = p + R.s * q - (a + R.s * b) := by grind
  rwa [e1, e2] at this
theorem SumP.l {I J : Id3} {p q : Int} (h : I.has p q) : SumP I J p q := ⟨p, q, h, by simpa using J.lat.z⟩
theorem SumP.r {I J : Id3} {p q : Int} (h : J.has p q) : SumP I J p q := ⟨0, 0, I.lat.z, by simpa using h⟩
theorem SumP.os {R : Rg} {I J : Id3} (hI : I.Ok R) (hJ : J.Ok R) (p q : Int) : OS R [I.e1, I.e2, J.e1, J.e2] p q ↔ SumP I J p q := by
  constructor
  · intro h
    refine h _ SumP.lat (SumP.om hI hJ) fun m hm => ?_
    simp only [List.mem_cons, List.not_mem_nil, or_false] at hm
    rcases hm with rfl | rfl | rfl | rfl
    · exact SumP.l I.has_e1
    · exact SumP.l I.has_e2
    · exact SumP.r J.has_e1
    · exact SumP.r J.has_e2
  · rintro ⟨a, b, h1, h2⟩
    have l := @OS.lat R [I.e1, I.e2, J.e1, J.e2]
    have t1 := Id3.least l (OS.mem (m := I.e1) (by simp)) (OS.mem (m := I.e2) (by simp)) h1
    have t2 := Id3.least l (OS.mem (m := J.e1) (by simp)) (OS.mem (m := J.e2) (by simp)) h2
    have := l.add t1 t2
    have e1 : a + (p - a) = p := by omega
    have e2 : b + (q - b) = q := by omega
    rwa [e1, e2] at this
end M

set_option Elab.async false
set_option linter.all false
set_option maxRecDepth 100000
set_option maxHeartbeats 4000000
namespace M
theorem gcd_dvd2 (a b : Int) : (Int.gcd a b : Int) ∣ a ∧ (Int.gcd a b : Int) ∣ b := ⟨Int.gcd_dvd_left .., Int.gcd_dvd_right ..⟩
theorem dvd_gcd2 {a b d : Int} (h1 : d ∣ a) (h2 : d ∣ b) : d ∣ (Int.gcd a b : Int) := by
  obtain ⟨x, y, e⟩ := bez a b
  rw [← e]
  exact Int.dvd_add (Int.dvd_trans h1 ⟨x, rfl⟩) (Int.dvd_trans h2 ⟨y, rfl⟩)
/-- the least common multiple, by what it does -/
theorem lcm_ex {a b : Int} (ha : 0 < a) (hb : 0 < b) : ∃ l : Int, 0 < l ∧ a ∣ l ∧ b ∣ l ∧ (∀ d, a ∣ d → b ∣ d → l ∣ d) ∧ l * (Int.gcd a b : Int) = a * b := by
  obtain ⟨x, y, e⟩ := bez a b
  have g0 : (0 : Int) < Int.gcd a b := by
    have := Int.gcd_pos_of_ne_zero_left b (show a ≠ 0 by omega)
    omega
  obtain ⟨⟨c, hc⟩, ⟨d, hd⟩⟩ := gcd_dvd2 a b
  generalize (Int.gcd a b : Int) = g at *
  have d0 : 0 < d := by
    rcases (show d ≤ 0 ∨ 0 < d by omega) with z | z
    · have := Int.mul_nonpos_of_nonneg_of_nonpos (Int.le_of_lt g0) z; omega
    · exact z
  refine ⟨a * d, Int.mul_pos ha d0, ⟨d, rfl⟩, ⟨c, by rw [hc, hd]; grind⟩, ?_, by rw [hd]; grind⟩
  rintro D ⟨u, hu⟩ ⟨v, hv⟩
  refine ⟨v * x + u * y, ?_⟩
  have : D * g = a * d * (v * x + u * y) * g := by
    have e1 : D * g = D * (a * x) + D * (b * y) := by rw [← e]; grind
    have e2 : D * (a * x) = b * v * (a * x) := by rw [← hv]
    have e3 : D * (b * y) = a * u * (b * y) := by rw [← hu]
    rw [e1, e2, e3, hd]; grind
  exact Int.eq_of_mul_eq_mul_right (by omega) this
theorem dvd_same {a b : Int} (ha : 0 < a) (hb : 0 < b) (h1 : a ∣ b) (h2 : b ∣ a) : a = b := Int.dvd_antisymm (Int.le_of_lt ha) (Int.le_of_lt hb) h1 h2
theorem inter_ex {R : Rg} {I J S : Id3} (hI : I.Ok R) (hJ : J.Ok R) (hSo : S.Ok R) (hS : ∀ p q, S.has p q ↔ SumP I J p q) : ∃ Y : Id3, Y.Ok R ∧ (∀ p q, Y.has p q ↔ I.has p q ∧ J.has p q) ∧ Y.nm * S.nm = I.nm * J.nm := by
  obtain ⟨A1, hA1⟩ : ∃ z, z = I.k * I.a := ⟨_, rfl⟩
  obtain ⟨A2, hA2⟩ : ∃ z, z = J.k * J.a := ⟨_, rfl⟩
  have p1 : 0 < A1 := by rw [hA1]; exact Int.mul_pos hI.k hI.a
  have p2 : 0 < A2 := by rw [hA2]; exact Int.mul_pos hJ.k hJ.a
  have hasI : ∀ p q, I.has p q ↔ I.k ∣ q ∧ A1 ∣ p - I.β * q := fun p q => by rw [hA1]; exact Iff.rfl
  have hasJ : ∀ p q, J.has p q ↔ J.k ∣ q ∧ A2 ∣ p - J.β * q := fun p q => by rw [hA2]; exact Iff.rfl
  obtain ⟨A, A0, a1, a2, a3, a4⟩ := lcm_ex p1 p2
  obtain ⟨l, l0, l1, l2, l3, l4⟩ := lcm_ex hI.k hJ.k
  obtain ⟨x, y, exy⟩ := bez A1 A2
  obtain ⟨h1, h2⟩ := gcd_dvd2 A1 A2
  have h0 : (0 : Int) < Int.gcd A1 A2 := by
    have := Int.gcd_pos_of_ne_zero_left A2 (show A1 ≠ 0 by omega)
    omega
  have hgh : ∀ d : Int, d ∣ A1 → d ∣ A2 → d ∣ (Int.gcd A1 A2 : Int) := fun d => dvd_gcd2
  generalize (Int.gcd A1 A2 : Int) = h at *
  obtain ⟨δ, hδ⟩ : ∃ z, z = I.β - J.β := ⟨_, rfl⟩
  obtain ⟨u, v, euv⟩ := bez h (δ * l)
  obtain ⟨⟨h', eh⟩, ⟨d', ed⟩⟩ := gcd_dvd2 h (δ * l)
  have g0 : (0 : Int) < Int.gcd h (δ * l) := by
    have := Int.gcd_pos_of_ne_zero_left (δ * l) (show h ≠ 0 by omega)
    omega
  have hgg : ∀ d : Int, d ∣ h → d ∣ δ * l → d ∣ (Int.gcd h (δ * l) : Int) := fun d => dvd_gcd2
  have gdv := gcd_dvd2 h (δ * l)
  generalize (Int.gcd h (δ * l) : Int) = g at *
  have h'0 : 0 < h' := by
    rcases (show h' ≤ 0 ∨ 0 < h' by omega) with z | z
    · have := Int.mul_nonpos_of_nonneg_of_nonpos (Int.le_of_lt g0) z; omega
    · exact z
  have cop : h' * u + d' * v = 1 := by
    have : g * (h' * u + d' * v) = g * 1 := by rw [Int.mul_one, ← euv, ed]; conv => rhs; rw [eh]
                                               grind
    exact Int.eq_of_mul_eq_mul_left (by omega) this
  -- the lattice
  have lat : Lat fun p q => I.has p q ∧ J.has p q := ⟨⟨I.lat.z, J.lat.z⟩, fun z w => ⟨I.lat.sub z.1 w.1, J.lat.sub z.2 w.2⟩⟩
  have om : Om R.s R.t fun p q => I.has p q ∧ J.has p q := fun p q z => ⟨Id3.om hI _ _ z.1, Id3.om hJ _ _ z.2⟩
  have gA : I.has A 0 ∧ J.has A 0 := ⟨(hasI _ _).2 ⟨Int.dvd_zero _, by simpa using a1⟩, (hasJ _ _).2 ⟨Int.dvd_zero _, by simpa using a2⟩⟩
  have hdl : h ∣ δ * (l * h') := by
    refine ⟨d', ?_⟩
    rw [← Int.mul_assoc, ed]
    conv => rhs; rw [eh]
    grind
  obtain ⟨e, he⟩ := hdl
  have gB : I.has (I.β * (l * h') - A1 * x * e) (l * h') ∧ J.has (I.β * (l * h') - A1 * x * e) (l * h') := by
    constructor
    · refine (hasI _ _).2 ⟨Int.dvd_trans l1 ⟨h', rfl⟩, ⟨-(x * e), by grind⟩⟩
    · refine (hasJ _ _).2 ⟨Int.dvd_trans l2 ⟨h', rfl⟩, ⟨y * e, ?_⟩⟩
      have q1 : I.β * (l * h') - A1 * x * e - J.β * (l * h') = δ * (l * h') - A1 * x * e := by rw [hδ]; grind
      rw [q1, he]
      have q2 : h * e = (A1 * x + A2 * y) * e := by rw [exy]
      rw [q2]; grind
  have cq : ∀ p q, I.has p q ∧ J.has p q → l * h' ∣ q := by
    intro p q ⟨z, w⟩
    obtain ⟨z1, z2⟩ := (hasI _ _).1 z
    obtain ⟨w1, w2⟩ := (hasJ _ _).1 w
    obtain ⟨j, hj⟩ := l3 q z1 w1
    have hd := Int.dvd_sub (Int.dvd_trans h2 w2) (Int.dvd_trans h1 z2)
    have e1 : p - J.β * q - (p - I.β * q) = δ * l * j := by rw [hδ, hj]; grind
    rw [e1, ed, eh] at hd
    have hd2 : g * h' ∣ g * (d' * j) := by rwa [← Int.mul_assoc]
    have hd3 := Int.dvd_of_mul_dvd_mul_left (show g ≠ 0 by omega) hd2
    have hj2 : h' ∣ j := by
      have : j = h' * (u * j) + d' * j * v := by
        have := congrArg (fun z => z * j) cop
        simp only [Int.one_mul] at this
        grind
      rw [this]
      exact Int.dvd_add ⟨_, rfl⟩ (Int.dvd_trans hd3 ⟨v, rfl⟩)
    obtain ⟨i, hi⟩ := hj2
    exact ⟨i, by rw [hj, hi]; grind⟩
  have gen : ∀ p q, I.has p q ∧ J.has p q → ∃ x' y', p = x' * A + y' * (I.β * (l * h') - A1 * x * e) ∧ q = y' * (l * h') := by
    intro p q hpq
    obtain ⟨c, hc⟩ := cq p q hpq
    have := lat.sub hpq (lat.mul gB c)
    have e0 : q - c * (l * h') = 0 := by rw [hc]; grind
    rw [e0] at this
    obtain ⟨_, w1⟩ := (hasI _ _).1 this.1
    obtain ⟨_, w2⟩ := (hasJ _ _).1 this.2
    rw [Int.mul_zero, Int.sub_zero] at w1 w2
    obtain ⟨z, hz⟩ := a3 _ w1 w2
    exact ⟨z, c, by have := Int.mul_comm A z; omega, by rw [hc, Int.mul_comm]⟩
  have lh := Int.mul_pos l0 h'0
  obtain ⟨_, _, CA, _, Yo, Yh⟩ := hnf_of lat om (Int.le_of_lt A0) (Int.le_of_lt lh) (show A ≠ 0 by omega) gA gA gB gen
  refine ⟨_, Yo, Yh, ?_⟩
  have Ynm : (Id3.mk (l * h') (A / (l * h')) ((I.β * (l * h') - A1 * x * e) / (l * h'))).nm = l * h' * A := by
    unfold Id3.nm
    simp only
    rw [Int.mul_assoc, Int.mul_ediv_cancel' CA]
  rw [Ynm]
  -- the sum
  obtain ⟨kd1, kd2⟩ := gcd_dvd2 I.k J.k
  have kd3 : ∀ d : Int, d ∣ I.k → d ∣ J.k → d ∣ (Int.gcd I.k J.k : Int) := fun d => dvd_gcd2
  have kg0 : (0 : Int) < Int.gcd I.k J.k := by
    have := Int.gcd_pos_of_ne_zero_left J.k (show I.k ≠ 0 by have := hI.k; omega)
    omega
  generalize (Int.gcd I.k J.k : Int) = kg at *
  have Sk : S.k = kg := by
    refine dvd_same hSo.k kg0 ?_ ?_
    · exact kd3 _ ((hS _ _).2 (SumP.l I.gen2)).1 ((hS _ _).2 (SumP.r J.gen2)).1
    · obtain ⟨a, b, z, w⟩ := (hS _ _).1 S.gen2
      have := Int.dvd_add (Int.dvd_trans kd1 z.1) (Int.dvd_trans kd2 w.1)
      rwa [show b + (S.k - b) = S.k by omega] at this
  have SA : S.k * S.a = g := by
    refine dvd_same (Int.mul_pos hSo.k hSo.a) g0 ?_ ?_
    · have s1 : SumP I J (h * u) 0 := by
        have t1 := SumP.l (I := I) (J := J) ((hasI (A1 * (x * u)) 0).2 ⟨Int.dvd_zero _, ⟨x * u, by simp⟩⟩)
        have t2 := SumP.r (I := I) (J := J) ((hasJ (A2 * (y * u)) 0).2 ⟨Int.dvd_zero _, ⟨y * u, by simp⟩⟩)
        have := (SumP.lat (I := I) (J := J)).add t1 t2
        have e1 : A1 * (x * u) + A2 * (y * u) = h * u := by rw [← exy]; grind
        rwa [e1, Int.add_zero] at this
      have s2 : SumP I J (δ * l * v) 0 := by
        have t1 := SumP.l (I := I) (J := J) ((hasI (I.β * (l * v)) (l * v)).2 ⟨Int.dvd_trans l1 ⟨v, rfl⟩, by rw [Int.sub_self]; exact Int.dvd_zero _⟩)
        have t2 := SumP.r (I := I) (J := J) ((hasJ (J.β * (l * v)) (l * v)).2 ⟨Int.dvd_trans l2 ⟨v, rfl⟩, by rw [Int.sub_self]; exact Int.dvd_zero _⟩)
        have := (SumP.lat (I := I) (J := J)).sub t1 t2
        have e1 : I.β * (l * v) - J.β * (l * v) = δ * l * v := by rw [hδ]; grind
        rwa [e1, Int.sub_self] at this
      have := (SumP.lat (I := I) (J := J)).add s1 s2
      rw [euv, Int.add_zero] at this
      have := ((hS _ _).2 this).2
      rwa [Int.mul_zero, Int.sub_zero] at this
    · obtain ⟨a, b, z, w⟩ := (hS _ _).1 S.gen1
      obtain ⟨z1, z2⟩ := (hasI _ _).1 z
      obtain ⟨w1, w2⟩ := (hasJ _ _).1 w
      rw [Int.zero_sub] at w1 w2
      obtain ⟨j, hj⟩ := l3 b z1 (Int.dvd_neg.1 w1)
      have hd := Int.dvd_add (Int.dvd_trans h1 z2) (Int.dvd_trans h2 w2)
      have e1 : a - I.β * b + (S.k * S.a - a - J.β * -b) = S.k * S.a - δ * b := by rw [hδ]; grind
      rw [e1] at hd
      have f1 := Int.dvd_trans gdv.1 hd
      have f2 : g ∣ δ * b := by
        rw [hj, ← Int.mul_assoc]
        exact Int.dvd_trans gdv.2 ⟨j, rfl⟩
      have := Int.dvd_add f1 f2
      rwa [Int.sub_add_cancel] at this
  have Snm : S.nm = kg * g := by
    unfold Id3.nm
    rw [Int.mul_assoc, SA, Sk]
  have In : I.nm = I.k * A1 := by unfold Id3.nm; rw [hA1, Int.mul_assoc]
  have Jn : J.nm = J.k * A2 := by unfold Id3.nm; rw [hA2, Int.mul_assoc]
  rw [Snm, In, Jn]
  have e1 : l * h' * A * (kg * g) = l * kg * (A * (g * h')) := by grind
  rw [e1, l4, ← eh, a4]
  grind
end M

set_option Elab.async false
set_option linter.all false
set_option maxRecDepth 100000
set_option maxHeartbeats 4000000
namespace M
/-! ### the numbers of the program -/
structure Dc (D : Int) (R : Rg) : Prop where
  s : R.s = 0 ∨ R.s = 1
  e : D = 4 * R.t + R.s
theorem Dc.ss {D : Int} {R : Rg} (h : Dc D R) : R.s * R.s = R.s := by rcases h.s with z | z <;> rw [z] <;> rfl
theorem Dc.mod {D : Int} {R : Rg} (h : Dc D R) : D % 2 = R.s := by have := h.s; have := h.e; omega
/-- x of the pair (x, y) -/
def Rg.x (R : Rg) (u : El) : Int := 2 * u.1 + R.s * u.2
structure GoodF (D : Int) (f : Fm) : Prop where
  k : 0 < f.a
  a : 0 < f.b
  lo : 0 ≤ f.c
  hi : f.c < 2 * f.b
  d : 4 * f.b ∣ f.c * f.c - D
def tI (R : Rg) (f : Fm) : Id3 := ⟨f.a, f.b, (f.c - R.s) / 2⟩
theorem GoodF.par {D : Int} {R : Rg} (hD : Dc D R) {f : Fm} (h : GoodF D f) : f.c = 2 * ((f.c - R.s) / 2) + R.s := by
  obtain ⟨c, hc⟩ := h.d
  have hs := hD.s
  have he := hD.e
  have e1 : f.c * f.c - D = 2 * (2 * f.b * c) := by rw [hc]; grind
  have e2 : (f.c * f.c) % 2 = D % 2 := by omega
  rcases (show f.c % 2 = 0 ∨ f.c % 2 = 1 by omega) with z | z
  · have : (f.c * f.c) % 2 = 0 := by rw [Int.mul_emod, z]; rfl
    omega
  · have : (f.c * f.c) % 2 = 1 := by rw [Int.mul_emod, z]; rfl
    omega
theorem form_eq {D : Int} {R : Rg} (hD : Dc D R) (γ : Int) : (2 * γ + R.s) * (2 * γ + R.s) - D = 4 * (γ * γ + R.s * γ - R.t) := by
  have := hD.ss
  have := hD.e
  have e : (2 * γ + R.s) * (2 * γ + R.s) = 4 * (γ * γ) + 4 * (R.s * γ) + R.s * R.s := by grind
  rw [e]
  omega
theorem GoodF.ok {D : Int} {R : Rg} (hD : Dc D R) {f : Fm} (h : GoodF D f) : (tI R f).Ok R := by
  refine ⟨h.k, h.a, ?_⟩
  have p := h.par hD
  have d := h.d
  rw [p, form_eq hD] at d
  exact Int.dvd_of_mul_dvd_mul_left (by omega) d
theorem GoodF.uniq {D : Int} {R : Rg} (hD : Dc D R) {f g : Fm} (hf : GoodF D f) (hg : GoodF D g) (h1 : ∀ p q, (tI R f).has p q → (tI R g).has p q) (h2 : ∀ p q, (tI R g).has p q → (tI R f).has p q) : f = g := by
  obtain ⟨ek, ea, eb⟩ := Id3.same (hf.ok hD) (hg.ok hD) h1 h2
  simp only [tI] at ek ea eb
  have p1 := hf.par hD
  have p2 := hg.par hD
  have l1 := hf.lo; have l2 := hf.hi; have l3 := hg.lo; have l4 := hg.hi
  have z : (f.c - R.s) / 2 - (g.c - R.s) / 2 = 0 := Int.eq_zero_of_dvd_of_natAbs_lt_natAbs eb (by omega)
  ext
  · exact ek
  · exact ea
  · omega
/-- the reduced numbers of a (k; a, beta) -/
def redF (R : Rg) (I : Id3) : Fm := ⟨I.k, I.a, (2 * I.β + R.s) % (2 * I.a)⟩
theorem redF_ok {D : Int} {R : Rg} (hD : Dc D R) {I : Id3} (h : I.Ok R) : GoodF D (redF R I) ∧ ∀ p q, (tI R (redF R I)).has p q ↔ I.has p q := by
  have ha := h.a
  have hs := hD.s
  have m0 := Int.emod_nonneg (2 * I.β + R.s) (show 2 * I.a ≠ 0 by omega)
  have m1 := Int.emod_lt_of_pos (2 * I.β + R.s) (show 0 < 2 * I.a by omega)
  obtain ⟨c, hc⟩ : ∃ c, (2 * I.β + R.s) % (2 * I.a) = 2 * I.β + R.s - 2 * (I.a * c) := ⟨(2 * I.β + R.s) / (2 * I.a), by rw [Int.emod_def, Int.mul_assoc]⟩
  have eγ : ((2 * I.β + R.s) % (2 * I.a) - R.s) / 2 = I.β - I.a * c := by rw [hc]; omega
  have sh : I.a ∣ I.β - (I.β - I.a * c) := ⟨c, by omega⟩
  have ok := Id3.shift_ok h sh
  refine ⟨⟨h.k, h.a, m0, m1, ?_⟩, fun p q => ?_⟩
  · show 4 * I.a ∣ _
    have e : (2 * I.β + R.s) % (2 * I.a) = 2 * (I.β - I.a * c) + R.s := by rw [hc]; omega
    simp only [redF]
    rw [e, form_eq hD]
    exact Int.mul_dvd_mul_left 4 ok.d
  · show (Id3.mk I.k I.a (((2 * I.β + R.s) % (2 * I.a) - R.s) / 2)).has p q ↔ _
    rw [eγ]
    exact Id3.shift sh p q
/-! ### rows of pairs (x, y) -/
def toXY (R : Rg) (T : Int → Int → Prop) (x y : Int) : Prop := ∃ p, x = 2 * p + R.s * y ∧ T p y
theorem toXY_lat {R : Rg} {T : Int → Int → Prop} (h : Lat T) : Lat (toXY R T) := by
  refine ⟨⟨0, by simp, h.z⟩, ?_⟩
  rintro x y z w ⟨p, hp, h1⟩ ⟨q, hq, h2⟩
  exact ⟨p - q, by rw [hp, hq]; grind, h.sub h1 h2⟩
def Rg.w (R : Rg) (m : El) : El := (R.t * m.2, m.1 + R.s * m.2)
def rowsOf (R : Rg) (ms : List El) : List El := ms.flatMap fun m => [m, R.w m]
structure Rows (R : Rg) (ms : List El) (X Y S : Int) : Prop where
  e : ∀ L : Int → Int → Prop, Lat L → ((∀ m ∈ rowsOf R ms, L (R.x m) m.2) ↔ L X Y ∧ L S 0)
  y : 0 ≤ Y
  s : 0 ≤ S
theorem toXY_iff {R : Rg} {T : Int → Int → Prop} (m : El) : toXY R T (R.x m) m.2 ↔ T m.1 m.2 := by
  constructor
  · rintro ⟨p, hp, h⟩
    have : m.1 = p := by simp only [Rg.x] at hp; omega
    rw [this]; exact h
  · intro h
    exact ⟨m.1, rfl, h⟩
theorem ww (R : Rg) (m : El) : R.w (R.w m) = (R.s * (R.w m).1 + R.t * m.1, R.s * (R.w m).2 + R.t * m.2) := by
  simp only [Rg.w, Prod.mk.injEq]; constructor <;> grind
theorem rows_hnf {R : Rg} {ms : List El} {X Y S n : Int} (h : Rows R ms X Y S) (hn : n ≠ 0) (ln : OS R ms n 0) :
    ∃ A B, S = 2 * A ∧ X = 2 * B + R.s * Y ∧ 0 < Y ∧ 0 < A ∧ Y ∣ A ∧ Y ∣ B ∧ (Id3.mk Y (A / Y) (B / Y)).Ok R ∧ ∀ p q, (Id3.mk Y (A / Y) (B / Y)).has p q ↔ OS R ms p q := by
  have mem1 : ∀ m ∈ ms, m ∈ rowsOf R ms ∧ R.w m ∈ rowsOf R ms := fun m hm => ⟨List.mem_flatMap.2 ⟨m, hm, by simp⟩, List.mem_flatMap.2 ⟨m, hm, by simp⟩⟩
  have mem2 : ∀ r ∈ rowsOf R ms, ∃ m ∈ ms, r = m ∨ r = R.w m := fun r hr => by
    obtain ⟨m, hm, h⟩ := List.mem_flatMap.1 hr
    exact ⟨m, hm, by simpa using h⟩
  have inT := (h.e (toXY R (OS R ms)) (toXY_lat OS.lat)).1 fun r hr => by
    rw [toXY_iff]
    obtain ⟨m, hm, rfl | rfl⟩ := mem2 r hr
    · exact OS.mem hm
    · exact OS.om _ _ (OS.mem hm)
  obtain ⟨⟨B, hB, tB⟩, ⟨A, hA, tA⟩⟩ := inT
  rw [Int.mul_zero, Int.add_zero] at hA
  have z2 : Lat fun x y => ∃ u v : Int, x = u * S + v * X ∧ y = v * Y := by
    refine ⟨⟨0, 0, by simp, by simp⟩, ?_⟩
    rintro p q r s ⟨u, v, h1, h2⟩ ⟨u', v', h3, h4⟩
    exact ⟨u - u', v - v', by rw [h1, h3]; grind, by rw [h2, h4]; grind⟩
  obtain ⟨Z, hZ⟩ : ∃ Z : Int → Int → Prop, Z = fun x y => ∃ u v : Int, x = u * S + v * X ∧ y = v * Y := ⟨_, rfl⟩
  rw [← hZ] at z2
  have zr : ∀ r ∈ rowsOf R ms, Z (R.x r) r.2 := (h.e Z z2).2 ⟨by rw [hZ]; exact ⟨0, 1, by omega, by omega⟩, by rw [hZ]; exact ⟨1, 0, by omega, by omega⟩⟩
  -- in the numbers p, q
  have zl : Lat fun p q => Z (2 * p + R.s * q) q := by
    refine ⟨by simpa using z2.z, fun {p q r s} h1 h2 => ?_⟩
    have := z2.sub h1 h2
    have e : 2 * p + R.s * q - (2 * r + R.s * s) = 2 * (p - r) + R.s * (q - s) := by grind
    rwa [e] at this
  have zw : Lat fun p q => Z (2 * p + R.s * q) q ∧ Z (2 * (R.t * q) + R.s * (p + R.s * q)) (p + R.s * q) := ⟨⟨zl.z, (om_lat (R := R) zl).z⟩, fun h1 h2 => ⟨zl.sub h1.1 h2.1, (om_lat (R := R) zl).sub h1.2 h2.2⟩⟩
  have zz := (h.e (toXY R fun p q => Z (2 * p + R.s * q) q ∧ Z (2 * (R.t * q) + R.s * (p + R.s * q)) (p + R.s * q)) (toXY_lat zw)).1 fun r hr => by
    rw [toXY_iff]
    obtain ⟨m, hm, rfl | rfl⟩ := mem2 r hr
    · exact ⟨zr _ (mem1 _ hm).1, zr _ (mem1 _ hm).2⟩
    · refine ⟨zr _ (mem1 _ hm).2, ?_⟩
      have := zl.lin (zr _ (mem1 _ hm).2) (zr _ (mem1 _ hm).1) R.s R.t
      have e := ww R m
      have f1 : (R.w (R.w m)).1 = R.s * (R.w m).1 + R.t * m.1 := by rw [e]
      have f2 : (R.w (R.w m)).2 = R.s * (R.w m).2 + R.t * m.2 := by rw [e]
      rw [← f1, ← f2] at this
      exact this
  obtain ⟨⟨B', hB', _, wB⟩, ⟨A', hA', _, wA⟩⟩ := zz
  have eB : B' = B := by omega
  rw [Int.mul_zero, Int.add_zero] at hA'
  have eA : A' = A := by omega
  subst eB eA
  have zom : Om R.s R.t fun p q => Z (2 * p + R.s * q) q := by
    intro p q hz
    have : ∃ u v : Int, 2 * p + R.s * q = u * S + v * X ∧ q = v * Y := by rw [hZ] at hz; exact hz
    obtain ⟨u, v, h1, h2⟩ := this
    have := (om_lat (R := R) zl).lin wA wB u v
    have e1 : u * 0 + v * Y = q := by rw [h2]; omega
    have e2 : u * A' + v * B' = p := by
      have : 2 * (u * A' + v * B') = 2 * p := by
        have f1 : u * S = 2 * (u * A') := by rw [hA]; grind
        have f2 : v * X = 2 * (v * B') + R.s * (v * Y) := by rw [hB]; grind
        rw [h2] at h1
        rw [f1, f2] at h1
        omega
      omega
    rw [e1, e2] at this
    exact this
  have gen : ∀ p q, OS R ms p q → ∃ x y, p = x * A' + y * B' ∧ q = y * Y := by
    intro p q ho
    have := ho _ zl zom fun m hm => zr _ (mem1 _ hm).1
    have : ∃ u v : Int, 2 * p + R.s * q = u * S + v * X ∧ q = v * Y := by rw [hZ] at this; exact this
    obtain ⟨u, v, h1, h2⟩ := this
    refine ⟨u, v, ?_, h2⟩
    have f1 : u * S = 2 * (u * A') := by rw [hA]; grind
    have f2 : v * X = 2 * (v * B') + R.s * (v * Y) := by rw [hB]; grind
    rw [h2, f1, f2] at h1
    omega
  have hs := h.s
  obtain ⟨c1, c2, c3, c4, c5, c6⟩ := hnf_of OS.lat OS.om (by omega) h.y hn ln tA tB gen
  exact ⟨A', B', hA, hB, c1, c2, c3, c4, c5, c6⟩
end M

set_option Elab.async false
set_option linter.all false
set_option maxRecDepth 100000
set_option maxHeartbeats 4000000
namespace M
open PySem PySem.Spec PyProof.Rows L2
def topS (i : Nat) : Stmt := PySem.Challenge.pw_rootsooth_k13_whole_ideals_as_sets_of_me.main.body.getD i (.Pass ⟨0, 0, 0, 0⟩)
/-- what the top has written -/
structure Txt (K : PySem.W.Frag) (mg : PySem.Str → Option Value) : Prop where
  f_common_divisor : Def K mg "common_divisor" (topS 6) ["one", "other"]
  f_divisor_of_all : Def K mg "divisor_of_all" (topS 7) ["numbers"]
  f_combined : Def K mg "combined" (topS 8) ["one", "other"]
  f_factorization : Def K mg "factorization" (topS 9) ["number"]
  f_u_lifted : Def K mg "_lifted" (topS 12) ["number", "prime", "power", "roots"]
  f_roots_modulo_power : Def K mg "roots_modulo_power" (topS 13) ["number", "prime", "count"]
  f_number_with : Def K mg "number_with" (topS 14) ["remainders"]
  f_roots_modulo : Def K mg "roots_modulo" (topS 15) ["number", "modulus"]
  f_is_integer : Def K mg "is_integer" (topS 17) ["value"]
  f_is_row : Def K mg "is_row" (topS 18) ["value", "size"]
  f_is_element : Def K mg "is_element" (topS 20) ["discriminant", "value"]
  f_multiplied : Def K mg "multiplied" (topS 21) ["discriminant", "one", "other"]
  f_conjugate : Def K mg "conjugate" (topS 22) ["one"]
  f_norm_of : Def K mg "norm_of" (topS 23) ["discriminant", "one"]
  f_is_ideal : Def K mg "is_ideal" (topS 26) ["discriminant", "value"]
  f_whole_ideal : Def K mg "whole_ideal" (topS 27) ["discriminant"]
  f_ideal_of_number : Def K mg "ideal_of_number" (topS 28) ["discriminant", "number"]
  f_members_of : Def K mg "members_of" (topS 29) ["ideal"]
  f_ideal_of_members : Def K mg "ideal_of_members" (topS 30) ["discriminant", "members"]
  f_principal_ideal : Def K mg "principal_ideal" (topS 31) ["discriminant", "one"]
  f_ideal_norm : Def K mg "ideal_norm" (topS 32) ["ideal"]
  f_has_member : Def K mg "has_member" (topS 33) ["discriminant", "ideal", "one"]
  f_ideal_sum : Def K mg "ideal_sum" (topS 34) ["discriminant", "one", "other"]
  f_ideal_product : Def K mg "ideal_product" (topS 35) ["discriminant", "one", "other"]
  f_ideal_power : Def K mg "ideal_power" (topS 36) ["discriminant", "ideal", "count"]
  f_ideal_conjugate : Def K mg "ideal_conjugate" (topS 37) ["ideal"]
  f_is_within : Def K mg "is_within" (topS 38) ["discriminant", "one", "other"]
  f_common_ideal : Def K mg "common_ideal" (topS 39) ["discriminant", "one", "other"]
  f_u_common_with : Def K mg "_common_with" (topS 40) ["discriminant", "one", "other", "step", "a"]
  f_is_invertible : Def K mg "is_invertible" (topS 41) ["discriminant", "ideal"]
  f_ideals_of_norm : Def K mg "ideals_of_norm" (topS 42) ["discriminant", "norm"]
  f_ideal_quotient : Def K mg "ideal_quotient" (topS 43) ["discriminant", "one", "other"]
  f_remainder_of : Def K mg "remainder_of" (topS 44) ["discriminant", "ideal", "one"]
  f_conjugate_members : Def K mg "conjugate_members" (topS 45) ["ideal"]
  f_share_no_prime : Def K mg "share_no_prime" (topS 46) ["one", "other"]
  f_L_state : Def K mg "_law_state" (topS 48) ["script"]
  f_L_draw : Def K mg "_law_draw" (topS 49) ["state", "limit"]
  f_L_truth : Def K mg "_law_truth" (topS 50) ["told", "due"]
  f_L_common : Def K mg "_law_common" (topS 51) ["one", "two"]
  f_L_is_square : Def K mg "_law_is_square" (topS 52) ["number"]
  f_L_below : Def K mg "_law_below" (topS 53) ["state", "most"]
  f_L_above : Def K mg "_law_above" (topS 54) ["state", "most"]
  f_L_disc : Def K mg "_law_disc" (topS 55) ["state"]
  f_L_ideal_has : Def K mg "_law_ideal_has" (topS 56) ["size", "ideal", "one"]
  f_L_times : Def K mg "_law_times" (topS 57) ["size", "one", "two"]
  f_L_norm : Def K mg "_law_norm" (topS 58) ["size", "one"]
  f_L_member : Def K mg "_law_member" (topS 59) ["state", "size", "ideal"]
  f_L_ideal : Def K mg "_law_ideal" (topS 60) ["state", "size", "most"]
  f_L_is_ideal : Def K mg "_law_is_ideal" (topS 61) ["size", "value"]
  f_L_holds : Def K mg "_law_holds" (topS 62) ["state", "size", "one", "two"]
  f_law : Def K mg "law" (topS 63) ["script"]
  b_abs : mg "abs" = none
  b_all : mg "all" = none
  b_bool : mg "bool" = none
  b_int : mg "int" = none
  b_isinstance : mg "isinstance" = none
  b_len : mg "len" = none
  b_list : mg "list" = none
  b_range : mg "range" = none
  b_sorted : mg "sorted" = none
  b_tuple : mg "tuple" = none
  x_NotPossible : ExcT K mg "NotPossible"
  x_TooLarge : ExcT K mg "TooLarge"
  c_MOST : CInt mg "MOST" 1000000000000
  c_MOST_MODULUS : CInt mg "MOST_MODULUS" 1000000
  c_MOST_NORM : CInt mg "MOST_NORM" 100000
section
variable {P : Program} {w : World} {K : PySem.W.Frag} {mg : PySem.Str → Option Value} {base : Heap}
/-! ### common_divisor -/
abbrev s_common_divisor : Stmt := topS 6
abbrev N_common_divisor : List PySem.Str := ["one", "other"]
theorem sc_common_divisor : FnScope N_common_divisor ["one", "other"] (defScope s_common_divisor) := ⟨rfl, rfl, rfl, by decide +kernel, rfl, by decide +kernel, by decide +kernel⟩
noncomputable def d_common_divisor : List D → Res D := runF 2 2
 ((sSeq (sPar 0 1 (eArgs fAbs (aCons (eVar 0) aNil)) (eArgs fAbs (aCons (eVar 1) aNil)))
 (sSeq (sWhile (bBin vNe (eVar 1) (eC (.int 0))) (sPar 0 1 (eVar 1) (eBin vMod (eVar 0) (eVar 1))))
 (sRet (eVar 0)))))
theorem ok_common_divisor (T : Txt K mg) : FnD P w K mg base "common_divisor" 1 2 d_common_divisor :=
 own_P (mn := ⟨[], none⟩) (mb := ⟨[], none⟩) (mc := ⟨[], none⟩) T.f_common_divisor sc_common_divisor rfl fun f F0 cdv A outer s H E hr =>
 (ss_cons (m1 := ⟨[], none⟩) (s_par (i := 0) (j := 1) (a_cons (e_callB call_abs v_abs rfl T.b_abs (by decide +kernel) (a_cons (e_var (by decide) (pv 0)) a_nil)) (a_cons (e_callB call_abs v_abs rfl T.b_abs (by decide +kernel) (a_cons (e_var (by decide) (pv 1)) a_nil)) a_nil)) rfl sc_common_divisor.nd rfl rfl (by decide) rfl rfl (by rfl))
 (ss_cons (m1 := ⟨[], none⟩) (s_while pass_ok (b_cmp (op_neD hr.units) (v_ne rfl) (e_var (by decide) (pv 1)) e_int (nomark _)) (ss_one (s_par (i := 0) (j := 1) (a_cons (e_var (by decide) (pv 1)) (a_cons (e_bin op_modN v_mod (e_var (by decide) (pv 0)) (e_var (by decide) (pv 1))) a_nil)) rfl sc_common_divisor.nd rfl rfl (by decide) rfl rfl (by rfl))))
 (ss_one (s_ret (e_var (by decide) (pv 0))))))
/-! ### divisor_of_all -/
abbrev s_divisor_of_all : Stmt := topS 7
abbrev N_divisor_of_all : List PySem.Str := ["numbers", "found", "number"]
theorem sc_divisor_of_all : FnScope N_divisor_of_all ["numbers"] (defScope s_divisor_of_all) := ⟨rfl, rfl, rfl, by decide +kernel, rfl, by decide +kernel, by decide +kernel⟩
noncomputable def d_divisor_of_all : List D → Res D := runF 3 1
 ((sSeq (sAsg (eC (.int 0)) (gN 1))
 (sSeq (sFor (iSeq (eVar 0)) (gN 2) (sAsg (eCall d_common_divisor (aCons (eVar 1) (aCons (eVar 2) aNil))) (gN 1)))
 (sRet (eVar 1)))))
theorem ok_divisor_of_all (T : Txt K mg) : FnD P w K mg base "divisor_of_all" 2 1 d_divisor_of_all :=
 own_P (mn := ⟨[], none⟩) (mb := ⟨[], none⟩) (mc := ⟨[], none⟩) T.f_divisor_of_all sc_divisor_of_all rfl fun f F0 cdv A outer s H E hr =>
 (ss_cons (m1 := ⟨[], none⟩) (s_set e_int (fun h => ps_set (i := 1) sc_divisor_of_all.nd rfl (.inl rfl) h))
 (ss_cons (m1 := ⟨[], none⟩) (s_for pass_ok rfl (i_seq rfl (e_var (by decide) (pv 0))) (g_name (pg_name (i := 2) sc_divisor_of_all.nd rfl (.inl rfl))) (ss_one (s_set (e_call (ok_common_divisor T) hr rfl rfl takes_ok (a_cons (e_var (by decide) (pv 1)) (a_cons (e_var (by decide) (pv 2)) a_nil)) rfl) (fun h => ps_set (i := 1) sc_divisor_of_all.nd rfl (.inl rfl) h))))
 (ss_one (s_ret (e_var (by decide) (pv 1))))))
/-! ### combined -/
abbrev s_combined : Stmt := topS 8
abbrev N_combined : List PySem.Str := ["one", "other", "first", "second", "count"]
theorem sc_combined : FnScope N_combined ["one", "other"] (defScope s_combined) := ⟨rfl, rfl, rfl, by decide +kernel, rfl, by decide +kernel, by decide +kernel⟩
noncomputable def d_combined : List D → Res D := runF 5 2
 ((sSeq (sAsg (eTup (aCons (eTup (aCons (eC (.int 1)) (aCons (eC (.int 0)) aNil))) (aCons (eTup (aCons (eC (.int 0)) (aCons (eC (.int 1)) aNil))) aNil))) (gT (gsCons (gN 2) (gsCons (gN 3) gsNil))))
 (sSeq (sWhile (bBin vNe (eVar 1) (eC (.int 0))) (sSeq (sAsg (eBin vFdiv (eVar 0) (eVar 1)) (gN 4))
 (sSeq (sPar 0 1 (eVar 1) (eBin vSub (eVar 0) (eBin vMul (eVar 4) (eVar 1))))
 (sPar 2 3 (eVar 3) (eTup (aCons (eBin vSub (eBin vIx (eVar 2) (eC (.int 0))) (eBin vMul (eVar 4) (eBin vIx (eVar 3) (eC (.int 0))))) (aCons (eBin vSub (eBin vIx (eVar 2) (eC (.int 1))) (eBin vMul (eVar 4) (eBin vIx (eVar 3) (eC (.int 1))))) aNil)))))))
 (sSeq (sIf (bBin cLt (eVar 0) (eC (.int 0))) (sRet (eTup (aCons (eUn vNeg (eVar 0)) (aCons (eUn vNeg (eBin vIx (eVar 2) (eC (.int 0)))) (aCons (eUn vNeg (eBin vIx (eVar 2) (eC (.int 1)))) aNil))))) sNext)
 (sRet (eTup (aCons (eVar 0) (aCons (eBin vIx (eVar 2) (eC (.int 0))) (aCons (eBin vIx (eVar 2) (eC (.int 1))) aNil)))))))))
theorem ok_combined (T : Txt K mg) : FnD P w K mg base "combined" 1 2 d_combined :=
 own_P (mn := ⟨[], none⟩) (mb := ⟨[], none⟩) (mc := ⟨[], none⟩) T.f_combined sc_combined rfl fun f F0 cdv A outer s H E hr =>
 (ss_cons (m1 := ⟨[], none⟩) (s_asg (e_tup (a_cons (e_tup (a_cons e_int (a_cons e_int a_nil))) (a_cons (e_tup (a_cons e_int (a_cons e_int a_nil))) a_nil))) (g_tup rfl rfl (gs_cons (g_name (pg_name (i := 2) sc_combined.nd rfl (.inl rfl))) (gs_cons (g_name (pg_name (i := 3) sc_combined.nd rfl (.inl rfl))) gs_nil)) (gl_cons (gl_cons gl_nil))))
 (ss_cons (m1 := ⟨[], none⟩) (s_while pass_ok (b_cmp (op_neD hr.units) (v_ne rfl) (e_var (by decide) (pv 1)) e_int (nomark _)) (ss_cons (m1 := ⟨[], none⟩) (s_set (e_bin op_fdivG v_fdiv (e_var (by decide) (pv 0)) (e_var (by decide) (pv 1))) (fun h => ps_set (i := 4) sc_combined.nd rfl (.inl rfl) h))
 (ss_cons (m1 := ⟨[], none⟩) (s_par (i := 0) (j := 1) (a_cons (e_var (by decide) (pv 1)) (a_cons (e_bin op_sub v_sub (e_var (by decide) (pv 0)) (e_bin op_mulX v_mul (e_var (by decide) (pv 4)) (e_var (by decide) (pv 1)))) a_nil)) rfl sc_combined.nd rfl rfl (by decide) rfl rfl (by rfl))
 (ss_one (s_par (i := 2) (j := 3) (a_cons (e_var (by decide) (pv 3)) (a_cons (e_tup (a_cons (e_bin op_sub v_sub (e_ix ix_seq (v_ix rfl) (e_var (by decide) (pv 2)) e_int (fun _ _ => rfl)) (e_bin op_mulX v_mul (e_var (by decide) (pv 4)) (e_ix ix_seq (v_ix rfl) (e_var (by decide) (pv 3)) e_int (fun _ _ => rfl)))) (a_cons (e_bin op_sub v_sub (e_ix ix_seq (v_ix rfl) (e_var (by decide) (pv 2)) e_int (fun _ _ => rfl)) (e_bin op_mulX v_mul (e_var (by decide) (pv 4)) (e_ix ix_seq (v_ix rfl) (e_var (by decide) (pv 3)) e_int (fun _ _ => rfl)))) a_nil))) a_nil)) rfl sc_combined.nd rfl rfl (by decide) rfl rfl (by rfl))))))
 (ss_cons (m1 := ⟨[], none⟩) (s_if (b_cmp op_lt v_lt (e_var (by decide) (pv 0)) e_int (nomark _)) (ss_one (s_ret (e_tup (a_cons (e_un un_neg v_neg (e_var (by decide) (pv 0))) (a_cons (e_un un_neg v_neg (e_ix ix_seq (v_ix rfl) (e_var (by decide) (pv 2)) e_int (fun _ _ => rfl))) (a_cons (e_un un_neg v_neg (e_ix ix_seq (v_ix rfl) (e_var (by decide) (pv 2)) e_int (fun _ _ => rfl))) a_nil)))))) ss_nil)
 (ss_one (s_ret (e_tup (a_cons (e_var (by decide) (pv 0)) (a_cons (e_ix ix_seq (v_ix rfl) (e_var (by decide) (pv 2)) e_int (fun _ _ => rfl)) (a_cons (e_ix ix_seq (v_ix rfl) (e_var (by decide) (pv 2)) e_int (fun _ _ => rfl)) a_nil)))))))))
/-! ### factorization -/
abbrev s_factorization : Stmt := topS 9
abbrev N_factorization : List PySem.Str := ["number", "found", "prime", "count"]
theorem sc_factorization : FnScope N_factorization ["number"] (defScope s_factorization) := ⟨rfl, rfl, rfl, by decide +kernel, rfl, by decide +kernel, by decide +kernel⟩
noncomputable def d_factorization : List D → Res D := runF 4 1
 ((sSeq (sIf (bBin cGt (eVar 0) (eC (.int 1000000000000))) (sRaise ⟨"TooLarge", none⟩) sNext)
 (sSeq (sOwn 1 aNil)
 (sSeq (sAsg (eC (.int 2)) (gN 2))
 (sSeq (sWhile (bBin cLe (eBin vMul (eVar 2) (eVar 2)) (eVar 0)) (sSeq (sAsg (eC (.int 0)) (gN 3))
 (sSeq (sWhile (bBin vEq (eBin vMod (eVar 0) (eVar 2)) (eC (.int 0))) (sSeq (sAug 0 vFdiv (eVar 2))
 (sAug 3 vAddI (eC (.int 1)))))
 (sSeq (sIf (bBin cGt (eVar 3) (eC (.int 0))) (sApp 1 (eTup (aCons (eVar 2) (aCons (eVar 3) aNil)))) sNext)
 (sAug 2 vAddI (eIf (bBin vEq (eVar 2) (eC (.int 2))) (eC (.int 1)) (eC (.int 2))))))))
 (sSeq (sIf (bBin cGt (eVar 0) (eC (.int 1))) (sApp 1 (eTup (aCons (eVar 0) (aCons (eC (.int 1)) aNil)))) sNext)
 (sRet (eArgs fTuple (aCons (eVar 1) aNil)))))))))
theorem ok_factorization (T : Txt K mg) : FnD P w K mg base "factorization" 1 1 d_factorization :=
 own_P (mn := ⟨[], none⟩) (mb := ⟨[], none⟩) (mc := ⟨[], none⟩) T.f_factorization sc_factorization rfl fun f F0 cdv A outer s H E hr =>
 (ss_cons (m1 := ⟨[], none⟩) (s_if (b_cmp op_gt v_gt (e_var (by decide) (pv 0)) (e_cint T.c_MOST rfl) (nomark _)) (ss_one (s_raiseT T.x_TooLarge rfl rfl rfl takes_ok rfl)) ss_nil)
 (ss_cons (m1 := ⟨[1], none⟩) (s_own (f_lst a_nil) (fun h => ps_set (i := 1) sc_factorization.nd rfl (.inl rfl) h))
 (ss_cons (m1 := ⟨[1], none⟩) (s_set e_int (fun h => ps_set (i := 2) sc_factorization.nd rfl (.inl rfl) h))
 (ss_cons (m1 := ⟨[1], none⟩) (s_while pass_ok (b_cmp op_le v_le (e_bin op_mulX v_mul (e_var (by decide) (pv 2)) (e_var (by decide) (pv 2))) (e_var (by decide) (pv 0)) (nomark _)) (ss_cons (m1 := ⟨[1], none⟩) (s_set e_int (fun h => ps_set (i := 3) sc_factorization.nd rfl (.inl rfl) h))
 (ss_cons (m1 := ⟨[1], none⟩) (s_while pass_ok (b_cmp (op_eqD hr.units) (v_eq rfl) (e_bin op_modN v_mod (e_var (by decide) (pv 0)) (e_var (by decide) (pv 2))) e_int (nomark _)) (ss_cons (m1 := ⟨[1], none⟩) (s_aug v_fdiv (by decide) (e_var (by decide) (pv 2)) (fun h => ps_aug (i := 0) sc_factorization.nd rfl (.inl rfl) h iop_fdivG))
 (ss_one (s_aug v_addI (by decide) e_int (fun h => ps_aug (i := 3) sc_factorization.nd rfl (.inl rfl) h iop_add)))))
 (ss_cons (m1 := ⟨[1], none⟩) (s_if (b_cmp op_gt v_gt (e_var (by decide) (pv 3)) e_int (nomark _)) (ss_one (s_app (by decide) (e_tup (a_cons (e_var (by decide) (pv 2)) (a_cons (e_var (by decide) (pv 3)) a_nil))) (fun h => ps_expr (pe_bm PySem.F.plainAttrs_list PySem.F.slot_list_append PySem.F.type_list_append mt_append (pv 1) (pa_cons h pa_nil))))) ss_nil)
 (ss_one (s_aug v_addI (by decide) (e_if (b_cmp (op_eqD hr.units) (v_eq rfl) (e_var (by decide) (pv 2)) e_int (nomark _)) e_int e_int) (fun h => ps_aug (i := 2) sc_factorization.nd rfl (.inl rfl) h iop_add)))))))
 (ss_cons (m1 := ⟨[1], none⟩) (s_if (b_cmp op_gt v_gt (e_var (by decide) (pv 0)) e_int (nomark _)) (ss_one (s_app (by decide) (e_tup (a_cons (e_var (by decide) (pv 0)) (a_cons e_int a_nil))) (fun h => ps_expr (pe_bm PySem.F.plainAttrs_list PySem.F.slot_list_append PySem.F.type_list_append mt_append (pv 1) (pa_cons h pa_nil))))) ss_nil)
 (ss_frz 1 (ss_one (s_ret (e_callTy call_tuple_of (v_tuple rfl) rfl T.b_tuple (by decide +kernel) (a_cons (e_var (by decide) (pv 1)) a_nil))))))))))
/-! ### _lifted -/
abbrev s_u_lifted : Stmt := topS 12
abbrev N_u_lifted : List PySem.Str := ["number", "prime", "power", "roots", "found", "root", "turn", "other"]
theorem sc_u_lifted : FnScope N_u_lifted ["number", "prime", "power", "roots"] (defScope s_u_lifted) := ⟨rfl, rfl, rfl, by decide +kernel, rfl, by decide +kernel, by decide +kernel⟩
noncomputable def d_u_lifted : List D → Res D := runF 8 4
 ((sSeq (sOwn 4 aNil)
 (sSeq (sFor (iSeq (eVar 3)) (gN 5) (sFor (iArgs iRange (aCons (eVar 1) aNil)) (gN 6) (sSeq (sAsg (eBin vAdd (eVar 5) (eBin vMul (eVar 6) (eVar 2))) (gN 7))
 (sIf (bBin vEq (eBin vMod (eBin vSub (eBin vMul (eVar 7) (eVar 7)) (eVar 0)) (eBin vMul (eVar 1) (eVar 2))) (eC (.int 0))) (sApp 4 (eVar 7)) sNext))))
 (sRet (eArgs fSorted (aCons (eVar 4) aNil))))))
theorem ok_u_lifted (T : Txt K mg) : FnD P w K mg base "_lifted" 1 4 d_u_lifted :=
 own_P (mn := ⟨[], none⟩) (mb := ⟨[], none⟩) (mc := ⟨[], none⟩) T.f_u_lifted sc_u_lifted rfl fun f F0 cdv A outer s H E hr =>
 (ss_cons (m1 := ⟨[4], none⟩) (s_own (f_lst a_nil) (fun h => ps_set (i := 4) sc_u_lifted.nd rfl (.inl rfl) h))
 (ss_cons (m1 := ⟨[4], none⟩) (s_for pass_ok rfl (i_seq rfl (e_var (by decide) (pv 3))) (g_name (pg_name (i := 5) sc_u_lifted.nd rfl (.inl rfl))) (ss_one (s_for pass_ok rfl (i_range1 rfl T.b_range (a_cons (e_var (by decide) (pv 1)) a_nil)) (g_name (pg_name (i := 6) sc_u_lifted.nd rfl (.inl rfl))) (ss_cons (m1 := ⟨[4], none⟩) (s_set (e_bin op_addX (v_add rfl) (e_var (by decide) (pv 5)) (e_bin op_mulX v_mul (e_var (by decide) (pv 6)) (e_var (by decide) (pv 2)))) (fun h => ps_set (i := 7) sc_u_lifted.nd rfl (.inl rfl) h))
 (ss_one (s_if (b_cmp (op_eqD hr.units) (v_eq rfl) (e_bin op_modN v_mod (e_bin op_sub v_sub (e_bin op_mulX v_mul (e_var (by decide) (pv 7)) (e_var (by decide) (pv 7))) (e_var (by decide) (pv 0))) (e_bin op_mulX v_mul (e_var (by decide) (pv 1)) (e_var (by decide) (pv 2)))) e_int (nomark _)) (ss_one (s_app (by decide) (e_var (by decide) (pv 7)) (fun h => ps_expr (pe_bm PySem.F.plainAttrs_list PySem.F.slot_list_append PySem.F.type_list_append mt_append (pv 4) (pa_cons h pa_nil))))) ss_nil))))))
 (ss_frz 4 (ss_one (s_ret (e_callB cr_sortedI (v_sorted rfl) rfl T.b_sorted (by decide +kernel) (a_cons (e_var (by decide) (pv 4)) a_nil)))))))
/-! ### roots_modulo_power -/
abbrev s_roots_modulo_power : Stmt := topS 13
abbrev N_roots_modulo_power : List PySem.Str := ["number", "prime", "count", "roots", "power", "_"]
theorem sc_roots_modulo_power : FnScope N_roots_modulo_power ["number", "prime", "count"] (defScope s_roots_modulo_power) := ⟨rfl, rfl, rfl, by decide +kernel, rfl, by decide +kernel, by decide +kernel⟩
noncomputable def d_roots_modulo_power : List D → Res D := runF 6 3
 ((sSeq (sAsg (eLst (aCons (eC (.int 0)) aNil)) (gN 3))
 (sSeq (sAsg (eC (.int 1)) (gN 4))
 (sSeq (sFor (iArgs iRange (aCons (eVar 2) aNil)) (gN 5) (sSeq (sAsg (eCall d_u_lifted (aCons (eVar 0) (aCons (eVar 1) (aCons (eVar 4) (aCons (eVar 3) aNil))))) (gN 3))
 (sSeq (sAug 4 vMulI (eVar 1))
 (sIf (bBin cGt (eVar 4) (eC (.int 1000000))) (sRaise ⟨"TooLarge", none⟩) sNext))))
 (sRet (eVar 3))))))
theorem ok_roots_modulo_power (T : Txt K mg) : FnD P w K mg base "roots_modulo_power" 2 3 d_roots_modulo_power :=
 own_P (mn := ⟨[], none⟩) (mb := ⟨[], none⟩) (mc := ⟨[], none⟩) T.f_roots_modulo_power sc_roots_modulo_power rfl fun f F0 cdv A outer s H E hr =>
 (ss_cons (m1 := ⟨[], none⟩) (s_set (e_lst (a_cons e_int a_nil)) (fun h => ps_set (i := 3) sc_roots_modulo_power.nd rfl (.inl rfl) h))
 (ss_cons (m1 := ⟨[], none⟩) (s_set e_int (fun h => ps_set (i := 4) sc_roots_modulo_power.nd rfl (.inl rfl) h))
 (ss_cons (m1 := ⟨[], none⟩) (s_for pass_ok rfl (i_range1 rfl T.b_range (a_cons (e_var (by decide) (pv 2)) a_nil)) (g_name (pg_name (i := 5) sc_roots_modulo_power.nd rfl (.inl rfl))) (ss_cons (m1 := ⟨[], none⟩) (s_set (e_call (ok_u_lifted T) hr rfl rfl takes_ok (a_cons (e_var (by decide) (pv 0)) (a_cons (e_var (by decide) (pv 1)) (a_cons (e_var (by decide) (pv 4)) (a_cons (e_var (by decide) (pv 3)) a_nil)))) rfl) (fun h => ps_set (i := 3) sc_roots_modulo_power.nd rfl (.inl rfl) h))
 (ss_cons (m1 := ⟨[], none⟩) (s_aug v_mulI (by decide) (e_var (by decide) (pv 1)) (fun h => ps_aug (i := 4) sc_roots_modulo_power.nd rfl (.inl rfl) h iop_mulW))
 (ss_one (s_if (b_cmp op_gt v_gt (e_var (by decide) (pv 4)) (e_cint T.c_MOST_MODULUS rfl) (nomark _)) (ss_one (s_raiseT T.x_TooLarge rfl rfl rfl takes_ok rfl)) ss_nil)))))
 (ss_one (s_ret (e_var (by decide) (pv 3)))))))
/-! ### number_with -/
abbrev s_number_with : Stmt := topS 14
abbrev N_number_with : List PySem.Str := ["remainders", "found", "whole", "remainder", "modulus", "divisor", "factor", "_", "step"]
theorem sc_number_with : FnScope N_number_with ["remainders"] (defScope s_number_with) := ⟨rfl, rfl, rfl, by decide +kernel, rfl, by decide +kernel, by decide +kernel⟩
noncomputable def d_number_with : List D → Res D := runF 9 1
 ((sSeq (sAsg (eTup (aCons (eC (.int 0)) (aCons (eC (.int 1)) aNil))) (gT (gsCons (gN 1) (gsCons (gN 2) gsNil))))
 (sSeq (sFor (iSeq (eVar 0)) (gT (gsCons (gN 3) (gsCons (gN 4) gsNil))) (sSeq (sAsg (eCall d_combined (aCons (eVar 2) (aCons (eVar 4) aNil))) (gT (gsCons (gN 5) (gsCons (gN 6) (gsCons (gN 7) gsNil)))))
 (sSeq (sIf (bBin vNe (eBin vMod (eBin vSub (eVar 3) (eVar 1)) (eVar 5)) (eC (.int 0))) (sRet (eC .none)) sNext)
 (sSeq (sAsg (eBin vMod (eBin vMul (eBin vFdiv (eBin vSub (eVar 3) (eVar 1)) (eVar 5)) (eVar 6)) (eBin vFdiv (eVar 4) (eVar 5))) (gN 8))
 (sSeq (sAug 1 vAddI (eBin vMul (eVar 8) (eVar 2)))
 (sSeq (sAug 2 vMulI (eBin vFdiv (eVar 4) (eVar 5)))
 (sAug 1 vMod (eVar 2))))))))
 (sRet (eTup (aCons (eVar 1) (aCons (eVar 2) aNil)))))))
theorem ok_number_with (T : Txt K mg) : FnD P w K mg base "number_with" 2 1 d_number_with :=
 own_P (mn := ⟨[], none⟩) (mb := ⟨[], none⟩) (mc := ⟨[], none⟩) T.f_number_with sc_number_with rfl fun f F0 cdv A outer s H E hr =>
 (ss_cons (m1 := ⟨[], none⟩) (s_asg (e_tup (a_cons e_int (a_cons e_int a_nil))) (g_tup rfl rfl (gs_cons (g_name (pg_name (i := 1) sc_number_with.nd rfl (.inl rfl))) (gs_cons (g_name (pg_name (i := 2) sc_number_with.nd rfl (.inl rfl))) gs_nil)) (gl_cons (gl_cons gl_nil))))
 (ss_cons (m1 := ⟨[], none⟩) (s_for pass_ok rfl (i_seq rfl (e_var (by decide) (pv 0))) (g_tup rfl rfl (gs_cons (g_name (pg_name (i := 3) sc_number_with.nd rfl (.inl rfl))) (gs_cons (g_name (pg_name (i := 4) sc_number_with.nd rfl (.inl rfl))) gs_nil)) (gl_cons (gl_cons gl_nil))) (ss_cons (m1 := ⟨[], none⟩) (s_asg (e_call (ok_combined T) hr rfl rfl takes_ok (a_cons (e_var (by decide) (pv 2)) (a_cons (e_var (by decide) (pv 4)) a_nil)) rfl) (g_tup rfl rfl (gs_cons (g_name (pg_name (i := 5) sc_number_with.nd rfl (.inl rfl))) (gs_cons (g_name (pg_name (i := 6) sc_number_with.nd rfl (.inl rfl))) (gs_cons (g_name (pg_name (i := 7) sc_number_with.nd rfl (.inl rfl))) gs_nil))) (gl_cons (gl_cons (gl_cons gl_nil)))))
 (ss_cons (m1 := ⟨[], none⟩) (s_if (b_cmp (op_neD hr.units) (v_ne rfl) (e_bin op_modN v_mod (e_bin op_sub v_sub (e_var (by decide) (pv 3)) (e_var (by decide) (pv 1))) (e_var (by decide) (pv 5))) e_int (nomark _)) (ss_one (s_ret e_non)) ss_nil)
 (ss_cons (m1 := ⟨[], none⟩) (s_set (e_bin op_modN v_mod (e_bin op_mulX v_mul (e_bin op_fdivG v_fdiv (e_bin op_sub v_sub (e_var (by decide) (pv 3)) (e_var (by decide) (pv 1))) (e_var (by decide) (pv 5))) (e_var (by decide) (pv 6))) (e_bin op_fdivG v_fdiv (e_var (by decide) (pv 4)) (e_var (by decide) (pv 5)))) (fun h => ps_set (i := 8) sc_number_with.nd rfl (.inl rfl) h))
 (ss_cons (m1 := ⟨[], none⟩) (s_aug v_addI (by decide) (e_bin op_mulX v_mul (e_var (by decide) (pv 8)) (e_var (by decide) (pv 2))) (fun h => ps_aug (i := 1) sc_number_with.nd rfl (.inl rfl) h iop_add))
 (ss_cons (m1 := ⟨[], none⟩) (s_aug v_mulI (by decide) (e_bin op_fdivG v_fdiv (e_var (by decide) (pv 4)) (e_var (by decide) (pv 5))) (fun h => ps_aug (i := 2) sc_number_with.nd rfl (.inl rfl) h iop_mulW))
 (ss_one (s_aug v_mod (by decide) (e_var (by decide) (pv 2)) (fun h => ps_aug (i := 1) sc_number_with.nd rfl (.inl rfl) h iop_modG)))))))))
 (ss_one (s_ret (e_tup (a_cons (e_var (by decide) (pv 1)) (a_cons (e_var (by decide) (pv 2)) a_nil)))))))
/-! ### roots_modulo -/
abbrev s_roots_modulo : Stmt := topS 15
abbrev N_roots_modulo : List PySem.Str := ["number", "modulus", "found", "prime", "count", "power", "_", "fresh", "root", "pair"]
theorem sc_roots_modulo : FnScope N_roots_modulo ["number", "modulus"] (defScope s_roots_modulo) := ⟨rfl, rfl, rfl, by decide +kernel, rfl, by decide +kernel, by decide +kernel⟩
noncomputable def d_roots_modulo : List D → Res D := runF 10 2
 ((sSeq (sIf (bBin cGt (eVar 1) (eC (.int 1000000))) (sRaise ⟨"TooLarge", none⟩) sNext)
 (sSeq (sAsg (eLst (aCons (eTup (aCons (eC (.int 0)) (aCons (eC (.int 1)) aNil))) aNil)) (gN 2))
 (sSeq (sFor (iSeq (eCall d_factorization (aCons (eVar 1) aNil))) (gT (gsCons (gN 3) (gsCons (gN 4) gsNil))) (sSeq (sAsg (eC (.int 1)) (gN 5))
 (sSeq (sFor (iArgs iRange (aCons (eVar 4) aNil)) (gN 6) (sAug 5 vMulI (eVar 3)))
 (sSeq (sOwn 7 aNil)
 (sSeq (sFor (iSeq (eCall d_roots_modulo_power (aCons (eVar 0) (aCons (eVar 3) (aCons (eVar 4) aNil))))) (gN 8) (sExt 7 (eOfF (lcD (iSeq (eVar 2)) (gN 9) bYes (eCall d_number_with (aCons (eLst (aCons (eVar 9) (aCons (eTup (aCons (eVar 8) (aCons (eVar 5) aNil))) aNil))) aNil)) [9]))))
 (sAsg (eVar 7) (gN 2)))))))
 (sRet (eArgs fSorted (aCons (eOfF (lcD (iSeq (eVar 2)) (gT (gsCons (gN 8) (gsCons (gN 6) gsNil))) bYes (eVar 8) [8, 6])) aNil)))))))
theorem ok_roots_modulo (T : Txt K mg) : FnD P w K mg base "roots_modulo" 3 2 d_roots_modulo :=
 own_P (mn := ⟨[], none⟩) (mb := ⟨[], none⟩) (mc := ⟨[], none⟩) T.f_roots_modulo sc_roots_modulo rfl fun f F0 cdv A outer s H E hr =>
 (ss_cons (m1 := ⟨[], none⟩) (s_if (b_cmp op_gt v_gt (e_var (by decide) (pv 1)) (e_cint T.c_MOST_MODULUS rfl) (nomark _)) (ss_one (s_raiseT T.x_TooLarge rfl rfl rfl takes_ok rfl)) ss_nil)
 (ss_cons (m1 := ⟨[], none⟩) (s_set (e_lst (a_cons (e_tup (a_cons e_int (a_cons e_int a_nil))) a_nil)) (fun h => ps_set (i := 2) sc_roots_modulo.nd rfl (.inl rfl) h))
 (ss_cons (m1 := ⟨[], none⟩) (s_for pass_ok rfl (i_seq rfl (e_call (ok_factorization T) hr rfl rfl takes_ok (a_cons (e_var (by decide) (pv 1)) a_nil) rfl)) (g_tup rfl rfl (gs_cons (g_name (pg_name (i := 3) sc_roots_modulo.nd rfl (.inl rfl))) (gs_cons (g_name (pg_name (i := 4) sc_roots_modulo.nd rfl (.inl rfl))) gs_nil)) (gl_cons (gl_cons gl_nil))) (ss_cons (m1 := ⟨[], none⟩) (s_set e_int (fun h => ps_set (i := 5) sc_roots_modulo.nd rfl (.inr rfl) h))
 (ss_cons (m1 := ⟨[], none⟩) (s_for pass_ok rfl (i_range1 rfl T.b_range (a_cons (e_var (by decide) (pv 4)) a_nil)) (g_name (pg_name (i := 6) sc_roots_modulo.nd rfl (.inl rfl))) (ss_one (s_aug v_mulI (by decide) (e_var (by decide) (pv 3)) (fun h => ps_aug (i := 5) sc_roots_modulo.nd rfl (.inr rfl) h iop_mulW))))
 (ss_cons (m1 := ⟨[7], none⟩) (s_own (f_lst a_nil) (fun h => ps_set (i := 7) sc_roots_modulo.nd rfl (.inl rfl) h))
 (ss_cons (m1 := ⟨[7], none⟩) (s_for pass_ok rfl (i_seq rfl (e_call (ok_roots_modulo_power T) hr rfl rfl takes_ok (a_cons (e_var (by decide) (pv 0)) (a_cons (e_var (by decide) (pv 3)) (a_cons (e_var (by decide) (pv 4)) a_nil))) rfl)) (g_name (pg_name (i := 8) sc_roots_modulo.nd rfl (.inr rfl))) (ss_one (s_ext (by decide) (e_ofF (f_lc rfl sc_roots_modulo.nd  (i_seq rfl (e_var (by decide) (pv 2))) (blkOk_by (own := [("pair", 9)]) (N := N_roots_modulo) (sc := defScope s_roots_modulo) (by decide +kernel)) (fun _ _ _ _ _ => (g_name (pg_name (i := 9) sc_roots_modulo.nd rfl (.inl rfl)))) (fun _ _ _ _ _ => t_nil) (fun _ _ _ _ _ => (e_call (ok_number_with T) hr rfl rfl takes0 (a_cons (e_lst (a_cons (e_var (by decide) (pv 9)) (a_cons (e_tup (a_cons (e_var (by decide) (pv 8)) (a_cons (e_var (by decide) (pv 5)) a_nil))) a_nil))) a_nil) rfl)))) (fun h => ps_expr (pe_bm PySem.F.plainAttrs_list PySem.F.slot_list_extend PySem.F.type_list_extend mt_extend (pv 7) (pa_cons h pa_nil))))))
 (ss_frz 7 (ss_one (s_set (e_var (by decide) (pv 7)) (fun h => ps_set (i := 2) sc_roots_modulo.nd rfl (.inl rfl) h)))))))))
 (ss_one (s_ret (e_callB cr_sortedI (v_sorted rfl) rfl T.b_sorted (by decide +kernel) (a_cons (e_ofF (f_lc rfl sc_roots_modulo.nd  (i_seq rfl (e_var (by decide) (pv 2))) (blkOk_by (own := [("root", 8), ("_", 6)]) (N := N_roots_modulo) (sc := defScope s_roots_modulo) (by decide +kernel)) (fun _ _ _ _ _ => (g_tup rfl rfl (gs_cons (g_name (pg_name (i := 8) sc_roots_modulo.nd rfl (.inl rfl))) (gs_cons (g_name (pg_name (i := 6) sc_roots_modulo.nd rfl (.inl rfl))) gs_nil)) (gl_cons (gl_cons gl_nil)))) (fun _ _ _ _ _ => t_nil) (fun _ _ _ _ _ => (e_var (by decide) (pv 8))))) a_nil)))))))
/-! ### is_integer -/
abbrev s_is_integer : Stmt := topS 17
abbrev N_is_integer : List PySem.Str := ["value"]
theorem sc_is_integer : FnScope N_is_integer ["value"] (defScope s_is_integer) := ⟨rfl, rfl, rfl, by decide +kernel, rfl, by decide +kernel, by decide +kernel⟩
noncomputable def d_is_integer : List D → Res D := runF 1 1
 ((sRet (eAnd (eUn (fIsi "int") (eVar 0)) (eOfB (bNot (bOfE (eUn (fIsi "bool") (eVar 0))))))))
theorem ok_is_integer (T : Txt K mg) : FnD P w K mg base "is_integer" 1 1 d_is_integer :=
 own_P (mn := ⟨[], none⟩) (mb := ⟨[], none⟩) (mc := ⟨[], none⟩) T.f_is_integer sc_is_integer rfl fun f F0 cdv A outer s H E hr =>
 (ss_one (s_ret (e_and (e_isi tyOk_int rfl rfl T.b_isinstance rfl T.b_int (by decide +kernel) (e_var (by decide) (pv 0))) (e_one (e_not (e_isi tyOk_bool rfl rfl T.b_isinstance rfl T.b_bool (by decide +kernel) (e_var (by decide) (pv 0))))))))
/-! ### is_row -/
abbrev s_is_row : Stmt := topS 18
abbrev N_is_row : List PySem.Str := ["value", "size", "part"]
theorem sc_is_row : FnScope N_is_row ["value", "size"] (defScope s_is_row) := ⟨rfl, rfl, rfl, by decide +kernel, rfl, by decide +kernel, by decide +kernel⟩
noncomputable def d_is_row : List D → Res D := runF 3 2
 ((sSeq (sIf (bOr (bNot (bTru (eUn (fIsi "tuple") (eVar 0)))) (bBin vNe (eArgs fLen (aCons (eVar 0) aNil)) (eVar 1))) (sRet (eC (.bool false))) sNext)
 (sRet (eArgs fAll (aCons (eOfF (lcD (iSeq (eVar 0)) (gN 2) bYes (eCall d_is_integer (aCons (eVar 2) aNil)) [2])) aNil)))))
theorem ok_is_row (T : Txt K mg) : FnD P w K mg base "is_row" 2 2 d_is_row :=
 own_P (mn := ⟨[], none⟩) (mb := ⟨[], none⟩) (mc := ⟨[], none⟩) T.f_is_row sc_is_row rfl fun f F0 cdv A outer s H E hr =>
 (ss_cons (m1 := ⟨[], none⟩) (s_if (b_w (bw_or (b_not (b_tru (e_isi tyOk_tuple rfl rfl T.b_isinstance rfl T.b_tuple (by decide +kernel) (e_var (by decide) (pv 0))) rfl)) (bw_or1 (b_cmp (op_neD hr.units) (v_ne rfl) (e_callB call_len (v_len rfl) rfl T.b_len (by decide +kernel) (a_cons (e_var (by decide) (pv 0)) a_nil)) (e_var (by decide) (pv 1)) (nomark _))))) (ss_one (s_ret e_bl)) ss_nil)
 (ss_one (s_ret (e_callB (cr_all rfl) (v_all rfl) rfl T.b_all (by decide +kernel) (a_cons (e_ofF (f_lc rfl sc_is_row.nd  (i_seq rfl (e_var (by decide) (pv 0))) (blkOk_by (own := [("part", 2)]) (N := N_is_row) (sc := defScope s_is_row) (by decide +kernel)) (fun _ _ _ _ _ => (g_name (pg_name (i := 2) sc_is_row.nd rfl (.inl rfl)))) (fun _ _ _ _ _ => t_nil) (fun _ _ _ _ _ => (e_call (ok_is_integer T) hr rfl rfl takes0 (a_cons (e_var (by decide) (pv 2)) a_nil) rfl)))) a_nil)))))
/-! ### is_element -/
abbrev s_is_element : Stmt := topS 20
abbrev N_is_element : List PySem.Str := ["discriminant", "value"]
theorem sc_is_element : FnScope N_is_element ["discriminant", "value"] (defScope s_is_element) := ⟨rfl, rfl, rfl, by decide +kernel, rfl, by decide +kernel, by decide +kernel⟩
noncomputable def d_is_element : List D → Res D := runF 2 2
 ((sRet (eAnd (eCall d_is_row (aCons (eVar 1) (aCons (eC (.int 2)) aNil))) (eOfB (bBin vEq (eBin vMod (eBin vSub (eBin vIx (eVar 1) (eC (.int 0))) (eBin vMul (eBin vIx (eVar 1) (eC (.int 1))) (eVar 0))) (eC (.int 2))) (eC (.int 0)))))))
theorem ok_is_element (T : Txt K mg) : FnD P w K mg base "is_element" 3 2 d_is_element :=
 own_P (mn := ⟨[], none⟩) (mb := ⟨[], none⟩) (mc := ⟨[], none⟩) T.f_is_element sc_is_element rfl fun f F0 cdv A outer s H E hr =>
 (ss_one (s_ret (e_and (e_call (ok_is_row T) hr rfl rfl takes_ok (a_cons (e_var (by decide) (pv 1)) (a_cons e_int a_nil)) rfl) (e_one (e_cmp (op_eqD hr.units) (v_eq rfl) (e_bin op_modN v_mod (e_bin op_sub v_sub (e_ix ix_seq (v_ix rfl) (e_var (by decide) (pv 1)) e_int (fun _ _ => rfl)) (e_bin op_mulX v_mul (e_ix ix_seq (v_ix rfl) (e_var (by decide) (pv 1)) e_int (fun _ _ => rfl)) (e_var (by decide) (pv 0)))) e_int) e_int (nomark _))))))
/-! ### multiplied -/
abbrev s_multiplied : Stmt := topS 21
abbrev N_multiplied : List PySem.Str := ["discriminant", "one", "other", "x", "y", "u", "v"]
theorem sc_multiplied : FnScope N_multiplied ["discriminant", "one", "other"] (defScope s_multiplied) := ⟨rfl, rfl, rfl, by decide +kernel, rfl, by decide +kernel, by decide +kernel⟩
noncomputable def d_multiplied : List D → Res D := runF 7 3
 ((sSeq (sAsg (eVar 1) (gT (gsCons (gN 3) (gsCons (gN 4) gsNil))))
 (sSeq (sAsg (eVar 2) (gT (gsCons (gN 5) (gsCons (gN 6) gsNil))))
 (sRet (eTup (aCons (eBin vFdiv (eBin vAdd (eBin vMul (eVar 3) (eVar 5)) (eBin vMul (eBin vMul (eVar 0) (eVar 4)) (eVar 6))) (eC (.int 2))) (aCons (eBin vFdiv (eBin vAdd (eBin vMul (eVar 3) (eVar 6)) (eBin vMul (eVar 4) (eVar 5))) (eC (.int 2))) aNil)))))))
theorem ok_multiplied (T : Txt K mg) : FnD P w K mg base "multiplied" 1 3 d_multiplied :=
 own_P (mn := ⟨[], none⟩) (mb := ⟨[], none⟩) (mc := ⟨[], none⟩) T.f_multiplied sc_multiplied rfl fun f F0 cdv A outer s H E hr =>
 (ss_cons (m1 := ⟨[], none⟩) (s_asg (e_var (by decide) (pv 1)) (g_tup rfl rfl (gs_cons (g_name (pg_name (i := 3) sc_multiplied.nd rfl (.inl rfl))) (gs_cons (g_name (pg_name (i := 4) sc_multiplied.nd rfl (.inl rfl))) gs_nil)) (gl_cons (gl_cons gl_nil))))
 (ss_cons (m1 := ⟨[], none⟩) (s_asg (e_var (by decide) (pv 2)) (g_tup rfl rfl (gs_cons (g_name (pg_name (i := 5) sc_multiplied.nd rfl (.inl rfl))) (gs_cons (g_name (pg_name (i := 6) sc_multiplied.nd rfl (.inl rfl))) gs_nil)) (gl_cons (gl_cons gl_nil))))
 (ss_one (s_ret (e_tup (a_cons (e_bin op_fdivG v_fdiv (e_bin op_addX (v_add rfl) (e_bin op_mulX v_mul (e_var (by decide) (pv 3)) (e_var (by decide) (pv 5))) (e_bin op_mulX v_mul (e_bin op_mulX v_mul (e_var (by decide) (pv 0)) (e_var (by decide) (pv 4))) (e_var (by decide) (pv 6)))) e_int) (a_cons (e_bin op_fdivG v_fdiv (e_bin op_addX (v_add rfl) (e_bin op_mulX v_mul (e_var (by decide) (pv 3)) (e_var (by decide) (pv 6))) (e_bin op_mulX v_mul (e_var (by decide) (pv 4)) (e_var (by decide) (pv 5)))) e_int) a_nil)))))))
/-! ### conjugate -/
abbrev s_conjugate : Stmt := topS 22
abbrev N_conjugate : List PySem.Str := ["one"]
theorem sc_conjugate : FnScope N_conjugate ["one"] (defScope s_conjugate) := ⟨rfl, rfl, rfl, by decide +kernel, rfl, by decide +kernel, by decide +kernel⟩
noncomputable def d_conjugate : List D → Res D := runF 1 1
 ((sRet (eTup (aCons (eBin vIx (eVar 0) (eC (.int 0))) (aCons (eUn vNeg (eBin vIx (eVar 0) (eC (.int 1)))) aNil)))))
theorem ok_conjugate (T : Txt K mg) : FnD P w K mg base "conjugate" 1 1 d_conjugate :=
 own_P (mn := ⟨[], none⟩) (mb := ⟨[], none⟩) (mc := ⟨[], none⟩) T.f_conjugate sc_conjugate rfl fun f F0 cdv A outer s H E hr =>
 (ss_one (s_ret (e_tup (a_cons (e_ix ix_seq (v_ix rfl) (e_var (by decide) (pv 0)) e_int (fun _ _ => rfl)) (a_cons (e_un un_neg v_neg (e_ix ix_seq (v_ix rfl) (e_var (by decide) (pv 0)) e_int (fun _ _ => rfl))) a_nil)))))
/-! ### norm_of -/
abbrev s_norm_of : Stmt := topS 23
abbrev N_norm_of : List PySem.Str := ["discriminant", "one"]
theorem sc_norm_of : FnScope N_norm_of ["discriminant", "one"] (defScope s_norm_of) := ⟨rfl, rfl, rfl, by decide +kernel, rfl, by decide +kernel, by decide +kernel⟩
noncomputable def d_norm_of : List D → Res D := runF 2 2
 ((sRet (eBin vFdiv (eBin vSub (eBin vMul (eBin vIx (eVar 1) (eC (.int 0))) (eBin vIx (eVar 1) (eC (.int 0)))) (eBin vMul (eBin vMul (eVar 0) (eBin vIx (eVar 1) (eC (.int 1)))) (eBin vIx (eVar 1) (eC (.int 1))))) (eC (.int 4)))))
theorem ok_norm_of (T : Txt K mg) : FnD P w K mg base "norm_of" 1 2 d_norm_of :=
 own_P (mn := ⟨[], none⟩) (mb := ⟨[], none⟩) (mc := ⟨[], none⟩) T.f_norm_of sc_norm_of rfl fun f F0 cdv A outer s H E hr =>
 (ss_one (s_ret (e_bin op_fdivG v_fdiv (e_bin op_sub v_sub (e_bin op_mulX v_mul (e_ix ix_seq (v_ix rfl) (e_var (by decide) (pv 1)) e_int (fun _ _ => rfl)) (e_ix ix_seq (v_ix rfl) (e_var (by decide) (pv 1)) e_int (fun _ _ => rfl))) (e_bin op_mulX v_mul (e_bin op_mulX v_mul (e_var (by decide) (pv 0)) (e_ix ix_seq (v_ix rfl) (e_var (by decide) (pv 1)) e_int (fun _ _ => rfl))) (e_ix ix_seq (v_ix rfl) (e_var (by decide) (pv 1)) e_int (fun _ _ => rfl)))) e_int)))
/-! ### is_ideal -/
abbrev s_is_ideal : Stmt := topS 26
abbrev N_is_ideal : List PySem.Str := ["discriminant", "value"]
theorem sc_is_ideal : FnScope N_is_ideal ["discriminant", "value"] (defScope s_is_ideal) := ⟨rfl, rfl, rfl, by decide +kernel, rfl, by decide +kernel, by decide +kernel⟩
noncomputable def d_is_ideal : List D → Res D := runF 2 2
 ((sSeq (sIf (bOr (bNot (bTru (eCall d_is_row (aCons (eVar 1) (aCons (eC (.int 3)) aNil))))) (bOr (bBin cLt (eBin vIx (eVar 1) (eC (.int 0))) (eC (.int 1))) (bBin cLt (eBin vIx (eVar 1) (eC (.int 1))) (eC (.int 1))))) (sRet (eC (.bool false))) sNext)
 (sRet (eAnd (eOfB (bChain cLe cLt (eC (.int 0)) (eBin vIx (eVar 1) (eC (.int 2))) (eBin vMul (eC (.int 2)) (eBin vIx (eVar 1) (eC (.int 1)))))) (eOfB (bBin vEq (eBin vMod (eBin vSub (eBin vMul (eBin vIx (eVar 1) (eC (.int 2))) (eBin vIx (eVar 1) (eC (.int 2)))) (eVar 0)) (eBin vMul (eC (.int 4)) (eBin vIx (eVar 1) (eC (.int 1))))) (eC (.int 0))))))))
theorem ok_is_ideal (T : Txt K mg) : FnD P w K mg base "is_ideal" 3 2 d_is_ideal :=
 own_P (mn := ⟨[], none⟩) (mb := ⟨[], none⟩) (mc := ⟨[], none⟩) T.f_is_ideal sc_is_ideal rfl fun f F0 cdv A outer s H E hr =>
 (ss_cons (m1 := ⟨[], none⟩) (s_if (b_w (bw_or (b_not (b_tru (e_call (ok_is_row T) hr rfl rfl takes_ok (a_cons (e_var (by decide) (pv 1)) (a_cons e_int a_nil)) rfl) rfl)) (bw_or (b_cmp op_lt v_lt (e_ix ix_seq (v_ix rfl) (e_var (by decide) (pv 1)) e_int (fun _ _ => rfl)) e_int (nomark _)) (bw_or1 (b_cmp op_lt v_lt (e_ix ix_seq (v_ix rfl) (e_var (by decide) (pv 1)) e_int (fun _ _ => rfl)) e_int (nomark _)))))) (ss_one (s_ret e_bl)) ss_nil)
 (ss_one (s_ret (e_and (e_chain op_le op_lt v_le v_lt e_int (e_ix ix_seq (v_ix rfl) (e_var (by decide) (pv 1)) e_int (fun _ _ => rfl)) (e_bin op_mulX v_mul e_int (e_ix ix_seq (v_ix rfl) (e_var (by decide) (pv 1)) e_int (fun _ _ => rfl)))) (e_one (e_cmp (op_eqD hr.units) (v_eq rfl) (e_bin op_modN v_mod (e_bin op_sub v_sub (e_bin op_mulX v_mul (e_ix ix_seq (v_ix rfl) (e_var (by decide) (pv 1)) e_int (fun _ _ => rfl)) (e_ix ix_seq (v_ix rfl) (e_var (by decide) (pv 1)) e_int (fun _ _ => rfl))) (e_var (by decide) (pv 0))) (e_bin op_mulX v_mul e_int (e_ix ix_seq (v_ix rfl) (e_var (by decide) (pv 1)) e_int (fun _ _ => rfl)))) e_int (nomark _)))))))
/-! ### whole_ideal -/
abbrev s_whole_ideal : Stmt := topS 27
abbrev N_whole_ideal : List PySem.Str := ["discriminant"]
theorem sc_whole_ideal : FnScope N_whole_ideal ["discriminant"] (defScope s_whole_ideal) := ⟨rfl, rfl, rfl, by decide +kernel, rfl, by decide +kernel, by decide +kernel⟩
noncomputable def d_whole_ideal : List D → Res D := runF 1 1
 ((sRet (eTup (aCons (eC (.int 1)) (aCons (eC (.int 1)) (aCons (eBin vMod (eVar 0) (eC (.int 2))) aNil))))))
theorem ok_whole_ideal (T : Txt K mg) : FnD P w K mg base "whole_ideal" 1 1 d_whole_ideal :=
 own_P (mn := ⟨[], none⟩) (mb := ⟨[], none⟩) (mc := ⟨[], none⟩) T.f_whole_ideal sc_whole_ideal rfl fun f F0 cdv A outer s H E hr =>
 (ss_one (s_ret (e_tup (a_cons e_int (a_cons e_int (a_cons (e_bin op_modN v_mod (e_var (by decide) (pv 0)) e_int) a_nil))))))
/-! ### ideal_of_number -/
abbrev s_ideal_of_number : Stmt := topS 28
abbrev N_ideal_of_number : List PySem.Str := ["discriminant", "number"]
theorem sc_ideal_of_number : FnScope N_ideal_of_number ["discriminant", "number"] (defScope s_ideal_of_number) := ⟨rfl, rfl, rfl, by decide +kernel, rfl, by decide +kernel, by decide +kernel⟩
noncomputable def d_ideal_of_number : List D → Res D := runF 2 2
 ((sRet (eTup (aCons (eArgs fAbs (aCons (eVar 1) aNil)) (aCons (eC (.int 1)) (aCons (eBin vMod (eVar 0) (eC (.int 2))) aNil))))))
theorem ok_ideal_of_number (T : Txt K mg) : FnD P w K mg base "ideal_of_number" 1 2 d_ideal_of_number :=
 own_P (mn := ⟨[], none⟩) (mb := ⟨[], none⟩) (mc := ⟨[], none⟩) T.f_ideal_of_number sc_ideal_of_number rfl fun f F0 cdv A outer s H E hr =>
 (ss_one (s_ret (e_tup (a_cons (e_callB call_abs v_abs rfl T.b_abs (by decide +kernel) (a_cons (e_var (by decide) (pv 1)) a_nil)) (a_cons e_int (a_cons (e_bin op_modN v_mod (e_var (by decide) (pv 0)) e_int) a_nil))))))
/-! ### members_of -/
abbrev s_members_of : Stmt := topS 29
abbrev N_members_of : List PySem.Str := ["ideal", "factor", "a", "b"]
theorem sc_members_of : FnScope N_members_of ["ideal"] (defScope s_members_of) := ⟨rfl, rfl, rfl, by decide +kernel, rfl, by decide +kernel, by decide +kernel⟩
noncomputable def d_members_of : List D → Res D := runF 4 1
 ((sSeq (sAsg (eVar 0) (gT (gsCons (gN 1) (gsCons (gN 2) (gsCons (gN 3) gsNil)))))
 (sRet (eTup (aCons (eTup (aCons (eBin vMul (eBin vMul (eC (.int 2)) (eVar 1)) (eVar 2)) (aCons (eC (.int 0)) aNil))) (aCons (eTup (aCons (eBin vMul (eVar 1) (eVar 3)) (aCons (eVar 1) aNil))) aNil))))))
theorem ok_members_of (T : Txt K mg) : FnD P w K mg base "members_of" 1 1 d_members_of :=
 own_P (mn := ⟨[], none⟩) (mb := ⟨[], none⟩) (mc := ⟨[], none⟩) T.f_members_of sc_members_of rfl fun f F0 cdv A outer s H E hr =>
 (ss_cons (m1 := ⟨[], none⟩) (s_asg (e_var (by decide) (pv 0)) (g_tup rfl rfl (gs_cons (g_name (pg_name (i := 1) sc_members_of.nd rfl (.inl rfl))) (gs_cons (g_name (pg_name (i := 2) sc_members_of.nd rfl (.inl rfl))) (gs_cons (g_name (pg_name (i := 3) sc_members_of.nd rfl (.inl rfl))) gs_nil))) (gl_cons (gl_cons (gl_cons gl_nil)))))
 (ss_one (s_ret (e_tup (a_cons (e_tup (a_cons (e_bin op_mulX v_mul (e_bin op_mulX v_mul e_int (e_var (by decide) (pv 1))) (e_var (by decide) (pv 2))) (a_cons e_int a_nil))) (a_cons (e_tup (a_cons (e_bin op_mulX v_mul (e_var (by decide) (pv 1)) (e_var (by decide) (pv 3))) (a_cons (e_var (by decide) (pv 1)) a_nil))) a_nil))))))
/-! ### ideal_of_members -/
abbrev s_ideal_of_members : Stmt := topS 30
abbrev N_ideal_of_members : List PySem.Str := ["discriminant", "members", "rows", "x", "y", "level", "flat", "row", "divisor", "first", "second", "fresh", "other", "size", "factor", "whole"]
theorem sc_ideal_of_members : FnScope N_ideal_of_members ["discriminant", "members"] (defScope s_ideal_of_members) := ⟨rfl, rfl, rfl, by decide +kernel, rfl, by decide +kernel, by decide +kernel⟩
noncomputable def d_ideal_of_members : List D → Res D := runF 16 2
 ((sSeq (sOwn 2 aNil)
 (sSeq (sFor (iSeq (eVar 1)) (gT (gsCons (gN 3) (gsCons (gN 4) gsNil))) (sExt 2 (eLst (aCons (eTup (aCons (eVar 3) (aCons (eVar 4) aNil))) (aCons (eCall d_multiplied (aCons (eVar 0) (aCons (eTup (aCons (eVar 3) (aCons (eVar 4) aNil))) (aCons (eTup (aCons (eBin vMod (eVar 0) (eC (.int 2))) (aCons (eC (.int 1)) aNil))) aNil)))) aNil)))))
 (sSeq (sAsg (eTup (aCons (eC (.int 0)) (aCons (eC (.int 0)) aNil))) (gN 5))
 (sSeq (sOwn 6 aNil)
 (sSeq (sFor (iSeq (eVar 2)) (gN 7) (sSeq (sAsg (eCall d_combined (aCons (eBin vIx (eVar 5) (eC (.int 1))) (aCons (eBin vIx (eVar 7) (eC (.int 1))) aNil))) (gT (gsCons (gN 8) (gsCons (gN 9) (gsCons (gN 10) gsNil)))))
 (sIf (bBin vNe (eVar 8) (eC (.int 0))) (sSeq (sAsg (eTup (aCons (eBin vAdd (eBin vMul (eVar 9) (eBin vIx (eVar 5) (eC (.int 0)))) (eBin vMul (eVar 10) (eBin vIx (eVar 7) (eC (.int 0))))) (aCons (eVar 8) aNil))) (gN 11))
 (sSeq (sFor (iSeq (eTup (aCons (eVar 5) (aCons (eVar 7) aNil)))) (gN 12) (sApp 6 (eBin vSub (eBin vIx (eVar 12) (eC (.int 0))) (eBin vMul (eBin vFdiv (eBin vIx (eVar 12) (eC (.int 1))) (eVar 8)) (eBin vIx (eVar 11) (eC (.int 0)))))))
 (sAsg (eVar 11) (gN 5)))) (sApp 6 (eBin vIx (eVar 7) (eC (.int 0)))))))
 (sSeq (sAsg (eCall d_divisor_of_all (aCons (eVar 6) aNil)) (gN 13))
 (sSeq (sIf (bOr (bBin vEq (eVar 13) (eC (.int 0))) (bBin vEq (eBin vIx (eVar 5) (eC (.int 1))) (eC (.int 0)))) (sRaise ⟨"NotPossible", none⟩) sNext)
 (sSeq (sAsg (eBin vIx (eVar 5) (eC (.int 1))) (gN 14))
 (sSeq (sAsg (eBin vFdiv (eVar 13) (eBin vMul (eC (.int 2)) (eVar 14))) (gN 15))
 (sRet (eTup (aCons (eVar 14) (aCons (eVar 15) (aCons (eBin vMod (eBin vFdiv (eBin vIx (eVar 5) (eC (.int 0))) (eVar 14)) (eBin vMul (eC (.int 2)) (eVar 15))) aNil)))))))))))))))
theorem ok_ideal_of_members (T : Txt K mg) : FnD P w K mg base "ideal_of_members" 3 2 d_ideal_of_members :=
 own_P (mn := ⟨[], none⟩) (mb := ⟨[], none⟩) (mc := ⟨[], none⟩) T.f_ideal_of_members sc_ideal_of_members rfl fun f F0 cdv A outer s H E hr =>
 (ss_cons (m1 := ⟨[2], none⟩) (s_own (f_lst a_nil) (fun h => ps_set (i := 2) sc_ideal_of_members.nd rfl (.inl rfl) h))
 (ss_cons (m1 := ⟨[2], none⟩) (s_for pass_ok rfl (i_seq rfl (e_var (by decide) (pv 1))) (g_tup rfl rfl (gs_cons (g_name (pg_name (i := 3) sc_ideal_of_members.nd rfl (.inl rfl))) (gs_cons (g_name (pg_name (i := 4) sc_ideal_of_members.nd rfl (.inl rfl))) gs_nil)) (gl_cons (gl_cons gl_nil))) (ss_one (s_ext (by decide) (e_lst (a_cons (e_tup (a_cons (e_var (by decide) (pv 3)) (a_cons (e_var (by decide) (pv 4)) a_nil))) (a_cons (e_call (ok_multiplied T) hr rfl rfl takes_ok (a_cons (e_var (by decide) (pv 0)) (a_cons (e_tup (a_cons (e_var (by decide) (pv 3)) (a_cons (e_var (by decide) (pv 4)) a_nil))) (a_cons (e_tup (a_cons (e_bin op_modN v_mod (e_var (by decide) (pv 0)) e_int) (a_cons e_int a_nil))) a_nil))) rfl) a_nil))) (fun h => ps_expr (pe_bm PySem.F.plainAttrs_list PySem.F.slot_list_extend PySem.F.type_list_extend mt_extend (pv 2) (pa_cons h pa_nil))))))
 (ss_cons (m1 := ⟨[2], none⟩) (s_set (e_tup (a_cons e_int (a_cons e_int a_nil))) (fun h => ps_set (i := 5) sc_ideal_of_members.nd rfl (.inl rfl) h))
 (ss_cons (m1 := ⟨[6, 2], none⟩) (s_own (f_lst a_nil) (fun h => ps_set (i := 6) sc_ideal_of_members.nd rfl (.inl rfl) h))
 (ss_frz 2 (ss_cons (m1 := ⟨[6], none⟩) (s_for pass_ok rfl (i_seq rfl (e_var (by decide) (pv 2))) (g_name (pg_name (i := 7) sc_ideal_of_members.nd rfl (.inl rfl))) (ss_cons (m1 := ⟨[6], none⟩) (s_asg (e_call (ok_combined T) hr rfl rfl takes_ok (a_cons (e_ix ix_seq (v_ix rfl) (e_var (by decide) (pv 5)) e_int (fun _ _ => rfl)) (a_cons (e_ix ix_seq (v_ix rfl) (e_var (by decide) (pv 7)) e_int (fun _ _ => rfl)) a_nil)) rfl) (g_tup rfl rfl (gs_cons (g_name (pg_name (i := 8) sc_ideal_of_members.nd rfl (.inl rfl))) (gs_cons (g_name (pg_name (i := 9) sc_ideal_of_members.nd rfl (.inl rfl))) (gs_cons (g_name (pg_name (i := 10) sc_ideal_of_members.nd rfl (.inl rfl))) gs_nil))) (gl_cons (gl_cons (gl_cons gl_nil)))))
 (ss_one (s_if (b_cmp (op_neD hr.units) (v_ne rfl) (e_var (by decide) (pv 8)) e_int (nomark _)) (ss_cons (m1 := ⟨[6], none⟩) (s_set (e_tup (a_cons (e_bin op_addX (v_add rfl) (e_bin op_mulX v_mul (e_var (by decide) (pv 9)) (e_ix ix_seq (v_ix rfl) (e_var (by decide) (pv 5)) e_int (fun _ _ => rfl))) (e_bin op_mulX v_mul (e_var (by decide) (pv 10)) (e_ix ix_seq (v_ix rfl) (e_var (by decide) (pv 7)) e_int (fun _ _ => rfl)))) (a_cons (e_var (by decide) (pv 8)) a_nil))) (fun h => ps_set (i := 11) sc_ideal_of_members.nd rfl (.inl rfl) h))
 (ss_cons (m1 := ⟨[6], none⟩) (s_for pass_ok rfl (i_seq rfl (e_tup (a_cons (e_var (by decide) (pv 5)) (a_cons (e_var (by decide) (pv 7)) a_nil)))) (g_name (pg_name (i := 12) sc_ideal_of_members.nd rfl (.inl rfl))) (ss_one (s_app (by decide) (e_bin op_sub v_sub (e_ix ix_seq (v_ix rfl) (e_var (by decide) (pv 12)) e_int (fun _ _ => rfl)) (e_bin op_mulX v_mul (e_bin op_fdivG v_fdiv (e_ix ix_seq (v_ix rfl) (e_var (by decide) (pv 12)) e_int (fun _ _ => rfl)) (e_var (by decide) (pv 8))) (e_ix ix_seq (v_ix rfl) (e_var (by decide) (pv 11)) e_int (fun _ _ => rfl)))) (fun h => ps_expr (pe_bm PySem.F.plainAttrs_list PySem.F.slot_list_append PySem.F.type_list_append mt_append (pv 6) (pa_cons h pa_nil))))))
 (ss_one (s_set (e_var (by decide) (pv 11)) (fun h => ps_set (i := 5) sc_ideal_of_members.nd rfl (.inl rfl) h))))) (ss_one (s_app (by decide) (e_ix ix_seq (v_ix rfl) (e_var (by decide) (pv 7)) e_int (fun _ _ => rfl)) (fun h => ps_expr (pe_bm PySem.F.plainAttrs_list PySem.F.slot_list_append PySem.F.type_list_append mt_append (pv 6) (pa_cons h pa_nil)))))))))
 (ss_frz 6 (ss_cons (m1 := ⟨[], none⟩) (s_set (e_call (ok_divisor_of_all T) hr rfl rfl takes_ok (a_cons (e_var (by decide) (pv 6)) a_nil) rfl) (fun h => ps_set (i := 13) sc_ideal_of_members.nd rfl (.inl rfl) h))
 (ss_cons (m1 := ⟨[], none⟩) (s_if (b_w (bw_or (b_cmp (op_eqD hr.units) (v_eq rfl) (e_var (by decide) (pv 13)) e_int (nomark _)) (bw_or1 (b_cmp (op_eqD hr.units) (v_eq rfl) (e_ix ix_seq (v_ix rfl) (e_var (by decide) (pv 5)) e_int (fun _ _ => rfl)) e_int (nomark _))))) (ss_one (s_raiseT T.x_NotPossible rfl rfl rfl takes_ok rfl)) ss_nil)
 (ss_cons (m1 := ⟨[], none⟩) (s_set (e_ix ix_seq (v_ix rfl) (e_var (by decide) (pv 5)) e_int (fun _ _ => rfl)) (fun h => ps_set (i := 14) sc_ideal_of_members.nd rfl (.inl rfl) h))
 (ss_cons (m1 := ⟨[], none⟩) (s_set (e_bin op_fdivG v_fdiv (e_var (by decide) (pv 13)) (e_bin op_mulX v_mul e_int (e_var (by decide) (pv 14)))) (fun h => ps_set (i := 15) sc_ideal_of_members.nd rfl (.inl rfl) h))
 (ss_one (s_ret (e_tup (a_cons (e_var (by decide) (pv 14)) (a_cons (e_var (by decide) (pv 15)) (a_cons (e_bin op_modN v_mod (e_bin op_fdivG v_fdiv (e_ix ix_seq (v_ix rfl) (e_var (by decide) (pv 5)) e_int (fun _ _ => rfl)) (e_var (by decide) (pv 14))) (e_bin op_mulX v_mul e_int (e_var (by decide) (pv 15)))) a_nil)))))))))))))))))
/-! ### principal_ideal -/
abbrev s_principal_ideal : Stmt := topS 31
abbrev N_principal_ideal : List PySem.Str := ["discriminant", "one"]
theorem sc_principal_ideal : FnScope N_principal_ideal ["discriminant", "one"] (defScope s_principal_ideal) := ⟨rfl, rfl, rfl, by decide +kernel, rfl, by decide +kernel, by decide +kernel⟩
noncomputable def d_principal_ideal : List D → Res D := runF 2 2
 ((sSeq (sIf (bBin vEq (eCall d_norm_of (aCons (eVar 0) (aCons (eVar 1) aNil))) (eC (.int 0))) (sRaise ⟨"NotPossible", none⟩) sNext)
 (sRet (eCall d_ideal_of_members (aCons (eVar 0) (aCons (eLst (aCons (eVar 1) aNil)) aNil))))))
theorem ok_principal_ideal (T : Txt K mg) : FnD P w K mg base "principal_ideal" 4 2 d_principal_ideal :=
 own_P (mn := ⟨[], none⟩) (mb := ⟨[], none⟩) (mc := ⟨[], none⟩) T.f_principal_ideal sc_principal_ideal rfl fun f F0 cdv A outer s H E hr =>
 (ss_cons (m1 := ⟨[], none⟩) (s_if (b_cmp (op_eqD hr.units) (v_eq rfl) (e_call (ok_norm_of T) hr rfl rfl takes_ok (a_cons (e_var (by decide) (pv 0)) (a_cons (e_var (by decide) (pv 1)) a_nil)) rfl) e_int (nomark _)) (ss_one (s_raiseT T.x_NotPossible rfl rfl rfl takes_ok rfl)) ss_nil)
 (ss_one (s_ret (e_call (ok_ideal_of_members T) hr rfl rfl takes_ok (a_cons (e_var (by decide) (pv 0)) (a_cons (e_lst (a_cons (e_var (by decide) (pv 1)) a_nil)) a_nil)) rfl))))
/-! ### ideal_norm -/
abbrev s_ideal_norm : Stmt := topS 32
abbrev N_ideal_norm : List PySem.Str := ["ideal"]
theorem sc_ideal_norm : FnScope N_ideal_norm ["ideal"] (defScope s_ideal_norm) := ⟨rfl, rfl, rfl, by decide +kernel, rfl, by decide +kernel, by decide +kernel⟩
noncomputable def d_ideal_norm : List D → Res D := runF 1 1
 ((sRet (eBin vMul (eBin vMul (eBin vIx (eVar 0) (eC (.int 0))) (eBin vIx (eVar 0) (eC (.int 0)))) (eBin vIx (eVar 0) (eC (.int 1))))))
theorem ok_ideal_norm (T : Txt K mg) : FnD P w K mg base "ideal_norm" 1 1 d_ideal_norm :=
 own_P (mn := ⟨[], none⟩) (mb := ⟨[], none⟩) (mc := ⟨[], none⟩) T.f_ideal_norm sc_ideal_norm rfl fun f F0 cdv A outer s H E hr =>
 (ss_one (s_ret (e_bin op_mulX v_mul (e_bin op_mulX v_mul (e_ix ix_seq (v_ix rfl) (e_var (by decide) (pv 0)) e_int (fun _ _ => rfl)) (e_ix ix_seq (v_ix rfl) (e_var (by decide) (pv 0)) e_int (fun _ _ => rfl))) (e_ix ix_seq (v_ix rfl) (e_var (by decide) (pv 0)) e_int (fun _ _ => rfl)))))
/-! ### has_member -/
abbrev s_has_member : Stmt := topS 33
abbrev N_has_member : List PySem.Str := ["discriminant", "ideal", "one", "factor", "a", "b", "x", "y"]
theorem sc_has_member : FnScope N_has_member ["discriminant", "ideal", "one"] (defScope s_has_member) := ⟨rfl, rfl, rfl, by decide +kernel, rfl, by decide +kernel, by decide +kernel⟩
noncomputable def d_has_member : List D → Res D := runF 8 3
 ((sSeq (sAsg (eVar 1) (gT (gsCons (gN 3) (gsCons (gN 4) (gsCons (gN 5) gsNil)))))
 (sSeq (sAsg (eVar 2) (gT (gsCons (gN 6) (gsCons (gN 7) gsNil))))
 (sSeq (sIf (bOr (bNot (bTru (eCall d_is_element (aCons (eVar 0) (aCons (eVar 2) aNil))))) (bBin vNe (eBin vMod (eVar 7) (eVar 3)) (eC (.int 0)))) (sRet (eC (.bool false))) sNext)
 (sRet (eOfB (bBin vEq (eBin vMod (eBin vSub (eVar 6) (eBin vMul (eVar 7) (eVar 5))) (eBin vMul (eBin vMul (eC (.int 2)) (eVar 3)) (eVar 4))) (eC (.int 0)))))))))
theorem ok_has_member (T : Txt K mg) : FnD P w K mg base "has_member" 4 3 d_has_member :=
 own_P (mn := ⟨[], none⟩) (mb := ⟨[], none⟩) (mc := ⟨[], none⟩) T.f_has_member sc_has_member rfl fun f F0 cdv A outer s H E hr =>
 (ss_cons (m1 := ⟨[], none⟩) (s_asg (e_var (by decide) (pv 1)) (g_tup rfl rfl (gs_cons (g_name (pg_name (i := 3) sc_has_member.nd rfl (.inl rfl))) (gs_cons (g_name (pg_name (i := 4) sc_has_member.nd rfl (.inl rfl))) (gs_cons (g_name (pg_name (i := 5) sc_has_member.nd rfl (.inl rfl))) gs_nil))) (gl_cons (gl_cons (gl_cons gl_nil)))))
 (ss_cons (m1 := ⟨[], none⟩) (s_asg (e_var (by decide) (pv 2)) (g_tup rfl rfl (gs_cons (g_name (pg_name (i := 6) sc_has_member.nd rfl (.inl rfl))) (gs_cons (g_name (pg_name (i := 7) sc_has_member.nd rfl (.inl rfl))) gs_nil)) (gl_cons (gl_cons gl_nil))))
 (ss_cons (m1 := ⟨[], none⟩) (s_if (b_w (bw_or (b_not (b_tru (e_call (ok_is_element T) hr rfl rfl takes_ok (a_cons (e_var (by decide) (pv 0)) (a_cons (e_var (by decide) (pv 2)) a_nil)) rfl) rfl)) (bw_or1 (b_cmp (op_neD hr.units) (v_ne rfl) (e_bin op_modN v_mod (e_var (by decide) (pv 7)) (e_var (by decide) (pv 3))) e_int (nomark _))))) (ss_one (s_ret e_bl)) ss_nil)
 (ss_one (s_ret (e_cmp (op_eqD hr.units) (v_eq rfl) (e_bin op_modN v_mod (e_bin op_sub v_sub (e_var (by decide) (pv 6)) (e_bin op_mulX v_mul (e_var (by decide) (pv 7)) (e_var (by decide) (pv 5)))) (e_bin op_mulX v_mul (e_bin op_mulX v_mul e_int (e_var (by decide) (pv 3))) (e_var (by decide) (pv 4)))) e_int (nomark _)))))))
/-! ### ideal_sum -/
abbrev s_ideal_sum : Stmt := topS 34
abbrev N_ideal_sum : List PySem.Str := ["discriminant", "one", "other"]
theorem sc_ideal_sum : FnScope N_ideal_sum ["discriminant", "one", "other"] (defScope s_ideal_sum) := ⟨rfl, rfl, rfl, by decide +kernel, rfl, by decide +kernel, by decide +kernel⟩
noncomputable def d_ideal_sum : List D → Res D := runF 3 3
 ((sRet (eCall d_ideal_of_members (aCons (eVar 0) (aCons (eBin vAdd (eArgs fList (aCons (eCall d_members_of (aCons (eVar 1) aNil)) aNil)) (eArgs fList (aCons (eCall d_members_of (aCons (eVar 2) aNil)) aNil))) aNil)))))
theorem ok_ideal_sum (T : Txt K mg) : FnD P w K mg base "ideal_sum" 4 3 d_ideal_sum :=
 own_P (mn := ⟨[], none⟩) (mb := ⟨[], none⟩) (mc := ⟨[], none⟩) T.f_ideal_sum sc_ideal_sum rfl fun f F0 cdv A outer s H E hr =>
 (ss_one (s_ret (e_call (ok_ideal_of_members T) hr rfl rfl takes_ok (a_cons (e_var (by decide) (pv 0)) (a_cons (e_bin op_addX (v_add rfl) (e_callTy call_list_of (v_list rfl) rfl T.b_list (by decide +kernel) (a_cons (e_call (ok_members_of T) hr rfl rfl takes_ok (a_cons (e_var (by decide) (pv 1)) a_nil) rfl) a_nil)) (e_callTy call_list_of (v_list rfl) rfl T.b_list (by decide +kernel) (a_cons (e_call (ok_members_of T) hr rfl rfl takes_ok (a_cons (e_var (by decide) (pv 2)) a_nil) rfl) a_nil))) a_nil)) rfl)))
/-! ### ideal_product -/
abbrev s_ideal_product : Stmt := topS 35
abbrev N_ideal_product : List PySem.Str := ["discriminant", "one", "other", "members", "left", "right"]
theorem sc_ideal_product : FnScope N_ideal_product ["discriminant", "one", "other"] (defScope s_ideal_product) := ⟨rfl, rfl, rfl, by decide +kernel, rfl, by decide +kernel, by decide +kernel⟩
noncomputable def d_ideal_product : List D → Res D := runF 6 3
 ((sSeq (sOwn 3 aNil)
 (sSeq (sFor (iSeq (eCall d_members_of (aCons (eVar 1) aNil))) (gN 4) (sExt 3 (eOfF (lcD (iSeq (eCall d_members_of (aCons (eVar 2) aNil))) (gN 5) bYes (eCall d_multiplied (aCons (eVar 0) (aCons (eVar 4) (aCons (eVar 5) aNil)))) [5]))))
 (sRet (eCall d_ideal_of_members (aCons (eVar 0) (aCons (eVar 3) aNil)))))))
theorem ok_ideal_product (T : Txt K mg) : FnD P w K mg base "ideal_product" 4 3 d_ideal_product :=
 own_P (mn := ⟨[], none⟩) (mb := ⟨[], none⟩) (mc := ⟨[], none⟩) T.f_ideal_product sc_ideal_product rfl fun f F0 cdv A outer s H E hr =>
 (ss_cons (m1 := ⟨[3], none⟩) (s_own (f_lst a_nil) (fun h => ps_set (i := 3) sc_ideal_product.nd rfl (.inl rfl) h))
 (ss_cons (m1 := ⟨[3], none⟩) (s_for pass_ok rfl (i_seq rfl (e_call (ok_members_of T) hr rfl rfl takes_ok (a_cons (e_var (by decide) (pv 1)) a_nil) rfl)) (g_name (pg_name (i := 4) sc_ideal_product.nd rfl (.inr rfl))) (ss_one (s_ext (by decide) (e_ofF (f_lc rfl sc_ideal_product.nd  (i_seq rfl (e_call (ok_members_of T) hr rfl rfl takes_ok (a_cons (e_var (by decide) (pv 2)) a_nil) rfl)) (blkOk_by (own := [("right", 5)]) (N := N_ideal_product) (sc := defScope s_ideal_product) (by decide +kernel)) (fun _ _ _ _ _ => (g_name (pg_name (i := 5) sc_ideal_product.nd rfl (.inl rfl)))) (fun _ _ _ _ _ => t_nil) (fun _ _ _ _ _ => (e_call (ok_multiplied T) hr rfl rfl takes0 (a_cons (e_var (by decide) (pv 0)) (a_cons (e_var (by decide) (pv 4)) (a_cons (e_var (by decide) (pv 5)) a_nil))) rfl)))) (fun h => ps_expr (pe_bm PySem.F.plainAttrs_list PySem.F.slot_list_extend PySem.F.type_list_extend mt_extend (pv 3) (pa_cons h pa_nil))))))
 (ss_frz 3 (ss_one (s_ret (e_call (ok_ideal_of_members T) hr rfl rfl takes_ok (a_cons (e_var (by decide) (pv 0)) (a_cons (e_var (by decide) (pv 3)) a_nil)) rfl))))))
/-! ### ideal_power -/
abbrev s_ideal_power : Stmt := topS 36
abbrev N_ideal_power : List PySem.Str := ["discriminant", "ideal", "count", "found", "_"]
theorem sc_ideal_power : FnScope N_ideal_power ["discriminant", "ideal", "count"] (defScope s_ideal_power) := ⟨rfl, rfl, rfl, by decide +kernel, rfl, by decide +kernel, by decide +kernel⟩
noncomputable def d_ideal_power : List D → Res D := runF 5 3
 ((sSeq (sAsg (eCall d_whole_ideal (aCons (eVar 0) aNil)) (gN 3))
 (sSeq (sFor (iArgs iRange (aCons (eVar 2) aNil)) (gN 4) (sAsg (eCall d_ideal_product (aCons (eVar 0) (aCons (eVar 3) (aCons (eVar 1) aNil)))) (gN 3)))
 (sRet (eVar 3)))))
theorem ok_ideal_power (T : Txt K mg) : FnD P w K mg base "ideal_power" 5 3 d_ideal_power :=
 own_P (mn := ⟨[], none⟩) (mb := ⟨[], none⟩) (mc := ⟨[], none⟩) T.f_ideal_power sc_ideal_power rfl fun f F0 cdv A outer s H E hr =>
 (ss_cons (m1 := ⟨[], none⟩) (s_set (e_call (ok_whole_ideal T) hr rfl rfl takes_ok (a_cons (e_var (by decide) (pv 0)) a_nil) rfl) (fun h => ps_set (i := 3) sc_ideal_power.nd rfl (.inl rfl) h))
 (ss_cons (m1 := ⟨[], none⟩) (s_for pass_ok rfl (i_range1 rfl T.b_range (a_cons (e_var (by decide) (pv 2)) a_nil)) (g_name (pg_name (i := 4) sc_ideal_power.nd rfl (.inl rfl))) (ss_one (s_set (e_call (ok_ideal_product T) hr rfl rfl takes_ok (a_cons (e_var (by decide) (pv 0)) (a_cons (e_var (by decide) (pv 3)) (a_cons (e_var (by decide) (pv 1)) a_nil))) rfl) (fun h => ps_set (i := 3) sc_ideal_power.nd rfl (.inl rfl) h))))
 (ss_one (s_ret (e_var (by decide) (pv 3))))))
/-! ### ideal_conjugate -/
abbrev s_ideal_conjugate : Stmt := topS 37
abbrev N_ideal_conjugate : List PySem.Str := ["ideal", "factor", "a", "b"]
theorem sc_ideal_conjugate : FnScope N_ideal_conjugate ["ideal"] (defScope s_ideal_conjugate) := ⟨rfl, rfl, rfl, by decide +kernel, rfl, by decide +kernel, by decide +kernel⟩
noncomputable def d_ideal_conjugate : List D → Res D := runF 4 1
 ((sSeq (sAsg (eVar 0) (gT (gsCons (gN 1) (gsCons (gN 2) (gsCons (gN 3) gsNil)))))
 (sRet (eTup (aCons (eVar 1) (aCons (eVar 2) (aCons (eBin vMod (eUn vNeg (eVar 3)) (eBin vMul (eC (.int 2)) (eVar 2))) aNil)))))))
theorem ok_ideal_conjugate (T : Txt K mg) : FnD P w K mg base "ideal_conjugate" 1 1 d_ideal_conjugate :=
 own_P (mn := ⟨[], none⟩) (mb := ⟨[], none⟩) (mc := ⟨[], none⟩) T.f_ideal_conjugate sc_ideal_conjugate rfl fun f F0 cdv A outer s H E hr =>
 (ss_cons (m1 := ⟨[], none⟩) (s_asg (e_var (by decide) (pv 0)) (g_tup rfl rfl (gs_cons (g_name (pg_name (i := 1) sc_ideal_conjugate.nd rfl (.inl rfl))) (gs_cons (g_name (pg_name (i := 2) sc_ideal_conjugate.nd rfl (.inl rfl))) (gs_cons (g_name (pg_name (i := 3) sc_ideal_conjugate.nd rfl (.inl rfl))) gs_nil))) (gl_cons (gl_cons (gl_cons gl_nil)))))
 (ss_one (s_ret (e_tup (a_cons (e_var (by decide) (pv 1)) (a_cons (e_var (by decide) (pv 2)) (a_cons (e_bin op_modN v_mod (e_un un_neg v_neg (e_var (by decide) (pv 3))) (e_bin op_mulX v_mul e_int (e_var (by decide) (pv 2)))) a_nil)))))))
/-! ### is_within -/
abbrev s_is_within : Stmt := topS 38
abbrev N_is_within : List PySem.Str := ["discriminant", "one", "other", "member"]
theorem sc_is_within : FnScope N_is_within ["discriminant", "one", "other"] (defScope s_is_within) := ⟨rfl, rfl, rfl, by decide +kernel, rfl, by decide +kernel, by decide +kernel⟩
noncomputable def d_is_within : List D → Res D := runF 4 3
 ((sRet (eArgs fAll (aCons (eOfF (lcD (iSeq (eCall d_members_of (aCons (eVar 1) aNil))) (gN 3) bYes (eCall d_has_member (aCons (eVar 0) (aCons (eVar 2) (aCons (eVar 3) aNil)))) [3])) aNil))))
theorem ok_is_within (T : Txt K mg) : FnD P w K mg base "is_within" 5 3 d_is_within :=
 own_P (mn := ⟨[], none⟩) (mb := ⟨[], none⟩) (mc := ⟨[], none⟩) T.f_is_within sc_is_within rfl fun f F0 cdv A outer s H E hr =>
 (ss_one (s_ret (e_callB (cr_all rfl) (v_all rfl) rfl T.b_all (by decide +kernel) (a_cons (e_ofF (f_lc rfl sc_is_within.nd  (i_seq rfl (e_call (ok_members_of T) hr rfl rfl takes_ok (a_cons (e_var (by decide) (pv 1)) a_nil) rfl)) (blkOk_by (own := [("member", 3)]) (N := N_is_within) (sc := defScope s_is_within) (by decide +kernel)) (fun _ _ _ _ _ => (g_name (pg_name (i := 3) sc_is_within.nd rfl (.inl rfl)))) (fun _ _ _ _ _ => t_nil) (fun _ _ _ _ _ => (e_call (ok_has_member T) hr rfl rfl takes0 (a_cons (e_var (by decide) (pv 0)) (a_cons (e_var (by decide) (pv 2)) (a_cons (e_var (by decide) (pv 3)) a_nil))) rfl)))) a_nil))))
/-! ### _common_with -/
abbrev s_u_common_with : Stmt := topS 40
abbrev N_u_common_with : List PySem.Str := ["discriminant", "one", "other", "step", "a", "b", "ideal"]
theorem sc_u_common_with : FnScope N_u_common_with ["discriminant", "one", "other", "step", "a"] (defScope s_u_common_with) := ⟨rfl, rfl, rfl, by decide +kernel, rfl, by decide +kernel, by decide +kernel⟩
noncomputable def d_u_common_with : List D → Res D := runF 7 5
 ((sSeq (sFor (iArgs iRange (aCons (eBin vMul (eC (.int 2)) (eVar 4)) aNil)) (gN 5) (sSeq (sAsg (eTup (aCons (eVar 3) (aCons (eVar 4) (aCons (eVar 5) aNil)))) (gN 6))
 (sIf (bAnd (bTru (eCall d_is_ideal (aCons (eVar 0) (aCons (eVar 6) aNil)))) (bTru (eCall d_is_within (aCons (eVar 0) (aCons (eVar 6) (aCons (eVar 1) aNil)))))) (sIf (bTru (eCall d_is_within (aCons (eVar 0) (aCons (eVar 6) (aCons (eVar 2) aNil))))) (sRet (eVar 6)) sNext) sNext)))
 (sRet (eC .none))))
theorem ok_u_common_with (T : Txt K mg) : FnD P w K mg base "_common_with" 6 5 d_u_common_with :=
 own_P (mn := ⟨[], none⟩) (mb := ⟨[], none⟩) (mc := ⟨[], none⟩) T.f_u_common_with sc_u_common_with rfl fun f F0 cdv A outer s H E hr =>
 (ss_cons (m1 := ⟨[], none⟩) (s_for pass_ok rfl (i_range1 rfl T.b_range (a_cons (e_bin op_mulX v_mul e_int (e_var (by decide) (pv 4))) a_nil)) (g_name (pg_name (i := 5) sc_u_common_with.nd rfl (.inl rfl))) (ss_cons (m1 := ⟨[], none⟩) (s_set (e_tup (a_cons (e_var (by decide) (pv 3)) (a_cons (e_var (by decide) (pv 4)) (a_cons (e_var (by decide) (pv 5)) a_nil)))) (fun h => ps_set (i := 6) sc_u_common_with.nd rfl (.inl rfl) h))
 (ss_one (s_if (b_w (bw_and (b_tru (e_call (ok_is_ideal T) hr rfl rfl takes_ok (a_cons (e_var (by decide) (pv 0)) (a_cons (e_var (by decide) (pv 6)) a_nil)) rfl) rfl) (bw_and1 (b_tru (e_call (ok_is_within T) hr rfl rfl takes_ok (a_cons (e_var (by decide) (pv 0)) (a_cons (e_var (by decide) (pv 6)) (a_cons (e_var (by decide) (pv 1)) a_nil))) rfl) rfl)))) (ss_one (s_if (b_tru (e_call (ok_is_within T) hr rfl rfl takes_ok (a_cons (e_var (by decide) (pv 0)) (a_cons (e_var (by decide) (pv 6)) (a_cons (e_var (by decide) (pv 2)) a_nil))) rfl) rfl) (ss_one (s_ret (e_var (by decide) (pv 6)))) ss_nil)) ss_nil))))
 (ss_one (s_ret e_non)))
/-! ### common_ideal -/
abbrev s_common_ideal : Stmt := topS 39
abbrev N_common_ideal : List PySem.Str := ["discriminant", "one", "other", "factor", "size", "step", "found"]
theorem sc_common_ideal : FnScope N_common_ideal ["discriminant", "one", "other"] (defScope s_common_ideal) := ⟨rfl, rfl, rfl, by decide +kernel, rfl, by decide +kernel, by decide +kernel⟩
noncomputable def d_common_ideal : List D → Res D := runF 7 3
 ((sSeq (sAsg (eCall d_ideal_sum (aCons (eVar 0) (aCons (eVar 1) (aCons (eVar 2) aNil)))) (gN 3))
 (sSeq (sAsg (eBin vFdiv (eBin vMul (eCall d_ideal_norm (aCons (eVar 1) aNil)) (eCall d_ideal_norm (aCons (eVar 2) aNil))) (eCall d_ideal_norm (aCons (eVar 3) aNil))) (gN 4))
 (sSeq (sFor (iArgs iRange (aCons (eC (.int 1)) (aCons (eBin vAdd (eVar 4) (eC (.int 1))) aNil))) (gN 5) (sIf (bBin vEq (eBin vMod (eVar 4) (eBin vMul (eVar 5) (eVar 5))) (eC (.int 0))) (sSeq (sAsg (eCall d_u_common_with (aCons (eVar 0) (aCons (eVar 1) (aCons (eVar 2) (aCons (eVar 5) (aCons (eBin vFdiv (eVar 4) (eBin vMul (eVar 5) (eVar 5))) aNil)))))) (gN 6))
 (sIf (bBin vNotN (eVar 6) (eC .none)) (sRet (eVar 6)) sNext)) sNext))
 (sRaise ⟨"NotPossible", none⟩)))))
theorem ok_common_ideal (T : Txt K mg) : FnD P w K mg base "common_ideal" 7 3 d_common_ideal :=
 own_P (mn := ⟨[], none⟩) (mb := ⟨[], none⟩) (mc := ⟨[], none⟩) T.f_common_ideal sc_common_ideal rfl fun f F0 cdv A outer s H E hr =>
 (ss_cons (m1 := ⟨[], none⟩) (s_set (e_call (ok_ideal_sum T) hr rfl rfl takes_ok (a_cons (e_var (by decide) (pv 0)) (a_cons (e_var (by decide) (pv 1)) (a_cons (e_var (by decide) (pv 2)) a_nil))) rfl) (fun h => ps_set (i := 3) sc_common_ideal.nd rfl (.inl rfl) h))
 (ss_cons (m1 := ⟨[], none⟩) (s_set (e_bin op_fdivG v_fdiv (e_bin op_mulX v_mul (e_call (ok_ideal_norm T) hr rfl rfl takes_ok (a_cons (e_var (by decide) (pv 1)) a_nil) rfl) (e_call (ok_ideal_norm T) hr rfl rfl takes_ok (a_cons (e_var (by decide) (pv 2)) a_nil) rfl)) (e_call (ok_ideal_norm T) hr rfl rfl takes_ok (a_cons (e_var (by decide) (pv 3)) a_nil) rfl)) (fun h => ps_set (i := 4) sc_common_ideal.nd rfl (.inl rfl) h))
 (ss_cons (m1 := ⟨[], none⟩) (s_for pass_ok rfl (i_range2 rfl T.b_range (a_cons e_int (a_cons (e_bin op_addX (v_add rfl) (e_var (by decide) (pv 4)) e_int) a_nil))) (g_name (pg_name (i := 5) sc_common_ideal.nd rfl (.inl rfl))) (ss_one (s_if (b_cmp (op_eqD hr.units) (v_eq rfl) (e_bin op_modN v_mod (e_var (by decide) (pv 4)) (e_bin op_mulX v_mul (e_var (by decide) (pv 5)) (e_var (by decide) (pv 5)))) e_int (nomark _)) (ss_cons (m1 := ⟨[], none⟩) (s_set (e_call (ok_u_common_with T) hr rfl rfl takes_ok (a_cons (e_var (by decide) (pv 0)) (a_cons (e_var (by decide) (pv 1)) (a_cons (e_var (by decide) (pv 2)) (a_cons (e_var (by decide) (pv 5)) (a_cons (e_bin op_fdivG v_fdiv (e_var (by decide) (pv 4)) (e_bin op_mulX v_mul (e_var (by decide) (pv 5)) (e_var (by decide) (pv 5)))) a_nil))))) rfl) (fun h => ps_set (i := 6) sc_common_ideal.nd rfl (.inl rfl) h))
 (ss_one (s_if (b_cmp op_notN v_notN (e_var (by decide) (pv 6)) e_non (nomark _)) (ss_one (s_ret (e_var (by decide) (pv 6)))) ss_nil))) ss_nil)))
 (ss_one (s_raiseT T.x_NotPossible rfl rfl rfl takes_ok rfl)))))
/-! ### is_invertible -/
abbrev s_is_invertible : Stmt := topS 41
abbrev N_is_invertible : List PySem.Str := ["discriminant", "ideal", "_", "a", "b"]
theorem sc_is_invertible : FnScope N_is_invertible ["discriminant", "ideal"] (defScope s_is_invertible) := ⟨rfl, rfl, rfl, by decide +kernel, rfl, by decide +kernel, by decide +kernel⟩
noncomputable def d_is_invertible : List D → Res D := runF 5 2
 ((sSeq (sAsg (eVar 1) (gT (gsCons (gN 2) (gsCons (gN 3) (gsCons (gN 4) gsNil)))))
 (sRet (eOfB (bBin vEq (eCall d_divisor_of_all (aCons (eLst (aCons (eVar 3) (aCons (eVar 4) (aCons (eBin vFdiv (eBin vSub (eBin vMul (eVar 4) (eVar 4)) (eVar 0)) (eBin vMul (eC (.int 4)) (eVar 3))) aNil)))) aNil)) (eC (.int 1)))))))
theorem ok_is_invertible (T : Txt K mg) : FnD P w K mg base "is_invertible" 3 2 d_is_invertible :=
 own_P (mn := ⟨[], none⟩) (mb := ⟨[], none⟩) (mc := ⟨[], none⟩) T.f_is_invertible sc_is_invertible rfl fun f F0 cdv A outer s H E hr =>
 (ss_cons (m1 := ⟨[], none⟩) (s_asg (e_var (by decide) (pv 1)) (g_tup rfl rfl (gs_cons (g_name (pg_name (i := 2) sc_is_invertible.nd rfl (.inl rfl))) (gs_cons (g_name (pg_name (i := 3) sc_is_invertible.nd rfl (.inl rfl))) (gs_cons (g_name (pg_name (i := 4) sc_is_invertible.nd rfl (.inl rfl))) gs_nil))) (gl_cons (gl_cons (gl_cons gl_nil)))))
 (ss_one (s_ret (e_cmp (op_eqD hr.units) (v_eq rfl) (e_call (ok_divisor_of_all T) hr rfl rfl takes_ok (a_cons (e_lst (a_cons (e_var (by decide) (pv 3)) (a_cons (e_var (by decide) (pv 4)) (a_cons (e_bin op_fdivG v_fdiv (e_bin op_sub v_sub (e_bin op_mulX v_mul (e_var (by decide) (pv 4)) (e_var (by decide) (pv 4))) (e_var (by decide) (pv 0))) (e_bin op_mulX v_mul e_int (e_var (by decide) (pv 3)))) a_nil)))) a_nil) rfl) e_int (nomark _)))))
/-! ### ideals_of_norm -/
abbrev s_ideals_of_norm : Stmt := topS 42
abbrev N_ideals_of_norm : List PySem.Str := ["discriminant", "norm", "found", "factor", "a", "middles", "root", "b"]
theorem sc_ideals_of_norm : FnScope N_ideals_of_norm ["discriminant", "norm"] (defScope s_ideals_of_norm) := ⟨rfl, rfl, rfl, by decide +kernel, rfl, by decide +kernel, by decide +kernel⟩
noncomputable def d_ideals_of_norm : List D → Res D := runF 8 2
 ((sSeq (sIf (bBin cGt (eVar 1) (eC (.int 100000))) (sRaise ⟨"TooLarge", none⟩) sNext)
 (sSeq (sOwn 2 aNil)
 (sSeq (sAsg (eC (.int 1)) (gN 3))
 (sSeq (sWhile (bBin cLe (eBin vMul (eVar 3) (eVar 3)) (eVar 1)) (sSeq (sIf (bBin vEq (eBin vMod (eVar 1) (eBin vMul (eVar 3) (eVar 3))) (eC (.int 0))) (sSeq (sAsg (eBin vFdiv (eVar 1) (eBin vMul (eVar 3) (eVar 3))) (gN 4))
 (sSeq (sAsg (eArgs fSortSet (aCons (eOfF (lcD (iSeq (eCall d_roots_modulo (aCons (eVar 0) (aCons (eBin vMul (eC (.int 4)) (eVar 4)) aNil)))) (gN 6) bYes (eBin vMod (eVar 6) (eBin vMul (eC (.int 2)) (eVar 4))) [6])) aNil)) (gN 5))
 (sExt 2 (eOfF (lcD (iSeq (eVar 5)) (gN 7) bYes (eTup (aCons (eVar 3) (aCons (eVar 4) (aCons (eVar 7) aNil)))) [7]))))) sNext)
 (sAug 3 vAddI (eC (.int 1)))))
 (sRet (eArgs fSortD (aCons (eVar 2) aNil))))))))
theorem ok_ideals_of_norm (T : Txt K mg) : FnD P w K mg base "ideals_of_norm" 4 2 d_ideals_of_norm :=
 own_P (mn := ⟨[], none⟩) (mb := ⟨[], none⟩) (mc := ⟨[], none⟩) T.f_ideals_of_norm sc_ideals_of_norm rfl fun f F0 cdv A outer s H E hr =>
 (ss_cons (m1 := ⟨[], none⟩) (s_if (b_cmp op_gt v_gt (e_var (by decide) (pv 1)) (e_cint T.c_MOST_NORM rfl) (nomark _)) (ss_one (s_raiseT T.x_TooLarge rfl rfl rfl takes_ok rfl)) ss_nil)
 (ss_cons (m1 := ⟨[2], none⟩) (s_own (f_lst a_nil) (fun h => ps_set (i := 2) sc_ideals_of_norm.nd rfl (.inl rfl) h))
 (ss_cons (m1 := ⟨[2], none⟩) (s_set e_int (fun h => ps_set (i := 3) sc_ideals_of_norm.nd rfl (.inr rfl) h))
 (ss_cons (m1 := ⟨[2], none⟩) (s_while pass_ok (b_cmp op_le v_le (e_bin op_mulX v_mul (e_var (by decide) (pv 3)) (e_var (by decide) (pv 3))) (e_var (by decide) (pv 1)) (nomark _)) (ss_cons (m1 := ⟨[2], none⟩) (s_if (b_cmp (op_eqD hr.units) (v_eq rfl) (e_bin op_modN v_mod (e_var (by decide) (pv 1)) (e_bin op_mulX v_mul (e_var (by decide) (pv 3)) (e_var (by decide) (pv 3)))) e_int (nomark _)) (ss_cons (m1 := ⟨[2], none⟩) (s_set (e_bin op_fdivG v_fdiv (e_var (by decide) (pv 1)) (e_bin op_mulX v_mul (e_var (by decide) (pv 3)) (e_var (by decide) (pv 3)))) (fun h => ps_set (i := 4) sc_ideals_of_norm.nd rfl (.inr rfl) h))
 (ss_cons (m1 := ⟨[2], none⟩) (s_set (e_sortedSC rfl rfl sc_ideals_of_norm.nd rfl T.b_sorted (i_seq rfl (e_call (ok_roots_modulo T) hr rfl rfl takes_ok (a_cons (e_var (by decide) (pv 0)) (a_cons (e_bin op_mulX v_mul e_int (e_var (by decide) (pv 4))) a_nil)) rfl)) (blkOk_by (own := [("root", 6)]) (N := N_ideals_of_norm) (sc := defScope s_ideals_of_norm) (by decide +kernel)) (fun _ _ _ _ _ => (g_name (pg_name (i := 6) sc_ideals_of_norm.nd rfl (.inl rfl)))) (fun _ _ _ _ _ => t_nil) (fun _ _ _ _ _ => (e_bin op_modN v_mod (e_var (by decide) (pv 6)) (e_bin op_mulX v_mul e_int (e_var (by decide) (pv 4)))))) (fun h => ps_set (i := 5) sc_ideals_of_norm.nd rfl (.inl rfl) h))
 (ss_one (s_ext (by decide) (e_ofF (f_lc rfl sc_ideals_of_norm.nd  (i_seq rfl (e_var (by decide) (pv 5))) (blkOk_by (own := [("b", 7)]) (N := N_ideals_of_norm) (sc := defScope s_ideals_of_norm) (by decide +kernel)) (fun _ _ _ _ _ => (g_name (pg_name (i := 7) sc_ideals_of_norm.nd rfl (.inl rfl)))) (fun _ _ _ _ _ => t_nil) (fun _ _ _ _ _ => (e_tup (a_cons (e_var (by decide) (pv 3)) (a_cons (e_var (by decide) (pv 4)) (a_cons (e_var (by decide) (pv 7)) a_nil))))))) (fun h => ps_expr (pe_bm PySem.F.plainAttrs_list PySem.F.slot_list_extend PySem.F.type_list_extend mt_extend (pv 2) (pa_cons h pa_nil))))))) ss_nil)
 (ss_one (s_aug v_addI (by decide) e_int (fun h => ps_aug (i := 3) sc_ideals_of_norm.nd rfl (.inr rfl) h iop_add)))))
 (ss_frz 2 (ss_one (s_ret (e_callB (cr_sortDL (units65 hr)) (v_sortD rfl) rfl T.b_sorted (by decide +kernel) (a_cons (e_var (by decide) (pv 2)) a_nil)))))))))
/-! ### ideal_quotient -/
abbrev s_ideal_quotient : Stmt := topS 43
abbrev N_ideal_quotient : List PySem.Str := ["discriminant", "one", "other", "norm", "whole"]
theorem sc_ideal_quotient : FnScope N_ideal_quotient ["discriminant", "one", "other"] (defScope s_ideal_quotient) := ⟨rfl, rfl, rfl, by decide +kernel, rfl, by decide +kernel, by decide +kernel⟩
noncomputable def d_ideal_quotient : List D → Res D := runF 5 3
 ((sSeq (sAsg (eCall d_ideal_norm (aCons (eVar 2) aNil)) (gN 3))
 (sSeq (sAsg (eCall d_ideal_product (aCons (eVar 0) (aCons (eVar 1) (aCons (eCall d_ideal_conjugate (aCons (eVar 2) aNil)) aNil)))) (gN 4))
 (sSeq (sIf (bBin vNe (eBin vMod (eBin vIx (eVar 4) (eC (.int 0))) (eVar 3)) (eC (.int 0))) (sRaise ⟨"NotPossible", none⟩) sNext)
 (sRet (eTup (aCons (eBin vFdiv (eBin vIx (eVar 4) (eC (.int 0))) (eVar 3)) (aCons (eBin vIx (eVar 4) (eC (.int 1))) (aCons (eBin vIx (eVar 4) (eC (.int 2))) aNil)))))))))
theorem ok_ideal_quotient (T : Txt K mg) : FnD P w K mg base "ideal_quotient" 5 3 d_ideal_quotient :=
 own_P (mn := ⟨[], none⟩) (mb := ⟨[], none⟩) (mc := ⟨[], none⟩) T.f_ideal_quotient sc_ideal_quotient rfl fun f F0 cdv A outer s H E hr =>
 (ss_cons (m1 := ⟨[], none⟩) (s_set (e_call (ok_ideal_norm T) hr rfl rfl takes_ok (a_cons (e_var (by decide) (pv 2)) a_nil) rfl) (fun h => ps_set (i := 3) sc_ideal_quotient.nd rfl (.inl rfl) h))
 (ss_cons (m1 := ⟨[], none⟩) (s_set (e_call (ok_ideal_product T) hr rfl rfl takes_ok (a_cons (e_var (by decide) (pv 0)) (a_cons (e_var (by decide) (pv 1)) (a_cons (e_call (ok_ideal_conjugate T) hr rfl rfl takes_ok (a_cons (e_var (by decide) (pv 2)) a_nil) rfl) a_nil))) rfl) (fun h => ps_set (i := 4) sc_ideal_quotient.nd rfl (.inl rfl) h))
 (ss_cons (m1 := ⟨[], none⟩) (s_if (b_cmp (op_neD hr.units) (v_ne rfl) (e_bin op_modN v_mod (e_ix ix_seq (v_ix rfl) (e_var (by decide) (pv 4)) e_int (fun _ _ => rfl)) (e_var (by decide) (pv 3))) e_int (nomark _)) (ss_one (s_raiseT T.x_NotPossible rfl rfl rfl takes_ok rfl)) ss_nil)
 (ss_one (s_ret (e_tup (a_cons (e_bin op_fdivG v_fdiv (e_ix ix_seq (v_ix rfl) (e_var (by decide) (pv 4)) e_int (fun _ _ => rfl)) (e_var (by decide) (pv 3))) (a_cons (e_ix ix_seq (v_ix rfl) (e_var (by decide) (pv 4)) e_int (fun _ _ => rfl)) (a_cons (e_ix ix_seq (v_ix rfl) (e_var (by decide) (pv 4)) e_int (fun _ _ => rfl)) a_nil)))))))))
/-! ### remainder_of -/
abbrev s_remainder_of : Stmt := topS 44
abbrev N_remainder_of : List PySem.Str := ["discriminant", "ideal", "one", "factor", "a", "b", "x", "y", "turn"]
theorem sc_remainder_of : FnScope N_remainder_of ["discriminant", "ideal", "one"] (defScope s_remainder_of) := ⟨rfl, rfl, rfl, by decide +kernel, rfl, by decide +kernel, by decide +kernel⟩
noncomputable def d_remainder_of : List D → Res D := runF 9 3
 ((sSeq (sAsg (eVar 1) (gT (gsCons (gN 3) (gsCons (gN 4) (gsCons (gN 5) gsNil)))))
 (sSeq (sAsg (eVar 2) (gT (gsCons (gN 6) (gsCons (gN 7) gsNil))))
 (sSeq (sAsg (eBin vFdiv (eVar 7) (eVar 3)) (gN 8))
 (sSeq (sPar 6 7 (eBin vSub (eVar 6) (eBin vMul (eBin vMul (eVar 8) (eVar 3)) (eVar 5))) (eBin vSub (eVar 7) (eBin vMul (eVar 8) (eVar 3))))
 (sRet (eTup (aCons (eBin vMod (eVar 6) (eBin vMul (eBin vMul (eC (.int 2)) (eVar 3)) (eVar 4))) (aCons (eVar 7) aNil)))))))))
theorem ok_remainder_of (T : Txt K mg) : FnD P w K mg base "remainder_of" 1 3 d_remainder_of :=
 own_P (mn := ⟨[], none⟩) (mb := ⟨[], none⟩) (mc := ⟨[], none⟩) T.f_remainder_of sc_remainder_of rfl fun f F0 cdv A outer s H E hr =>
 (ss_cons (m1 := ⟨[], none⟩) (s_asg (e_var (by decide) (pv 1)) (g_tup rfl rfl (gs_cons (g_name (pg_name (i := 3) sc_remainder_of.nd rfl (.inl rfl))) (gs_cons (g_name (pg_name (i := 4) sc_remainder_of.nd rfl (.inl rfl))) (gs_cons (g_name (pg_name (i := 5) sc_remainder_of.nd rfl (.inl rfl))) gs_nil))) (gl_cons (gl_cons (gl_cons gl_nil)))))
 (ss_cons (m1 := ⟨[], none⟩) (s_asg (e_var (by decide) (pv 2)) (g_tup rfl rfl (gs_cons (g_name (pg_name (i := 6) sc_remainder_of.nd rfl (.inl rfl))) (gs_cons (g_name (pg_name (i := 7) sc_remainder_of.nd rfl (.inl rfl))) gs_nil)) (gl_cons (gl_cons gl_nil))))
 (ss_cons (m1 := ⟨[], none⟩) (s_set (e_bin op_fdivG v_fdiv (e_var (by decide) (pv 7)) (e_var (by decide) (pv 3))) (fun h => ps_set (i := 8) sc_remainder_of.nd rfl (.inl rfl) h))
 (ss_cons (m1 := ⟨[], none⟩) (s_par (i := 6) (j := 7) (a_cons (e_bin op_sub v_sub (e_var (by decide) (pv 6)) (e_bin op_mulX v_mul (e_bin op_mulX v_mul (e_var (by decide) (pv 8)) (e_var (by decide) (pv 3))) (e_var (by decide) (pv 5)))) (a_cons (e_bin op_sub v_sub (e_var (by decide) (pv 7)) (e_bin op_mulX v_mul (e_var (by decide) (pv 8)) (e_var (by decide) (pv 3)))) a_nil)) rfl sc_remainder_of.nd rfl rfl (by decide) rfl rfl (by rfl))
 (ss_one (s_ret (e_tup (a_cons (e_bin op_modN v_mod (e_var (by decide) (pv 6)) (e_bin op_mulX v_mul (e_bin op_mulX v_mul e_int (e_var (by decide) (pv 3))) (e_var (by decide) (pv 4)))) (a_cons (e_var (by decide) (pv 7)) a_nil)))))))))
/-! ### conjugate_members -/
abbrev s_conjugate_members : Stmt := topS 45
abbrev N_conjugate_members : List PySem.Str := ["ideal", "one", "other"]
theorem sc_conjugate_members : FnScope N_conjugate_members ["ideal"] (defScope s_conjugate_members) := ⟨rfl, rfl, rfl, by decide +kernel, rfl, by decide +kernel, by decide +kernel⟩
noncomputable def d_conjugate_members : List D → Res D := runF 3 1
 ((sSeq (sAsg (eCall d_members_of (aCons (eVar 0) aNil)) (gT (gsCons (gN 1) (gsCons (gN 2) gsNil))))
 (sRet (eTup (aCons (eCall d_conjugate (aCons (eVar 1) aNil)) (aCons (eCall d_conjugate (aCons (eVar 2) aNil)) aNil))))))
theorem ok_conjugate_members (T : Txt K mg) : FnD P w K mg base "conjugate_members" 2 1 d_conjugate_members :=
 own_P (mn := ⟨[], none⟩) (mb := ⟨[], none⟩) (mc := ⟨[], none⟩) T.f_conjugate_members sc_conjugate_members rfl fun f F0 cdv A outer s H E hr =>
 (ss_cons (m1 := ⟨[], none⟩) (s_asg (e_call (ok_members_of T) hr rfl rfl takes_ok (a_cons (e_var (by decide) (pv 0)) a_nil) rfl) (g_tup rfl rfl (gs_cons (g_name (pg_name (i := 1) sc_conjugate_members.nd rfl (.inl rfl))) (gs_cons (g_name (pg_name (i := 2) sc_conjugate_members.nd rfl (.inl rfl))) gs_nil)) (gl_cons (gl_cons gl_nil))))
 (ss_one (s_ret (e_tup (a_cons (e_call (ok_conjugate T) hr rfl rfl takes_ok (a_cons (e_var (by decide) (pv 1)) a_nil) rfl) (a_cons (e_call (ok_conjugate T) hr rfl rfl takes_ok (a_cons (e_var (by decide) (pv 2)) a_nil) rfl) a_nil))))))
/-! ### share_no_prime -/
abbrev s_share_no_prime : Stmt := topS 46
abbrev N_share_no_prime : List PySem.Str := ["one", "other"]
theorem sc_share_no_prime : FnScope N_share_no_prime ["one", "other"] (defScope s_share_no_prime) := ⟨rfl, rfl, rfl, by decide +kernel, rfl, by decide +kernel, by decide +kernel⟩
noncomputable def d_share_no_prime : List D → Res D := runF 2 2
 ((sRet (eOfB (bBin vEq (eCall d_common_divisor (aCons (eCall d_ideal_norm (aCons (eVar 0) aNil)) (aCons (eCall d_ideal_norm (aCons (eVar 1) aNil)) aNil))) (eC (.int 1))))))
theorem ok_share_no_prime (T : Txt K mg) : FnD P w K mg base "share_no_prime" 2 2 d_share_no_prime :=
 own_P (mn := ⟨[], none⟩) (mb := ⟨[], none⟩) (mc := ⟨[], none⟩) T.f_share_no_prime sc_share_no_prime rfl fun f F0 cdv A outer s H E hr =>
 (ss_one (s_ret (e_cmp (op_eqD hr.units) (v_eq rfl) (e_call (ok_common_divisor T) hr rfl rfl takes_ok (a_cons (e_call (ok_ideal_norm T) hr rfl rfl takes_ok (a_cons (e_var (by decide) (pv 0)) a_nil) rfl) (a_cons (e_call (ok_ideal_norm T) hr rfl rfl takes_ok (a_cons (e_var (by decide) (pv 1)) a_nil) rfl) a_nil)) rfl) e_int (nomark _))))
/-! ### _law_state -/
abbrev s_L_state : Stmt := topS 48
abbrev N_L_state : List PySem.Str := ["script"]
theorem sc_L_state : FnScope N_L_state ["script"] (defScope s_L_state) := ⟨rfl, rfl, rfl, by decide +kernel, rfl, by decide +kernel, by decide +kernel⟩
theorem ok_L_state (T : Txt K mg) : Own P w K mg base "_law_state" 1 (spI K) :=
  own_I T.f_L_state sc_L_state fun f cdv A outer s H E => pss_one (ps_ret (pe_lst (pa_cons (pe_callTy call_list_of rfl T.b_list (by decide +kernel) (pa_cons (pv 0) pa_nil)) (pa_cons pe_int (pa_cons pe_int (pa_cons pe_int (pa_cons pe_bl (pa_cons pe_int pa_nil))))))))
/-! ### _law_draw -/
abbrev s_L_draw : Stmt := topS 49
abbrev N_L_draw : List PySem.Str := ["state", "limit", "cell", "digit", "mixed"]
theorem sc_L_draw : FnScope N_L_draw ["state", "limit"] (defScope s_L_draw) := ⟨rfl, rfl, rfl, by decide +kernel, rfl, by decide +kernel, by decide +kernel⟩
noncomputable def d_L_draw : List D → MM D := runS 5 2
 ((sSeq (sIf (bBin vEq (eIxB (eC (.int 3))) (eC (.int 0))) (sSeq (sIf (bBin cGe (eIxB (eC (.int 1))) (eArgs fLen (aCons (eIxB (eC (.int 0))) aNil))) (sRet (eC (.int 0))) sNext)
 (sSeq (sAsg (eBin vIx (eIxB (eC (.int 0))) (eIxB (eC (.int 1)))) (gN 2))
 (sSeq (sIf (bBin cLt (eVar 2) (eC (.int 0))) (sAsg (eBin vSub (eUn vNeg (eC (.int 1))) (eVar 2)) (gN 2)) sNext)
 (sSeq (sSetB (eBin vAdd (eIxB (eC (.int 1))) (eC (.int 1))) (eC (.int 1)))
 (sSeq (sSetB (eVar 2) (eC (.int 2)))
 (sSeq (sSetB (eOfB (bBin cGe (eVar 2) (eBin vPow (eC (.int 10)) (eC (.int 18))))) (eC (.int 4)))
 (sSeq (sSetB (eC (.int 6)) (eC (.int 3)))
 (sIf (bTru (eIxB (eC (.int 4)))) (sSetB (eC (.int 60)) (eC (.int 3))) sNext)))))))) sNext)
 (sSeq (sSetB (eBin vSub (eIxB (eC (.int 3))) (eC (.int 1))) (eC (.int 3)))
 (sSeq (sIf (bTru (eIxB (eC (.int 4)))) (sSeq (sAsg (eBin vMod (eArgs fInt (aCons (eIxB (eC (.int 2))) aNil)) (eVar 1)) (gN 3))
 (sSeq (sSetB (eBin vFdiv (eIxB (eC (.int 2))) (eVar 1)) (eC (.int 2)))
 (sSeq (sIf (bBin vEq (eIxB (eC (.int 2))) (eC (.int 0))) (sSetB (eC (.int 0)) (eC (.int 3))) sNext)
 (sRet (eVar 3))))) sNext)
 (sSeq (sAsg (eBin vMod (eArgs fInt (aCons (eBin vAdd (eBin vAdd (eBin vMul (eIxB (eC (.int 2))) (eC (.int 48271))) (eBin vMul (eIxB (eC (.int 3))) (eC (.int 69621)))) (eC (.int 7))) aNil)) (eC (.int 2147483647))) (gN 4))
 (sSeq (sAsg (eBin vMod (eArgs fInt (aCons (eBin vAdd (eBin vAdd (eBin vMul (eVar 4) (eVar 4)) (eBin vMul (eIxB (eC (.int 2))) (eC (.int 31)))) (eIxB (eC (.int 3)))) aNil)) (eC (.int 1000003))) (gN 4))
 (sRet (eBin vMod (eArgs fInt (aCons (eVar 4) aNil)) (eVar 1)))))))))
theorem ok_L_draw (T : Txt K mg) : FnS P w K mg base "_law_draw" 1 2 d_L_draw :=
 own_S (mn := ⟨[], some 0⟩) (mb := ⟨[], none⟩) (mc := ⟨[], none⟩) T.f_L_draw sc_L_draw rfl fun f F0 b cdv A outer s H E hr =>
 (ss_cons (m1 := ⟨[], some 0⟩) (s_if (b_cmp (op_eqD hr.units) (v_eq rfl) (e_ixB rfl e_int (fun h => pe_ix ix_list (pv 0) h (fun _ _ => rfl))) e_int (nomark _)) (ss_cons (m1 := ⟨[], some 0⟩) (s_if (b_cmp op_ge v_ge (e_ixB rfl e_int (fun h => pe_ix ix_list (pv 0) h (fun _ _ => rfl))) (e_callB call_len (v_len rfl) rfl T.b_len (by decide +kernel) (a_cons (e_ixB rfl e_int (fun h => pe_ix ix_list (pv 0) h (fun _ _ => rfl))) a_nil)) (nomark _)) (ss_one (s_ret e_int)) ss_nil)
 (ss_cons (m1 := ⟨[], some 0⟩) (s_set (e_ix ix_seq (v_ix rfl) (e_ixB rfl e_int (fun h => pe_ix ix_list (pv 0) h (fun _ _ => rfl))) (e_ixB rfl e_int (fun h => pe_ix ix_list (pv 0) h (fun _ _ => rfl))) (fun _ _ => rfl)) (fun h => ps_set (i := 2) sc_L_draw.nd rfl (.inl rfl) h))
 (ss_cons (m1 := ⟨[], some 0⟩) (s_if (b_cmp op_lt v_lt (e_var (by decide) (pv 2)) e_int (nomark _)) (ss_one (s_set (e_bin op_sub v_sub (e_un un_neg v_neg e_int) (e_var (by decide) (pv 2))) (fun h => ps_set (i := 2) sc_L_draw.nd rfl (.inl rfl) h))) ss_nil)
 (ss_cons (m1 := ⟨[], some 0⟩) (s_setB rfl (e_bin op_addX (v_add rfl) (e_ixB rfl e_int (fun h => pe_ix ix_list (pv 0) h (fun _ _ => rfl))) e_int) e_int (fun h g => ps_asg h (pg_sub (pv 0) g set_list)))
 (ss_cons (m1 := ⟨[], some 0⟩) (s_setB rfl (e_var (by decide) (pv 2)) e_int (fun h g => ps_asg h (pg_sub (pv 0) g set_list)))
 (ss_cons (m1 := ⟨[], some 0⟩) (s_setB rfl (e_cmp op_ge v_ge (e_var (by decide) (pv 2)) (e_bin op_pow v_pow e_int e_int) (nomark _)) e_int (fun h g => ps_asg h (pg_sub (pv 0) g set_list)))
 (ss_cons (m1 := ⟨[], some 0⟩) (s_setB rfl e_int e_int (fun h g => ps_asg h (pg_sub (pv 0) g set_list)))
 (ss_one (s_if (b_tru (e_ixB rfl e_int (fun h => pe_ix ix_list (pv 0) h (fun _ _ => rfl))) rfl) (ss_one (s_setB rfl e_int e_int (fun h g => ps_asg h (pg_sub (pv 0) g set_list)))) ss_nil))))))))) ss_nil)
 (ss_cons (m1 := ⟨[], some 0⟩) (s_setB rfl (e_bin op_sub v_sub (e_ixB rfl e_int (fun h => pe_ix ix_list (pv 0) h (fun _ _ => rfl))) e_int) e_int (fun h g => ps_asg h (pg_sub (pv 0) g set_list)))
 (ss_cons (m1 := ⟨[], some 0⟩) (s_if (b_tru (e_ixB rfl e_int (fun h => pe_ix ix_list (pv 0) h (fun _ _ => rfl))) rfl) (ss_cons (m1 := ⟨[], some 0⟩) (s_set (e_bin op_modN v_mod (e_callTy call_int1 v_int1 rfl T.b_int (by decide +kernel) (a_cons (e_ixB rfl e_int (fun h => pe_ix ix_list (pv 0) h (fun _ _ => rfl))) a_nil)) (e_var (by decide) (pv 1))) (fun h => ps_set (i := 3) sc_L_draw.nd rfl (.inl rfl) h))
 (ss_cons (m1 := ⟨[], some 0⟩) (s_setB rfl (e_bin op_fdivG v_fdiv (e_ixB rfl e_int (fun h => pe_ix ix_list (pv 0) h (fun _ _ => rfl))) (e_var (by decide) (pv 1))) e_int (fun h g => ps_asg h (pg_sub (pv 0) g set_list)))
 (ss_cons (m1 := ⟨[], some 0⟩) (s_if (b_cmp (op_eqD hr.units) (v_eq rfl) (e_ixB rfl e_int (fun h => pe_ix ix_list (pv 0) h (fun _ _ => rfl))) e_int (nomark _)) (ss_one (s_setB rfl e_int e_int (fun h g => ps_asg h (pg_sub (pv 0) g set_list)))) ss_nil)
 (ss_one (s_ret (e_var (by decide) (pv 3))))))) ss_nil)
 (ss_cons (m1 := ⟨[], some 0⟩) (s_set (e_bin op_modN v_mod (e_callTy call_int1 v_int1 rfl T.b_int (by decide +kernel) (a_cons (e_bin op_addX (v_add rfl) (e_bin op_addX (v_add rfl) (e_bin op_mulX v_mul (e_ixB rfl e_int (fun h => pe_ix ix_list (pv 0) h (fun _ _ => rfl))) e_int) (e_bin op_mulX v_mul (e_ixB rfl e_int (fun h => pe_ix ix_list (pv 0) h (fun _ _ => rfl))) e_int)) e_int) a_nil)) e_int) (fun h => ps_set (i := 4) sc_L_draw.nd rfl (.inl rfl) h))
 (ss_cons (m1 := ⟨[], some 0⟩) (s_set (e_bin op_modN v_mod (e_callTy call_int1 v_int1 rfl T.b_int (by decide +kernel) (a_cons (e_bin op_addX (v_add rfl) (e_bin op_addX (v_add rfl) (e_bin op_mulX v_mul (e_var (by decide) (pv 4)) (e_var (by decide) (pv 4))) (e_bin op_mulX v_mul (e_ixB rfl e_int (fun h => pe_ix ix_list (pv 0) h (fun _ _ => rfl))) e_int)) (e_ixB rfl e_int (fun h => pe_ix ix_list (pv 0) h (fun _ _ => rfl)))) a_nil)) e_int) (fun h => ps_set (i := 4) sc_L_draw.nd rfl (.inl rfl) h))
 (ss_one (s_ret (e_bin op_modN v_mod (e_callTy call_int1 v_int1 rfl T.b_int (by decide +kernel) (a_cons (e_var (by decide) (pv 4)) a_nil)) (e_var (by decide) (pv 1))))))))))
/-! ### _law_truth -/
abbrev s_L_truth : Stmt := topS 50
abbrev N_L_truth : List PySem.Str := ["told", "due"]
theorem sc_L_truth : FnScope N_L_truth ["told", "due"] (defScope s_L_truth) := ⟨rfl, rfl, rfl, by decide +kernel, rfl, by decide +kernel, by decide +kernel⟩
noncomputable def d_L_truth : List D → Res D := runF 2 2
 ((sSeq (sIf (bTru (eVar 1)) (sRet (eOfB (bBin vIsB (eVar 0) (eC (.bool true))))) sNext)
 (sRet (eOfB (bBin vIsB (eVar 0) (eC (.bool false)))))))
theorem ok_L_truth (T : Txt K mg) : FnD P w K mg base "_law_truth" 1 2 d_L_truth :=
 own_P (mn := ⟨[], none⟩) (mb := ⟨[], none⟩) (mc := ⟨[], none⟩) T.f_L_truth sc_L_truth rfl fun f F0 cdv A outer s H E hr =>
 (ss_cons (m1 := ⟨[], none⟩) (s_if (b_tru (e_var (by decide) (pv 1)) rfl) (ss_one (s_ret (e_cmp op_isBl v_isB (e_var (by decide) (pv 0)) e_bl (nomark _)))) ss_nil)
 (ss_one (s_ret (e_cmp op_isBl v_isB (e_var (by decide) (pv 0)) e_bl (nomark _)))))
/-! ### _law_common -/
abbrev s_L_common : Stmt := topS 51
abbrev N_L_common : List PySem.Str := ["one", "two"]
theorem sc_L_common : FnScope N_L_common ["one", "two"] (defScope s_L_common) := ⟨rfl, rfl, rfl, by decide +kernel, rfl, by decide +kernel, by decide +kernel⟩
noncomputable def d_L_common : List D → Res D := runF 2 2
 ((sSeq (sAsg (eArgs fAbs (aCons (eVar 0) aNil)) (gN 0))
 (sSeq (sAsg (eArgs fAbs (aCons (eVar 1) aNil)) (gN 1))
 (sSeq (sWhile (bBin vNe (eVar 1) (eC (.int 0))) (sPar 0 1 (eVar 1) (eBin vMod (eArgs fInt (aCons (eVar 0) aNil)) (eVar 1))))
 (sRet (eVar 0))))))
theorem ok_L_common (T : Txt K mg) : FnD P w K mg base "_law_common" 1 2 d_L_common :=
 own_P (mn := ⟨[], none⟩) (mb := ⟨[], none⟩) (mc := ⟨[], none⟩) T.f_L_common sc_L_common rfl fun f F0 cdv A outer s H E hr =>
 (ss_cons (m1 := ⟨[], none⟩) (s_set (e_callB call_abs v_abs rfl T.b_abs (by decide +kernel) (a_cons (e_var (by decide) (pv 0)) a_nil)) (fun h => ps_set (i := 0) sc_L_common.nd rfl (.inl rfl) h))
 (ss_cons (m1 := ⟨[], none⟩) (s_set (e_callB call_abs v_abs rfl T.b_abs (by decide +kernel) (a_cons (e_var (by decide) (pv 1)) a_nil)) (fun h => ps_set (i := 1) sc_L_common.nd rfl (.inl rfl) h))
 (ss_cons (m1 := ⟨[], none⟩) (s_while pass_ok (b_cmp (op_neD hr.units) (v_ne rfl) (e_var (by decide) (pv 1)) e_int (nomark _)) (ss_one (s_par (i := 0) (j := 1) (a_cons (e_var (by decide) (pv 1)) (a_cons (e_bin op_modN v_mod (e_callTy call_int1 v_int1 rfl T.b_int (by decide +kernel) (a_cons (e_var (by decide) (pv 0)) a_nil)) (e_var (by decide) (pv 1))) a_nil)) rfl sc_L_common.nd rfl rfl (by decide) rfl rfl (by rfl))))
 (ss_one (s_ret (e_var (by decide) (pv 0)))))))
/-! ### _law_is_square -/
abbrev s_L_is_square : Stmt := topS 52
abbrev N_L_is_square : List PySem.Str := ["number", "low", "high", "middle"]
theorem sc_L_is_square : FnScope N_L_is_square ["number"] (defScope s_L_is_square) := ⟨rfl, rfl, rfl, by decide +kernel, rfl, by decide +kernel, by decide +kernel⟩
noncomputable def d_L_is_square : List D → Res D := runF 4 1
 ((sSeq (sIf (bBin cLt (eVar 0) (eC (.int 0))) (sRet (eC (.bool false))) sNext)
 (sSeq (sAsg (eC (.int 0)) (gN 1))
 (sSeq (sAsg (eBin vAdd (eVar 0) (eC (.int 1))) (gN 2))
 (sSeq (sWhile (bBin cGt (eBin vSub (eVar 2) (eVar 1)) (eC (.int 1))) (sSeq (sAsg (eBin vFdiv (eBin vAdd (eVar 1) (eVar 2)) (eC (.int 2))) (gN 3))
 (sIf (bBin cLe (eBin vMul (eVar 3) (eVar 3)) (eVar 0)) (sAsg (eVar 3) (gN 1)) (sAsg (eVar 3) (gN 2)))))
 (sRet (eOfB (bBin vEq (eBin vMul (eVar 1) (eVar 1)) (eVar 0)))))))))
theorem ok_L_is_square (T : Txt K mg) : FnD P w K mg base "_law_is_square" 1 1 d_L_is_square :=
 own_P (mn := ⟨[], none⟩) (mb := ⟨[], none⟩) (mc := ⟨[], none⟩) T.f_L_is_square sc_L_is_square rfl fun f F0 cdv A outer s H E hr =>
 (ss_cons (m1 := ⟨[], none⟩) (s_if (b_cmp op_lt v_lt (e_var (by decide) (pv 0)) e_int (nomark _)) (ss_one (s_ret e_bl)) ss_nil)
 (ss_cons (m1 := ⟨[], none⟩) (s_set e_int (fun h => ps_set (i := 1) sc_L_is_square.nd rfl (.inl rfl) h))
 (ss_cons (m1 := ⟨[], none⟩) (s_set (e_bin op_addX (v_add rfl) (e_var (by decide) (pv 0)) e_int) (fun h => ps_set (i := 2) sc_L_is_square.nd rfl (.inl rfl) h))
 (ss_cons (m1 := ⟨[], none⟩) (s_while pass_ok (b_cmp op_gt v_gt (e_bin op_sub v_sub (e_var (by decide) (pv 2)) (e_var (by decide) (pv 1))) e_int (nomark _)) (ss_cons (m1 := ⟨[], none⟩) (s_set (e_bin op_fdivG v_fdiv (e_bin op_addX (v_add rfl) (e_var (by decide) (pv 1)) (e_var (by decide) (pv 2))) e_int) (fun h => ps_set (i := 3) sc_L_is_square.nd rfl (.inl rfl) h))
 (ss_one (s_if (b_cmp op_le v_le (e_bin op_mulX v_mul (e_var (by decide) (pv 3)) (e_var (by decide) (pv 3))) (e_var (by decide) (pv 0)) (nomark _)) (ss_one (s_set (e_var (by decide) (pv 3)) (fun h => ps_set (i := 1) sc_L_is_square.nd rfl (.inl rfl) h))) (ss_one (s_set (e_var (by decide) (pv 3)) (fun h => ps_set (i := 2) sc_L_is_square.nd rfl (.inl rfl) h)))))))
 (ss_one (s_ret (e_cmp (op_eqD hr.units) (v_eq rfl) (e_bin op_mulX v_mul (e_var (by decide) (pv 1)) (e_var (by decide) (pv 1))) (e_var (by decide) (pv 0)) (nomark _))))))))
/-! ### _law_below -/
abbrev s_L_below : Stmt := topS 53
abbrev N_L_below : List PySem.Str := ["state", "most"]
theorem sc_L_below : FnScope N_L_below ["state", "most"] (defScope s_L_below) := ⟨rfl, rfl, rfl, by decide +kernel, rfl, by decide +kernel, by decide +kernel⟩
noncomputable def d_L_below : List D → MM D := runS 2 2
 ((sRet (eBin vSub (eBin vIx (eLst (aCons (eUn vNeg (eC (.int 3))) (aCons (eUn vNeg (eC (.int 4))) aNil))) (eCallS d_L_draw (aCons (eC (.int 2)) aNil))) (eBin vMul (eC (.int 4)) (eCallS d_L_draw (aCons (eVar 1) aNil))))))
theorem ok_L_below (T : Txt K mg) : FnS P w K mg base "_law_below" 2 2 d_L_below :=
 own_S (mn := ⟨[], some 0⟩) (mb := ⟨[], none⟩) (mc := ⟨[], none⟩) T.f_L_below sc_L_below rfl fun f F0 b cdv A outer s H E hr =>
 (ss_one (s_ret (e_bin op_sub v_sub (e_ix ix_seq (v_ix rfl) (e_lst (a_cons (e_un un_neg v_neg e_int) (a_cons (e_un un_neg v_neg e_int) a_nil))) (e_callS (ok_L_draw T) hr rfl rfl takes_ok rfl (pv 0) (a_cons e_int a_nil) rfl) (fun _ _ => rfl)) (e_bin op_mulX v_mul e_int (e_callS (ok_L_draw T) hr rfl rfl takes_ok rfl (pv 0) (a_cons (e_var (by decide) (pv 1)) a_nil) rfl)))))
/-! ### _law_above -/
abbrev s_L_above : Stmt := topS 54
abbrev N_L_above : List PySem.Str := ["state", "most", "number"]
theorem sc_L_above : FnScope N_L_above ["state", "most"] (defScope s_L_above) := ⟨rfl, rfl, rfl, by decide +kernel, rfl, by decide +kernel, by decide +kernel⟩
noncomputable def d_L_above : List D → MM D := runS 3 2
 ((sSeq (sAsg (eBin vAdd (eBin vAdd (eC (.int 5)) (eBin vMul (eC (.int 4)) (eCallS d_L_draw (aCons (eVar 1) aNil)))) (eBin vMul (eC (.int 3)) (eCallS d_L_draw (aCons (eC (.int 2)) aNil)))) (gN 2))
 (sSeq (sWhile (bTru (eCall d_L_is_square (aCons (eVar 2) aNil))) (sAsg (eBin vAdd (eVar 2) (eC (.int 4))) (gN 2)))
 (sRet (eVar 2)))))
theorem ok_L_above (T : Txt K mg) : FnS P w K mg base "_law_above" 2 2 d_L_above :=
 own_S (mn := ⟨[], some 0⟩) (mb := ⟨[], none⟩) (mc := ⟨[], none⟩) T.f_L_above sc_L_above rfl fun f F0 b cdv A outer s H E hr =>
 (ss_cons (m1 := ⟨[], some 0⟩) (s_set (e_bin op_addX (v_add rfl) (e_bin op_addX (v_add rfl) e_int (e_bin op_mulX v_mul e_int (e_callS (ok_L_draw T) hr rfl rfl takes_ok rfl (pv 0) (a_cons (e_var (by decide) (pv 1)) a_nil) rfl))) (e_bin op_mulX v_mul e_int (e_callS (ok_L_draw T) hr rfl rfl takes_ok rfl (pv 0) (a_cons e_int a_nil) rfl))) (fun h => ps_set (i := 2) sc_L_above.nd rfl (.inl rfl) h))
 (ss_cons (m1 := ⟨[], some 0⟩) (s_while pass_ok (b_tru (e_call (ok_L_is_square T) hr rfl rfl takes_ok (a_cons (e_var (by decide) (pv 2)) a_nil) rfl) rfl) (ss_one (s_set (e_bin op_addX (v_add rfl) (e_var (by decide) (pv 2)) e_int) (fun h => ps_set (i := 2) sc_L_above.nd rfl (.inl rfl) h))))
 (ss_one (s_ret (e_var (by decide) (pv 2))))))
/-! ### _law_disc -/
abbrev s_L_disc : Stmt := topS 55
abbrev N_L_disc : List PySem.Str := ["state"]
theorem sc_L_disc : FnScope N_L_disc ["state"] (defScope s_L_disc) := ⟨rfl, rfl, rfl, by decide +kernel, rfl, by decide +kernel, by decide +kernel⟩
noncomputable def d_L_disc : List D → MM D := runS 1 1
 ((sSeq (sIf (bBin vEq (eCallS d_L_draw (aCons (eC (.int 2)) aNil)) (eC (.int 0))) (sRet (eCallS d_L_below (aCons (eC (.int 120)) aNil))) sNext)
 (sRet (eCallS d_L_above (aCons (eC (.int 60)) aNil)))))
theorem ok_L_disc (T : Txt K mg) : FnS P w K mg base "_law_disc" 3 1 d_L_disc :=
 own_S (mn := ⟨[], some 0⟩) (mb := ⟨[], none⟩) (mc := ⟨[], none⟩) T.f_L_disc sc_L_disc rfl fun f F0 b cdv A outer s H E hr =>
 (ss_cons (m1 := ⟨[], some 0⟩) (s_if (b_cmp (op_eqD hr.units) (v_eq rfl) (e_callS (ok_L_draw T) hr rfl rfl takes_ok rfl (pv 0) (a_cons e_int a_nil) rfl) e_int (nomark _)) (ss_one (s_ret (e_callS (ok_L_below T) hr rfl rfl takes_ok rfl (pv 0) (a_cons e_int a_nil) rfl))) ss_nil)
 (ss_one (s_ret (e_callS (ok_L_above T) hr rfl rfl takes_ok rfl (pv 0) (a_cons e_int a_nil) rfl))))
/-! ### _law_ideal_has -/
abbrev s_L_ideal_has : Stmt := topS 56
abbrev N_L_ideal_has : List PySem.Str := ["size", "ideal", "one", "factor", "a", "b", "x", "y"]
theorem sc_L_ideal_has : FnScope N_L_ideal_has ["size", "ideal", "one"] (defScope s_L_ideal_has) := ⟨rfl, rfl, rfl, by decide +kernel, rfl, by decide +kernel, by decide +kernel⟩
noncomputable def d_L_ideal_has : List D → Res D := runF 8 3
 ((sSeq (sAsg (eVar 1) (gT (gsCons (gN 3) (gsCons (gN 4) (gsCons (gN 5) gsNil)))))
 (sSeq (sAsg (eVar 2) (gT (gsCons (gN 6) (gsCons (gN 7) gsNil))))
 (sSeq (sIf (bOr (bBin vNe (eBin vMod (eArgs fInt (aCons (eBin vSub (eVar 6) (eBin vMul (eVar 7) (eVar 0))) aNil)) (eC (.int 2))) (eC (.int 0))) (bBin vNe (eBin vMod (eArgs fInt (aCons (eVar 7) aNil)) (eVar 3)) (eC (.int 0)))) (sRet (eC (.bool false))) sNext)
 (sRet (eOfB (bBin vEq (eBin vMod (eArgs fInt (aCons (eBin vSub (eVar 6) (eBin vMul (eVar 7) (eVar 5))) aNil)) (eBin vMul (eBin vMul (eC (.int 2)) (eVar 3)) (eVar 4))) (eC (.int 0)))))))))
theorem ok_L_ideal_has (T : Txt K mg) : FnD P w K mg base "_law_ideal_has" 1 3 d_L_ideal_has :=
 own_P (mn := ⟨[], none⟩) (mb := ⟨[], none⟩) (mc := ⟨[], none⟩) T.f_L_ideal_has sc_L_ideal_has rfl fun f F0 cdv A outer s H E hr =>
 (ss_cons (m1 := ⟨[], none⟩) (s_asg (e_var (by decide) (pv 1)) (g_tup rfl rfl (gs_cons (g_name (pg_name (i := 3) sc_L_ideal_has.nd rfl (.inl rfl))) (gs_cons (g_name (pg_name (i := 4) sc_L_ideal_has.nd rfl (.inl rfl))) (gs_cons (g_name (pg_name (i := 5) sc_L_ideal_has.nd rfl (.inl rfl))) gs_nil))) (gl_cons (gl_cons (gl_cons gl_nil)))))
 (ss_cons (m1 := ⟨[], none⟩) (s_asg (e_var (by decide) (pv 2)) (g_tup rfl rfl (gs_cons (g_name (pg_name (i := 6) sc_L_ideal_has.nd rfl (.inl rfl))) (gs_cons (g_name (pg_name (i := 7) sc_L_ideal_has.nd rfl (.inl rfl))) gs_nil)) (gl_cons (gl_cons gl_nil))))
 (ss_cons (m1 := ⟨[], none⟩) (s_if (b_w (bw_or (b_cmp (op_neD hr.units) (v_ne rfl) (e_bin op_modN v_mod (e_callTy call_int1 v_int1 rfl T.b_int (by decide +kernel) (a_cons (e_bin op_sub v_sub (e_var (by decide) (pv 6)) (e_bin op_mulX v_mul (e_var (by decide) (pv 7)) (e_var (by decide) (pv 0)))) a_nil)) e_int) e_int (nomark _)) (bw_or1 (b_cmp (op_neD hr.units) (v_ne rfl) (e_bin op_modN v_mod (e_callTy call_int1 v_int1 rfl T.b_int (by decide +kernel) (a_cons (e_var (by decide) (pv 7)) a_nil)) (e_var (by decide) (pv 3))) e_int (nomark _))))) (ss_one (s_ret e_bl)) ss_nil)
 (ss_one (s_ret (e_cmp (op_eqD hr.units) (v_eq rfl) (e_bin op_modN v_mod (e_callTy call_int1 v_int1 rfl T.b_int (by decide +kernel) (a_cons (e_bin op_sub v_sub (e_var (by decide) (pv 6)) (e_bin op_mulX v_mul (e_var (by decide) (pv 7)) (e_var (by decide) (pv 5)))) a_nil)) (e_bin op_mulX v_mul (e_bin op_mulX v_mul e_int (e_var (by decide) (pv 3))) (e_var (by decide) (pv 4)))) e_int (nomark _)))))))
/-! ### _law_times -/
abbrev s_L_times : Stmt := topS 57
abbrev N_L_times : List PySem.Str := ["size", "one", "two"]
theorem sc_L_times : FnScope N_L_times ["size", "one", "two"] (defScope s_L_times) := ⟨rfl, rfl, rfl, by decide +kernel, rfl, by decide +kernel, by decide +kernel⟩
noncomputable def d_L_times : List D → Res D := runF 3 3
 ((sRet (eTup (aCons (eBin vFdiv (eBin vAdd (eBin vMul (eBin vIx (eVar 1) (eC (.int 0))) (eBin vIx (eVar 2) (eC (.int 0)))) (eBin vMul (eBin vMul (eVar 0) (eBin vIx (eVar 1) (eC (.int 1)))) (eBin vIx (eVar 2) (eC (.int 1))))) (eC (.int 2))) (aCons (eBin vFdiv (eBin vAdd (eBin vMul (eBin vIx (eVar 1) (eC (.int 0))) (eBin vIx (eVar 2) (eC (.int 1)))) (eBin vMul (eBin vIx (eVar 1) (eC (.int 1))) (eBin vIx (eVar 2) (eC (.int 0))))) (eC (.int 2))) aNil)))))
theorem ok_L_times (T : Txt K mg) : FnD P w K mg base "_law_times" 1 3 d_L_times :=
 own_P (mn := ⟨[], none⟩) (mb := ⟨[], none⟩) (mc := ⟨[], none⟩) T.f_L_times sc_L_times rfl fun f F0 cdv A outer s H E hr =>
 (ss_one (s_ret (e_tup (a_cons (e_bin op_fdivG v_fdiv (e_bin op_addX (v_add rfl) (e_bin op_mulX v_mul (e_ix ix_seq (v_ix rfl) (e_var (by decide) (pv 1)) e_int (fun _ _ => rfl)) (e_ix ix_seq (v_ix rfl) (e_var (by decide) (pv 2)) e_int (fun _ _ => rfl))) (e_bin op_mulX v_mul (e_bin op_mulX v_mul (e_var (by decide) (pv 0)) (e_ix ix_seq (v_ix rfl) (e_var (by decide) (pv 1)) e_int (fun _ _ => rfl))) (e_ix ix_seq (v_ix rfl) (e_var (by decide) (pv 2)) e_int (fun _ _ => rfl)))) e_int) (a_cons (e_bin op_fdivG v_fdiv (e_bin op_addX (v_add rfl) (e_bin op_mulX v_mul (e_ix ix_seq (v_ix rfl) (e_var (by decide) (pv 1)) e_int (fun _ _ => rfl)) (e_ix ix_seq (v_ix rfl) (e_var (by decide) (pv 2)) e_int (fun _ _ => rfl))) (e_bin op_mulX v_mul (e_ix ix_seq (v_ix rfl) (e_var (by decide) (pv 1)) e_int (fun _ _ => rfl)) (e_ix ix_seq (v_ix rfl) (e_var (by decide) (pv 2)) e_int (fun _ _ => rfl)))) e_int) a_nil)))))
/-! ### _law_norm -/
abbrev s_L_norm : Stmt := topS 58
abbrev N_L_norm : List PySem.Str := ["size", "one"]
theorem sc_L_norm : FnScope N_L_norm ["size", "one"] (defScope s_L_norm) := ⟨rfl, rfl, rfl, by decide +kernel, rfl, by decide +kernel, by decide +kernel⟩
noncomputable def d_L_norm : List D → Res D := runF 2 2
 ((sRet (eBin vFdiv (eBin vSub (eBin vMul (eBin vIx (eVar 1) (eC (.int 0))) (eBin vIx (eVar 1) (eC (.int 0)))) (eBin vMul (eBin vMul (eVar 0) (eBin vIx (eVar 1) (eC (.int 1)))) (eBin vIx (eVar 1) (eC (.int 1))))) (eC (.int 4)))))
theorem ok_L_norm (T : Txt K mg) : FnD P w K mg base "_law_norm" 1 2 d_L_norm :=
 own_P (mn := ⟨[], none⟩) (mb := ⟨[], none⟩) (mc := ⟨[], none⟩) T.f_L_norm sc_L_norm rfl fun f F0 cdv A outer s H E hr =>
 (ss_one (s_ret (e_bin op_fdivG v_fdiv (e_bin op_sub v_sub (e_bin op_mulX v_mul (e_ix ix_seq (v_ix rfl) (e_var (by decide) (pv 1)) e_int (fun _ _ => rfl)) (e_ix ix_seq (v_ix rfl) (e_var (by decide) (pv 1)) e_int (fun _ _ => rfl))) (e_bin op_mulX v_mul (e_bin op_mulX v_mul (e_var (by decide) (pv 0)) (e_ix ix_seq (v_ix rfl) (e_var (by decide) (pv 1)) e_int (fun _ _ => rfl))) (e_ix ix_seq (v_ix rfl) (e_var (by decide) (pv 1)) e_int (fun _ _ => rfl)))) e_int)))
/-! ### _law_member -/
abbrev s_L_member : Stmt := topS 59
abbrev N_L_member : List PySem.Str := ["state", "size", "ideal", "factor", "a", "b", "m", "n"]
theorem sc_L_member : FnScope N_L_member ["state", "size", "ideal"] (defScope s_L_member) := ⟨rfl, rfl, rfl, by decide +kernel, rfl, by decide +kernel, by decide +kernel⟩
noncomputable def d_L_member : List D → MM D := runS 8 3
 ((sSeq (sAsg (eVar 2) (gT (gsCons (gN 3) (gsCons (gN 4) (gsCons (gN 5) gsNil)))))
 (sSeq (sAsg (eBin vSub (eCallS d_L_draw (aCons (eC (.int 13)) aNil)) (eC (.int 6))) (gN 6))
 (sSeq (sAsg (eBin vSub (eCallS d_L_draw (aCons (eC (.int 13)) aNil)) (eC (.int 6))) (gN 7))
 (sRet (eTup (aCons (eBin vAdd (eBin vMul (eBin vMul (eBin vMul (eC (.int 2)) (eVar 3)) (eVar 4)) (eVar 6)) (eBin vMul (eBin vMul (eVar 3) (eVar 5)) (eVar 7))) (aCons (eBin vMul (eVar 3) (eVar 7)) aNil))))))))
theorem ok_L_member (T : Txt K mg) : FnS P w K mg base "_law_member" 2 3 d_L_member :=
 own_S (mn := ⟨[], some 0⟩) (mb := ⟨[], none⟩) (mc := ⟨[], none⟩) T.f_L_member sc_L_member rfl fun f F0 b cdv A outer s H E hr =>
 (ss_cons (m1 := ⟨[], some 0⟩) (s_asg (e_var (by decide) (pv 2)) (g_tup rfl rfl (gs_cons (g_name (pg_name (i := 3) sc_L_member.nd rfl (.inl rfl))) (gs_cons (g_name (pg_name (i := 4) sc_L_member.nd rfl (.inl rfl))) (gs_cons (g_name (pg_name (i := 5) sc_L_member.nd rfl (.inl rfl))) gs_nil))) (gl_cons (gl_cons (gl_cons gl_nil)))))
 (ss_cons (m1 := ⟨[], some 0⟩) (s_set (e_bin op_sub v_sub (e_callS (ok_L_draw T) hr rfl rfl takes_ok rfl (pv 0) (a_cons e_int a_nil) rfl) e_int) (fun h => ps_set (i := 6) sc_L_member.nd rfl (.inl rfl) h))
 (ss_cons (m1 := ⟨[], some 0⟩) (s_set (e_bin op_sub v_sub (e_callS (ok_L_draw T) hr rfl rfl takes_ok rfl (pv 0) (a_cons e_int a_nil) rfl) e_int) (fun h => ps_set (i := 7) sc_L_member.nd rfl (.inl rfl) h))
 (ss_one (s_ret (e_tup (a_cons (e_bin op_addX (v_add rfl) (e_bin op_mulX v_mul (e_bin op_mulX v_mul (e_bin op_mulX v_mul e_int (e_var (by decide) (pv 3))) (e_var (by decide) (pv 4))) (e_var (by decide) (pv 6))) (e_bin op_mulX v_mul (e_bin op_mulX v_mul (e_var (by decide) (pv 3)) (e_var (by decide) (pv 5))) (e_var (by decide) (pv 7)))) (a_cons (e_bin op_mulX v_mul (e_var (by decide) (pv 3)) (e_var (by decide) (pv 7))) a_nil))))))))
/-! ### _law_ideal -/
abbrev s_L_ideal : Stmt := topS 60
abbrev N_L_ideal : List PySem.Str := ["state", "size", "most", "a", "b", "rows"]
theorem sc_L_ideal : FnScope N_L_ideal ["state", "size", "most"] (defScope s_L_ideal) := ⟨rfl, rfl, rfl, by decide +kernel, rfl, by decide +kernel, by decide +kernel⟩
noncomputable def d_L_ideal : List D → MM D := runS 6 3
 ((sSeq (sAsg (eBin vAdd (eC (.int 1)) (eCallS d_L_draw (aCons (eVar 2) aNil))) (gN 3))
 (sSeq (sWhile (bBin vEq (eArgs fLen (aCons (eOfF (lcD (iArgs iRange (aCons (eBin vMul (eC (.int 2)) (eVar 3)) aNil)) (gN 4) (bBin vEq (eBin vMod (eArgs fInt (aCons (eBin vSub (eBin vMul (eVar 4) (eVar 4)) (eVar 1)) aNil)) (eBin vMul (eC (.int 4)) (eVar 3))) (eC (.int 0))) (eVar 4) [4])) aNil)) (eC (.int 0))) (sAsg (eBin vSub (eVar 3) (eC (.int 1))) (gN 3)))
 (sSeq (sAsg (eOfF (lcD (iArgs iRange (aCons (eBin vMul (eC (.int 2)) (eVar 3)) aNil)) (gN 4) (bBin vEq (eBin vMod (eArgs fInt (aCons (eBin vSub (eBin vMul (eVar 4) (eVar 4)) (eVar 1)) aNil)) (eBin vMul (eC (.int 4)) (eVar 3))) (eC (.int 0))) (eVar 4) [4])) (gN 5))
 (sRet (eTup (aCons (eBin vIx (eLst (aCons (eC (.int 1)) (aCons (eC (.int 1)) (aCons (eC (.int 1)) (aCons (eC (.int 2)) (aCons (eC (.int 3)) aNil)))))) (eCallS d_L_draw (aCons (eC (.int 5)) aNil))) (aCons (eVar 3) (aCons (eBin vIx (eVar 5) (eCallS d_L_draw (aCons (eArgs fLen (aCons (eVar 5) aNil)) aNil))) aNil)))))))))
theorem ok_L_ideal (T : Txt K mg) : FnS P w K mg base "_law_ideal" 2 3 d_L_ideal :=
 own_S (mn := ⟨[], some 0⟩) (mb := ⟨[], none⟩) (mc := ⟨[], none⟩) T.f_L_ideal sc_L_ideal rfl fun f F0 b cdv A outer s H E hr =>
 (ss_cons (m1 := ⟨[], some 0⟩) (s_set (e_bin op_addX (v_add rfl) e_int (e_callS (ok_L_draw T) hr rfl rfl takes_ok rfl (pv 0) (a_cons (e_var (by decide) (pv 2)) a_nil) rfl)) (fun h => ps_set (i := 3) sc_L_ideal.nd rfl (.inr rfl) h))
 (ss_cons (m1 := ⟨[], some 0⟩) (s_while pass_ok (b_cmp (op_eqD hr.units) (v_eq rfl) (e_callB call_len (v_len rfl) rfl T.b_len (by decide +kernel) (a_cons (e_ofF (f_lc rfl sc_L_ideal.nd  (i_range1 rfl T.b_range (a_cons (e_bin op_mulX v_mul e_int (e_var (by decide) (pv 3))) a_nil)) (blkOk_by (own := [("b", 4)]) (N := N_L_ideal) (sc := defScope s_L_ideal) (by decide +kernel)) (fun _ _ _ _ _ => (g_name (pg_name (i := 4) sc_L_ideal.nd rfl (.inl rfl)))) (fun _ _ _ _ _ => (t_one (b_cmp (op_eqD hr.units) (v_eq rfl) (e_bin op_modN v_mod (e_callTy call_int1 v_int1 rfl T.b_int (by decide +kernel) (a_cons (e_bin op_sub v_sub (e_bin op_mulX v_mul (e_var (by decide) (pv 4)) (e_var (by decide) (pv 4))) (e_var (by decide) (pv 1))) a_nil)) (e_bin op_mulX v_mul e_int (e_var (by decide) (pv 3)))) e_int (nomark _)))) (fun _ _ _ _ _ => (e_var (by decide) (pv 4))))) a_nil)) e_int (nomark _)) (ss_one (s_set (e_bin op_sub v_sub (e_var (by decide) (pv 3)) e_int) (fun h => ps_set (i := 3) sc_L_ideal.nd rfl (.inr rfl) h))))
 (ss_cons (m1 := ⟨[], some 0⟩) (s_lc (i := 5) rfl sc_L_ideal.nd rfl rfl (sw_true rfl rfl rfl (by decide +kernel)) (i_range1 rfl T.b_range (a_cons (e_bin op_mulX v_mul e_int (e_var (by decide) (pv 3))) a_nil)) (blkOk_by (own := [("b", 4)]) (N := N_L_ideal) (sc := defScope s_L_ideal) (by decide +kernel)) (fun _ _ _ _ _ => (g_name (pg_name (i := 4) sc_L_ideal.nd rfl (.inl rfl)))) (fun _ _ _ _ _ => (t_one (b_cmp (op_eqD hr.units) (v_eq rfl) (e_bin op_modN v_mod (e_callTy call_int1 v_int1 rfl T.b_int (by decide +kernel) (a_cons (e_bin op_sub v_sub (e_bin op_mulX v_mul (e_var (by decide) (pv 4)) (e_var (by decide) (pv 4))) (e_var (by decide) (pv 1))) a_nil)) (e_bin op_mulX v_mul e_int (e_var (by decide) (pv 3)))) e_int (nomark _)))) (fun _ _ _ _ _ => (e_var (by decide) (pv 4))))
 (ss_one (s_ret (e_tup (a_cons (e_ix ix_seq (v_ix rfl) (e_lst (a_cons e_int (a_cons e_int (a_cons e_int (a_cons e_int (a_cons e_int a_nil)))))) (e_callS (ok_L_draw T) hr rfl rfl takes_ok rfl (pv 0) (a_cons e_int a_nil) rfl) (fun _ _ => rfl)) (a_cons (e_var (by decide) (pv 3)) (a_cons (e_ix ix_seq (v_ix rfl) (e_var (by decide) (pv 5)) (e_callS (ok_L_draw T) hr rfl rfl takes_ok rfl (pv 0) (a_cons (e_callB call_len (v_len rfl) rfl T.b_len (by decide +kernel) (a_cons (e_var (by decide) (pv 5)) a_nil)) a_nil) rfl) (fun _ _ => rfl)) a_nil)))))))))
/-! ### _law_is_ideal -/
abbrev s_L_is_ideal : Stmt := topS 61
abbrev N_L_is_ideal : List PySem.Str := ["size", "value", "part", "k", "a", "b"]
theorem sc_L_is_ideal : FnScope N_L_is_ideal ["size", "value"] (defScope s_L_is_ideal) := ⟨rfl, rfl, rfl, by decide +kernel, rfl, by decide +kernel, by decide +kernel⟩
noncomputable def d_L_is_ideal : List D → Res D := runF 6 2
 ((sSeq (sIf (bOr (bNot (bTru (eUn (fIsi "tuple") (eVar 1)))) (bBin vNe (eArgs fLen (aCons (eVar 1) aNil)) (eC (.int 3)))) (sRet (eC (.bool false))) sNext)
 (sSeq (sFor (iSeq (eVar 1)) (gN 2) (sIf (bOr (bNot (bTru (eUn (fIsi "int") (eVar 2)))) (bTru (eUn (fIsi "bool") (eVar 2)))) (sRet (eC (.bool false))) sNext))
 (sSeq (sAsg (eVar 1) (gT (gsCons (gN 3) (gsCons (gN 4) (gsCons (gN 5) gsNil)))))
 (sRet (eAnd (eOfB (bBin cGt (eVar 3) (eC (.int 0)))) (eAnd (eOfB (bBin cGt (eVar 4) (eC (.int 0)))) (eAnd (eOfB (bBin cGe (eVar 5) (eC (.int 0)))) (eAnd (eOfB (bBin cLt (eVar 5) (eBin vMul (eC (.int 2)) (eVar 4)))) (eOfB (bBin vEq (eBin vMod (eArgs fInt (aCons (eBin vSub (eBin vMul (eVar 5) (eVar 5)) (eVar 0)) aNil)) (eBin vMul (eC (.int 4)) (eVar 4))) (eC (.int 0)))))))))))))
theorem ok_L_is_ideal (T : Txt K mg) : FnD P w K mg base "_law_is_ideal" 1 2 d_L_is_ideal :=
 own_P (mn := ⟨[], none⟩) (mb := ⟨[], none⟩) (mc := ⟨[], none⟩) T.f_L_is_ideal sc_L_is_ideal rfl fun f F0 cdv A outer s H E hr =>
 (ss_cons (m1 := ⟨[], none⟩) (s_if (b_w (bw_or (b_not (b_tru (e_isi tyOk_tuple rfl rfl T.b_isinstance rfl T.b_tuple (by decide +kernel) (e_var (by decide) (pv 1))) rfl)) (bw_or1 (b_cmp (op_neD hr.units) (v_ne rfl) (e_callB call_len (v_len rfl) rfl T.b_len (by decide +kernel) (a_cons (e_var (by decide) (pv 1)) a_nil)) e_int (nomark _))))) (ss_one (s_ret e_bl)) ss_nil)
 (ss_cons (m1 := ⟨[], none⟩) (s_for pass_ok rfl (i_seq rfl (e_var (by decide) (pv 1))) (g_name (pg_name (i := 2) sc_L_is_ideal.nd rfl (.inl rfl))) (ss_one (s_if (b_w (bw_or (b_not (b_tru (e_isi tyOk_int rfl rfl T.b_isinstance rfl T.b_int (by decide +kernel) (e_var (by decide) (pv 2))) rfl)) (bw_or1 (b_tru (e_isi tyOk_bool rfl rfl T.b_isinstance rfl T.b_bool (by decide +kernel) (e_var (by decide) (pv 2))) rfl)))) (ss_one (s_ret e_bl)) ss_nil)))
 (ss_cons (m1 := ⟨[], none⟩) (s_asg (e_var (by decide) (pv 1)) (g_tup rfl rfl (gs_cons (g_name (pg_name (i := 3) sc_L_is_ideal.nd rfl (.inl rfl))) (gs_cons (g_name (pg_name (i := 4) sc_L_is_ideal.nd rfl (.inl rfl))) (gs_cons (g_name (pg_name (i := 5) sc_L_is_ideal.nd rfl (.inl rfl))) gs_nil))) (gl_cons (gl_cons (gl_cons gl_nil)))))
 (ss_one (s_ret (e_and (e_cmp op_gt v_gt (e_var (by decide) (pv 3)) e_int (nomark _)) (e_and (e_cmp op_gt v_gt (e_var (by decide) (pv 4)) e_int (nomark _)) (e_and (e_cmp op_ge v_ge (e_var (by decide) (pv 5)) e_int (nomark _)) (e_and (e_cmp op_lt v_lt (e_var (by decide) (pv 5)) (e_bin op_mulX v_mul e_int (e_var (by decide) (pv 4))) (nomark _)) (e_one (e_cmp (op_eqD hr.units) (v_eq rfl) (e_bin op_modN v_mod (e_callTy call_int1 v_int1 rfl T.b_int (by decide +kernel) (a_cons (e_bin op_sub v_sub (e_bin op_mulX v_mul (e_var (by decide) (pv 5)) (e_var (by decide) (pv 5))) (e_var (by decide) (pv 0))) a_nil)) (e_bin op_mulX v_mul e_int (e_var (by decide) (pv 4)))) e_int (nomark _))))))))))))
/-! ### _law_holds -/
abbrev s_L_holds : Stmt := topS 62
abbrev N_L_holds : List PySem.Str := ["state", "size", "one", "two", "both", "more", "less", "made", "k", "x", "y", "part", "square", "plain"]
theorem sc_L_holds : FnScope N_L_holds ["state", "size", "one", "two"] (defScope s_L_holds) := ⟨rfl, rfl, rfl, by decide +kernel, rfl, by decide +kernel, by decide +kernel⟩
noncomputable def d_L_holds : List D → MM D := runS 14 4
 ((sSeq (sAsg (eCall d_ideal_product (aCons (eVar 1) (aCons (eVar 2) (aCons (eVar 3) aNil)))) (gN 4))
 (sSeq (sAsg (eCall d_ideal_sum (aCons (eVar 1) (aCons (eVar 2) (aCons (eVar 3) aNil)))) (gN 5))
 (sSeq (sAsg (eCall d_common_ideal (aCons (eVar 1) (aCons (eVar 2) (aCons (eVar 3) aNil)))) (gN 6))
 (sSeq (sFor (iSeq (eLst (aCons (eVar 4) (aCons (eVar 5) (aCons (eVar 6) (aCons (eCall d_ideal_conjugate (aCons (eVar 2) aNil)) aNil)))))) (gN 7) (sIf (bNot (bTru (eCall d_L_is_ideal (aCons (eVar 1) (aCons (eVar 7) aNil))))) (sRet (eC (.bool false))) sNext))
 (sSeq (sIf (bBin vNe (eBin vMul (eCall d_ideal_norm (aCons (eVar 6) aNil)) (eCall d_ideal_norm (aCons (eVar 5) aNil))) (eBin vMul (eCall d_ideal_norm (aCons (eVar 2) aNil)) (eCall d_ideal_norm (aCons (eVar 3) aNil)))) (sRet (eC (.bool false))) sNext)
 (sSeq (sFor (iArgs iRange (aCons (eC (.int 6)) aNil)) (gN 8) (sSeq (sAsg (eCallS d_L_member (aCons (eVar 1) (aCons (eVar 2) aNil))) (gN 9))
 (sSeq (sAsg (eCallS d_L_member (aCons (eVar 1) (aCons (eVar 3) aNil))) (gN 10))
 (sSeq (sIf (bOr (bNot (bTru (eCall d_L_ideal_has (aCons (eVar 1) (aCons (eVar 4) (aCons (eCall d_L_times (aCons (eVar 1) (aCons (eVar 9) (aCons (eVar 10) aNil)))) aNil)))))) (bNot (bTru (eCall d_L_ideal_has (aCons (eVar 1) (aCons (eVar 5) (aCons (eTup (aCons (eBin vAdd (eBin vIx (eVar 9) (eC (.int 0))) (eBin vIx (eVar 10) (eC (.int 0)))) (aCons (eBin vAdd (eBin vIx (eVar 9) (eC (.int 1))) (eBin vIx (eVar 10) (eC (.int 1)))) aNil))) aNil))))))) (sRet (eC (.bool false))) sNext)
 (sSeq (sIf (bOr (bNot (bTru (eCall d_L_ideal_has (aCons (eVar 1) (aCons (eCall d_ideal_conjugate (aCons (eVar 2) aNil)) (aCons (eTup (aCons (eBin vIx (eVar 9) (eC (.int 0))) (aCons (eBin vSub (eC (.int 0)) (eBin vIx (eVar 9) (eC (.int 1)))) aNil))) aNil)))))) (bBin vNe (eCall d_L_ideal_has (aCons (eVar 1) (aCons (eVar 3) (aCons (eVar 9) aNil)))) (eCall d_L_ideal_has (aCons (eVar 1) (aCons (eVar 6) (aCons (eVar 9) aNil)))))) (sRet (eC (.bool false))) sNext)
 (sSeq (sAsg (eCallS d_L_member (aCons (eVar 1) (aCons (eVar 4) aNil))) (gN 11))
 (sIf (bOr (bNot (bTru (eCall d_L_ideal_has (aCons (eVar 1) (aCons (eVar 6) (aCons (eVar 11) aNil)))))) (bNot (bTru (eCall d_L_ideal_has (aCons (eVar 1) (aCons (eVar 2) (aCons (eCallS d_L_member (aCons (eVar 1) (aCons (eVar 6) aNil))) aNil))))))) (sRet (eC (.bool false))) sNext)))))))
 (sSeq (sIf (bOr (bBin vNotB (eCall d_is_within (aCons (eVar 1) (aCons (eVar 4) (aCons (eVar 2) aNil)))) (eC (.bool true))) (bOr (bNot (bTru (eCall d_is_within (aCons (eVar 1) (aCons (eVar 2) (aCons (eVar 5) aNil)))))) (bBin vNe (eCall d_is_within (aCons (eVar 1) (aCons (eVar 2) (aCons (eVar 3) aNil)))) (eOfB (bBin vEq (eVar 6) (eVar 2)))))) (sRet (eC (.bool false))) sNext)
 (sSeq (sIf (bOr (bBin vNe (eCall d_ideal_product (aCons (eVar 1) (aCons (eVar 3) (aCons (eVar 2) aNil)))) (eVar 4)) (bBin vNe (eCall d_ideal_product (aCons (eVar 1) (aCons (eVar 2) (aCons (eCall d_whole_ideal (aCons (eVar 1) aNil)) aNil)))) (eVar 2))) (sRet (eC (.bool false))) sNext)
 (sSeq (sAsg (eCall d_ideal_product (aCons (eVar 1) (aCons (eVar 2) (aCons (eCall d_ideal_conjugate (aCons (eVar 2) aNil)) aNil)))) (gN 12))
 (sSeq (sAsg (eOfB (bBin vEq (eVar 12) (eCall d_ideal_of_number (aCons (eVar 1) (aCons (eCall d_ideal_norm (aCons (eVar 2) aNil)) aNil))))) (gN 13))
 (sSeq (sIf (bNot (bTru (eCall d_L_truth (aCons (eCall d_is_invertible (aCons (eVar 1) (aCons (eVar 2) aNil))) (aCons (eVar 13) aNil))))) (sRet (eC (.bool false))) sNext)
 (sSeq (sIf (bAnd (bTru (eVar 13)) (bOr (bBin vNe (eCall d_ideal_norm (aCons (eVar 4) aNil)) (eBin vMul (eCall d_ideal_norm (aCons (eVar 2) aNil)) (eCall d_ideal_norm (aCons (eVar 3) aNil)))) (bBin vNe (eCall d_ideal_quotient (aCons (eVar 1) (aCons (eVar 4) (aCons (eVar 2) aNil)))) (eVar 3)))) (sRet (eC (.bool false))) sNext)
 (sRet (eAnd (eOfB (bBin vEq (eCall d_ideal_power (aCons (eVar 1) (aCons (eVar 2) (aCons (eC (.int 2)) aNil)))) (eCall d_ideal_product (aCons (eVar 1) (aCons (eVar 2) (aCons (eVar 2) aNil)))))) (eOfB (bBin vEq (eCall d_ideal_power (aCons (eVar 1) (aCons (eVar 2) (aCons (eC (.int 0)) aNil)))) (eCall d_whole_ideal (aCons (eVar 1) aNil)))))))))))))))))))
theorem ok_L_holds (T : Txt K mg) : FnS P w K mg base "_law_holds" 8 4 d_L_holds :=
 own_S (mn := ⟨[], some 0⟩) (mb := ⟨[], none⟩) (mc := ⟨[], none⟩) T.f_L_holds sc_L_holds rfl fun f F0 b cdv A outer s H E hr =>
 (ss_cons (m1 := ⟨[], some 0⟩) (s_set (e_call (ok_ideal_product T) hr rfl rfl takes_ok (a_cons (e_var (by decide) (pv 1)) (a_cons (e_var (by decide) (pv 2)) (a_cons (e_var (by decide) (pv 3)) a_nil))) rfl) (fun h => ps_set (i := 4) sc_L_holds.nd rfl (.inl rfl) h))
 (ss_cons (m1 := ⟨[], some 0⟩) (s_set (e_call (ok_ideal_sum T) hr rfl rfl takes_ok (a_cons (e_var (by decide) (pv 1)) (a_cons (e_var (by decide) (pv 2)) (a_cons (e_var (by decide) (pv 3)) a_nil))) rfl) (fun h => ps_set (i := 5) sc_L_holds.nd rfl (.inl rfl) h))
 (ss_cons (m1 := ⟨[], some 0⟩) (s_set (e_call (ok_common_ideal T) hr rfl rfl takes_ok (a_cons (e_var (by decide) (pv 1)) (a_cons (e_var (by decide) (pv 2)) (a_cons (e_var (by decide) (pv 3)) a_nil))) rfl) (fun h => ps_set (i := 6) sc_L_holds.nd rfl (.inl rfl) h))
 (ss_cons (m1 := ⟨[], some 0⟩) (s_for pass_ok rfl (i_seq rfl (e_lst (a_cons (e_var (by decide) (pv 4)) (a_cons (e_var (by decide) (pv 5)) (a_cons (e_var (by decide) (pv 6)) (a_cons (e_call (ok_ideal_conjugate T) hr rfl rfl takes_ok (a_cons (e_var (by decide) (pv 2)) a_nil) rfl) a_nil)))))) (g_name (pg_name (i := 7) sc_L_holds.nd rfl (.inl rfl))) (ss_one (s_if (b_not (b_tru (e_call (ok_L_is_ideal T) hr rfl rfl takes_ok (a_cons (e_var (by decide) (pv 1)) (a_cons (e_var (by decide) (pv 7)) a_nil)) rfl) rfl)) (ss_one (s_ret e_bl)) ss_nil)))
 (ss_cons (m1 := ⟨[], some 0⟩) (s_if (b_cmp (op_neD hr.units) (v_ne rfl) (e_bin op_mulX v_mul (e_call (ok_ideal_norm T) hr rfl rfl takes_ok (a_cons (e_var (by decide) (pv 6)) a_nil) rfl) (e_call (ok_ideal_norm T) hr rfl rfl takes_ok (a_cons (e_var (by decide) (pv 5)) a_nil) rfl)) (e_bin op_mulX v_mul (e_call (ok_ideal_norm T) hr rfl rfl takes_ok (a_cons (e_var (by decide) (pv 2)) a_nil) rfl) (e_call (ok_ideal_norm T) hr rfl rfl takes_ok (a_cons (e_var (by decide) (pv 3)) a_nil) rfl)) (nomark _)) (ss_one (s_ret e_bl)) ss_nil)
 (ss_cons (m1 := ⟨[], some 0⟩) (s_for pass_ok rfl (i_range1 rfl T.b_range (a_cons e_int a_nil)) (g_name (pg_name (i := 8) sc_L_holds.nd rfl (.inl rfl))) (ss_cons (m1 := ⟨[], some 0⟩) (s_set (e_callS (ok_L_member T) hr rfl rfl takes_ok rfl (pv 0) (a_cons (e_var (by decide) (pv 1)) (a_cons (e_var (by decide) (pv 2)) a_nil)) rfl) (fun h => ps_set (i := 9) sc_L_holds.nd rfl (.inl rfl) h))
 (ss_cons (m1 := ⟨[], some 0⟩) (s_set (e_callS (ok_L_member T) hr rfl rfl takes_ok rfl (pv 0) (a_cons (e_var (by decide) (pv 1)) (a_cons (e_var (by decide) (pv 3)) a_nil)) rfl) (fun h => ps_set (i := 10) sc_L_holds.nd rfl (.inl rfl) h))
 (ss_cons (m1 := ⟨[], some 0⟩) (s_if (b_w (bw_or (b_not (b_tru (e_call (ok_L_ideal_has T) hr rfl rfl takes_ok (a_cons (e_var (by decide) (pv 1)) (a_cons (e_var (by decide) (pv 4)) (a_cons (e_call (ok_L_times T) hr rfl rfl takes_ok (a_cons (e_var (by decide) (pv 1)) (a_cons (e_var (by decide) (pv 9)) (a_cons (e_var (by decide) (pv 10)) a_nil))) rfl) a_nil))) rfl) rfl)) (bw_or1 (b_not (b_tru (e_call (ok_L_ideal_has T) hr rfl rfl takes_ok (a_cons (e_var (by decide) (pv 1)) (a_cons (e_var (by decide) (pv 5)) (a_cons (e_tup (a_cons (e_bin op_addX (v_add rfl) (e_ix ix_seq (v_ix rfl) (e_var (by decide) (pv 9)) e_int (fun _ _ => rfl)) (e_ix ix_seq (v_ix rfl) (e_var (by decide) (pv 10)) e_int (fun _ _ => rfl))) (a_cons (e_bin op_addX (v_add rfl) (e_ix ix_seq (v_ix rfl) (e_var (by decide) (pv 9)) e_int (fun _ _ => rfl)) (e_ix ix_seq (v_ix rfl) (e_var (by decide) (pv 10)) e_int (fun _ _ => rfl))) a_nil))) a_nil))) rfl) rfl))))) (ss_one (s_ret e_bl)) ss_nil)
 (ss_cons (m1 := ⟨[], some 0⟩) (s_if (b_w (bw_or (b_not (b_tru (e_call (ok_L_ideal_has T) hr rfl rfl takes_ok (a_cons (e_var (by decide) (pv 1)) (a_cons (e_call (ok_ideal_conjugate T) hr rfl rfl takes_ok (a_cons (e_var (by decide) (pv 2)) a_nil) rfl) (a_cons (e_tup (a_cons (e_ix ix_seq (v_ix rfl) (e_var (by decide) (pv 9)) e_int (fun _ _ => rfl)) (a_cons (e_bin op_sub v_sub e_int (e_ix ix_seq (v_ix rfl) (e_var (by decide) (pv 9)) e_int (fun _ _ => rfl))) a_nil))) a_nil))) rfl) rfl)) (bw_or1 (b_cmp (op_neD hr.units) (v_ne rfl) (e_call (ok_L_ideal_has T) hr rfl rfl takes_ok (a_cons (e_var (by decide) (pv 1)) (a_cons (e_var (by decide) (pv 3)) (a_cons (e_var (by decide) (pv 9)) a_nil))) rfl) (e_call (ok_L_ideal_has T) hr rfl rfl takes_ok (a_cons (e_var (by decide) (pv 1)) (a_cons (e_var (by decide) (pv 6)) (a_cons (e_var (by decide) (pv 9)) a_nil))) rfl) (nomark _))))) (ss_one (s_ret e_bl)) ss_nil)
 (ss_cons (m1 := ⟨[], some 0⟩) (s_set (e_callS (ok_L_member T) hr rfl rfl takes_ok rfl (pv 0) (a_cons (e_var (by decide) (pv 1)) (a_cons (e_var (by decide) (pv 4)) a_nil)) rfl) (fun h => ps_set (i := 11) sc_L_holds.nd rfl (.inl rfl) h))
 (ss_one (s_if (b_w (bw_or (b_not (b_tru (e_call (ok_L_ideal_has T) hr rfl rfl takes_ok (a_cons (e_var (by decide) (pv 1)) (a_cons (e_var (by decide) (pv 6)) (a_cons (e_var (by decide) (pv 11)) a_nil))) rfl) rfl)) (bw_or1 (b_not (b_tru (e_call (ok_L_ideal_has T) hr rfl rfl takes_ok (a_cons (e_var (by decide) (pv 1)) (a_cons (e_var (by decide) (pv 2)) (a_cons (e_callS (ok_L_member T) hr rfl rfl takes_ok rfl (pv 0) (a_cons (e_var (by decide) (pv 1)) (a_cons (e_var (by decide) (pv 6)) a_nil)) rfl) a_nil))) rfl) rfl))))) (ss_one (s_ret e_bl)) ss_nil))))))))
 (ss_cons (m1 := ⟨[], some 0⟩) (s_if (b_w (bw_or (b_cmp op_notBl v_notB (e_call (ok_is_within T) hr rfl rfl takes_ok (a_cons (e_var (by decide) (pv 1)) (a_cons (e_var (by decide) (pv 4)) (a_cons (e_var (by decide) (pv 2)) a_nil))) rfl) e_bl (nomark _)) (bw_or (b_not (b_tru (e_call (ok_is_within T) hr rfl rfl takes_ok (a_cons (e_var (by decide) (pv 1)) (a_cons (e_var (by decide) (pv 2)) (a_cons (e_var (by decide) (pv 5)) a_nil))) rfl) rfl)) (bw_or1 (b_cmp (op_neD hr.units) (v_ne rfl) (e_call (ok_is_within T) hr rfl rfl takes_ok (a_cons (e_var (by decide) (pv 1)) (a_cons (e_var (by decide) (pv 2)) (a_cons (e_var (by decide) (pv 3)) a_nil))) rfl) (e_cmp (op_eqD hr.units) (v_eq rfl) (e_var (by decide) (pv 6)) (e_var (by decide) (pv 2)) (nomark _)) (nomark _)))))) (ss_one (s_ret e_bl)) ss_nil)
 (ss_cons (m1 := ⟨[], some 0⟩) (s_if (b_w (bw_or (b_cmp (op_neD hr.units) (v_ne rfl) (e_call (ok_ideal_product T) hr rfl rfl takes_ok (a_cons (e_var (by decide) (pv 1)) (a_cons (e_var (by decide) (pv 3)) (a_cons (e_var (by decide) (pv 2)) a_nil))) rfl) (e_var (by decide) (pv 4)) (nomark _)) (bw_or1 (b_cmp (op_neD hr.units) (v_ne rfl) (e_call (ok_ideal_product T) hr rfl rfl takes_ok (a_cons (e_var (by decide) (pv 1)) (a_cons (e_var (by decide) (pv 2)) (a_cons (e_call (ok_whole_ideal T) hr rfl rfl takes_ok (a_cons (e_var (by decide) (pv 1)) a_nil) rfl) a_nil))) rfl) (e_var (by decide) (pv 2)) (nomark _))))) (ss_one (s_ret e_bl)) ss_nil)
 (ss_cons (m1 := ⟨[], some 0⟩) (s_set (e_call (ok_ideal_product T) hr rfl rfl takes_ok (a_cons (e_var (by decide) (pv 1)) (a_cons (e_var (by decide) (pv 2)) (a_cons (e_call (ok_ideal_conjugate T) hr rfl rfl takes_ok (a_cons (e_var (by decide) (pv 2)) a_nil) rfl) a_nil))) rfl) (fun h => ps_set (i := 12) sc_L_holds.nd rfl (.inl rfl) h))
 (ss_cons (m1 := ⟨[], some 0⟩) (s_set (e_cmp (op_eqD hr.units) (v_eq rfl) (e_var (by decide) (pv 12)) (e_call (ok_ideal_of_number T) hr rfl rfl takes_ok (a_cons (e_var (by decide) (pv 1)) (a_cons (e_call (ok_ideal_norm T) hr rfl rfl takes_ok (a_cons (e_var (by decide) (pv 2)) a_nil) rfl) a_nil)) rfl) (nomark _)) (fun h => ps_set (i := 13) sc_L_holds.nd rfl (.inl rfl) h))
 (ss_cons (m1 := ⟨[], some 0⟩) (s_if (b_not (b_tru (e_call (ok_L_truth T) hr rfl rfl takes_ok (a_cons (e_call (ok_is_invertible T) hr rfl rfl takes_ok (a_cons (e_var (by decide) (pv 1)) (a_cons (e_var (by decide) (pv 2)) a_nil)) rfl) (a_cons (e_var (by decide) (pv 13)) a_nil)) rfl) rfl)) (ss_one (s_ret e_bl)) ss_nil)
 (ss_cons (m1 := ⟨[], some 0⟩) (s_if (b_w (bw_and (b_tru (e_var (by decide) (pv 13)) rfl) (bw_and1 (b_w (bw_or (b_cmp (op_neD hr.units) (v_ne rfl) (e_call (ok_ideal_norm T) hr rfl rfl takes_ok (a_cons (e_var (by decide) (pv 4)) a_nil) rfl) (e_bin op_mulX v_mul (e_call (ok_ideal_norm T) hr rfl rfl takes_ok (a_cons (e_var (by decide) (pv 2)) a_nil) rfl) (e_call (ok_ideal_norm T) hr rfl rfl takes_ok (a_cons (e_var (by decide) (pv 3)) a_nil) rfl)) (nomark _)) (bw_or1 (b_cmp (op_neD hr.units) (v_ne rfl) (e_call (ok_ideal_quotient T) hr rfl rfl takes_ok (a_cons (e_var (by decide) (pv 1)) (a_cons (e_var (by decide) (pv 4)) (a_cons (e_var (by decide) (pv 2)) a_nil))) rfl) (e_var (by decide) (pv 3)) (nomark _)))))))) (ss_one (s_ret e_bl)) ss_nil)
 (ss_one (s_ret (e_and (e_cmp (op_eqD hr.units) (v_eq rfl) (e_call (ok_ideal_power T) hr rfl rfl takes_ok (a_cons (e_var (by decide) (pv 1)) (a_cons (e_var (by decide) (pv 2)) (a_cons e_int a_nil))) rfl) (e_call (ok_ideal_product T) hr rfl rfl takes_ok (a_cons (e_var (by decide) (pv 1)) (a_cons (e_var (by decide) (pv 2)) (a_cons (e_var (by decide) (pv 2)) a_nil))) rfl) (nomark _)) (e_one (e_cmp (op_eqD hr.units) (v_eq rfl) (e_call (ok_ideal_power T) hr rfl rfl takes_ok (a_cons (e_var (by decide) (pv 1)) (a_cons (e_var (by decide) (pv 2)) (a_cons e_int a_nil))) rfl) (e_call (ok_whole_ideal T) hr rfl rfl takes_ok (a_cons (e_var (by decide) (pv 1)) a_nil) rfl) (nomark _))))))))))))))))))
/-! ### law -/
abbrev s_law : Stmt := topS 63
abbrev N_law : List PySem.Str := ["script", "state", "size", "one", "two", "first", "second", "x", "made", "k", "pair", "rest", "norm", "due", "a", "b", "wrong", "spoiled"]
theorem sc_law : FnScope N_law ["script"] (defScope s_law) := ⟨rfl, rfl, rfl, by decide +kernel, rfl, by decide +kernel, by decide +kernel⟩
noncomputable def db_law : Ev → MM Fl := (sSeq (sAsg (eCallS d_L_disc aNil) (gN 2))
 (sSeq (sAsg (eCallS d_L_ideal (aCons (eVar 2) (aCons (eC (.int 40)) aNil))) (gN 3))
 (sSeq (sAsg (eCallS d_L_ideal (aCons (eVar 2) (aCons (eC (.int 30)) aNil))) (gN 4))
 (sSeq (sIf (bNot (bTru (eCallS d_L_holds (aCons (eVar 2) (aCons (eVar 3) (aCons (eVar 4) aNil)))))) (sRet (eC (.bool false))) sNext)
 (sSeq (sAsg (eCall d_members_of (aCons (eVar 3) aNil)) (gT (gsCons (gN 5) (gsCons (gN 6) gsNil))))
 (sSeq (sIf (bOr (bBin vNe (eVar 5) (eTup (aCons (eBin vMul (eBin vMul (eC (.int 2)) (eBin vIx (eVar 3) (eC (.int 0)))) (eBin vIx (eVar 3) (eC (.int 1)))) (aCons (eC (.int 0)) aNil)))) (bOr (bBin vNe (eVar 6) (eTup (aCons (eBin vMul (eBin vIx (eVar 3) (eC (.int 0))) (eBin vIx (eVar 3) (eC (.int 2)))) (aCons (eBin vIx (eVar 3) (eC (.int 0))) aNil)))) (bBin vNe (eCall d_ideal_of_members (aCons (eVar 2) (aCons (eLst (aCons (eVar 5) (aCons (eVar 6) aNil))) aNil))) (eVar 3)))) (sRet (eC (.bool false))) sNext)
 (sSeq (sIf (bBin vNe (eCall d_conjugate_members (aCons (eVar 3) aNil)) (eTup (aCons (eTup (aCons (eBin vIx (eVar 5) (eC (.int 0))) (aCons (eC (.int 0)) aNil))) (aCons (eTup (aCons (eBin vIx (eVar 6) (eC (.int 0))) (aCons (eBin vSub (eC (.int 0)) (eBin vIx (eVar 6) (eC (.int 1)))) aNil))) aNil)))) (sRet (eC (.bool false))) sNext)
 (sSeq (sAsg (eCallS d_L_member (aCons (eVar 2) (aCons (eTup (aCons (eC (.int 1)) (aCons (eC (.int 1)) (aCons (eBin vMod (eArgs fInt (aCons (eVar 2) aNil)) (eC (.int 2))) aNil)))) aNil))) (gN 7))
 (sSeq (sIf (bAnd (bBin vNe (eVar 7) (eTup (aCons (eC (.int 0)) (aCons (eC (.int 0)) aNil)))) (bBin vNe (eCall d_L_norm (aCons (eVar 2) (aCons (eVar 7) aNil))) (eC (.int 0)))) (sSeq (sAsg (eCall d_principal_ideal (aCons (eVar 2) (aCons (eVar 7) aNil))) (gN 8))
 (sSeq (sIf (bOr (bBin vNe (eCall d_ideal_norm (aCons (eVar 8) aNil)) (eArgs fAbs (aCons (eCall d_L_norm (aCons (eVar 2) (aCons (eVar 7) aNil))) aNil))) (bNot (bTru (eCall d_L_ideal_has (aCons (eVar 2) (aCons (eVar 8) (aCons (eCall d_L_times (aCons (eVar 2) (aCons (eVar 7) (aCons (eTup (aCons (eBin vMod (eArgs fInt (aCons (eVar 2) aNil)) (eC (.int 2))) (aCons (eC (.int 1)) aNil))) aNil)))) aNil))))))) (sRet (eC (.bool false))) sNext)
 (sIf (bBin vNe (eCall d_ideal_of_members (aCons (eVar 2) (aCons (eLst (aCons (eVar 7) (aCons (eTup (aCons (eC (.int 6)) (aCons (eC (.int 0)) aNil))) aNil))) aNil))) (eCall d_ideal_sum (aCons (eVar 2) (aCons (eVar 8) (aCons (eCall d_ideal_of_number (aCons (eVar 2) (aCons (eC (.int 3)) aNil))) aNil))))) (sRet (eC (.bool false))) sNext))) sNext)
 (sSeq (sFor (iArgs iRange (aCons (eC (.int 5)) aNil)) (gN 9) (sSeq (sAsg (eTup (aCons (eBin vSub (eCallS d_L_draw (aCons (eC (.int 60)) aNil)) (eC (.int 30))) (aCons (eBin vSub (eCallS d_L_draw (aCons (eC (.int 20)) aNil)) (eC (.int 10))) aNil))) (gN 10))
 (sSeq (sIf (bNot (bTru (eCall d_L_truth (aCons (eCall d_has_member (aCons (eVar 2) (aCons (eVar 3) (aCons (eVar 10) aNil)))) (aCons (eCall d_L_ideal_has (aCons (eVar 2) (aCons (eVar 3) (aCons (eVar 10) aNil)))) aNil))))) (sRet (eC (.bool false))) sNext)
 (sIf (bBin vEq (eBin vMod (eArgs fInt (aCons (eBin vSub (eBin vIx (eVar 10) (eC (.int 0))) (eBin vMul (eBin vIx (eVar 10) (eC (.int 1))) (eVar 2))) aNil)) (eC (.int 2))) (eC (.int 0))) (sSeq (sAsg (eCall d_remainder_of (aCons (eVar 2) (aCons (eVar 3) (aCons (eVar 10) aNil)))) (gN 11))
 (sSeq (sIf (bNot (bTru (eCall d_L_ideal_has (aCons (eVar 2) (aCons (eVar 3) (aCons (eTup (aCons (eBin vSub (eBin vIx (eVar 10) (eC (.int 0))) (eBin vIx (eVar 11) (eC (.int 0)))) (aCons (eBin vSub (eBin vIx (eVar 10) (eC (.int 1))) (eBin vIx (eVar 11) (eC (.int 1)))) aNil))) aNil)))))) (sRet (eC (.bool false))) sNext)
 (sIf (bOr (bBin cLt (eBin vIx (eVar 11) (eC (.int 1))) (eC (.int 0))) (bOr (bBin cGe (eBin vIx (eVar 11) (eC (.int 1))) (eBin vIx (eVar 3) (eC (.int 0)))) (bOr (bBin cLt (eBin vIx (eVar 11) (eC (.int 0))) (eC (.int 0))) (bBin cGe (eBin vIx (eVar 11) (eC (.int 0))) (eBin vMul (eBin vMul (eC (.int 2)) (eBin vIx (eVar 3) (eC (.int 0)))) (eBin vIx (eVar 3) (eC (.int 1)))))))) (sRet (eC (.bool false))) sNext))) sNext))))
 (sSeq (sAsg (eBin vAdd (eC (.int 1)) (eCallS d_L_draw (aCons (eC (.int 40)) aNil))) (gN 12))
 (sSeq (sAsg (eLst aNil) (gN 13))
 (sSeq (sFor (iArgs iRange (aCons (eC (.int 1)) (aCons (eBin vAdd (eVar 12) (eC (.int 1))) aNil))) (gN 9) (sIf (bBin vEq (eBin vMod (eArgs fInt (aCons (eVar 12) aNil)) (eBin vMul (eVar 9) (eVar 9))) (eC (.int 0))) (sSeq (sAsg (eBin vFdiv (eVar 12) (eBin vMul (eVar 9) (eVar 9))) (gN 14))
 (sAsg (eBin vAdd (eVar 13) (eOfF (lcD (iArgs iRange (aCons (eBin vMul (eC (.int 2)) (eVar 14)) aNil)) (gN 15) (bBin vEq (eBin vMod (eArgs fInt (aCons (eBin vSub (eBin vMul (eVar 15) (eVar 15)) (eVar 2)) aNil)) (eBin vMul (eC (.int 4)) (eVar 14))) (eC (.int 0))) (eTup (aCons (eVar 9) (aCons (eVar 14) (aCons (eVar 15) aNil)))) [15]))) (gN 13))) sNext))
 (sSeq (sIf (bOr (bBin vNe (eCall d_ideals_of_norm (aCons (eVar 2) (aCons (eVar 12) aNil))) (eArgs fSortD (aCons (eVar 13) aNil))) (bNot (bTru (eCall d_L_truth (aCons (eCall d_share_no_prime (aCons (eVar 3) (aCons (eVar 4) aNil))) (aCons (eOfB (bBin vEq (eCall d_L_common (aCons (eCall d_ideal_norm (aCons (eVar 3) aNil)) (aCons (eCall d_ideal_norm (aCons (eVar 4) aNil)) aNil))) (eC (.int 1)))) aNil)))))) (sRet (eC (.bool false))) sNext)
 (sSeq (sAsg (eLst (aCons (eC .none) (aCons (eBin vAdd (eVar 3) (eTup (aCons (eC (.int 1)) aNil))) (aCons (eTup (aCons (eBin vIx (eVar 3) (eC (.int 0))) (aCons (eBin vIx (eVar 3) (eC (.int 1))) (aCons (eBin vAdd (eBin vIx (eVar 3) (eC (.int 2))) (eBin vMul (eC (.int 2)) (eBin vIx (eVar 3) (eC (.int 1))))) aNil)))) (aCons (eTup (aCons (eC (.int 0)) (aCons (eC (.int 1)) (aCons (eC (.int 0)) aNil)))) (aCons (eTup (aCons (eBin vIx (eVar 3) (eC (.int 0))) (aCons (eBin vIx (eVar 3) (eC (.int 1))) (aCons (eBin vAdd (eBin vIx (eVar 3) (eC (.int 2))) (eC (.int 1))) aNil)))) (aCons (eArgs fList (aCons (eVar 3) aNil)) (aCons (eTup (aCons (eC (.bool true)) (aCons (eC (.int 1)) (aCons (eC (.int 1)) aNil)))) (aCons (eTup (aCons (eC (.int 1)) (aCons (eC (.int 0)) (aCons (eC (.int 0)) aNil)))) (aCons (eTup (aCons (eC (.int 1)) (aCons (eUn vNeg (eC (.int 1))) (aCons (eC (.int 1)) aNil)))) aNil)))))))))) (gN 16))
 (sSeq (sAsg (eBin vIx (eVar 16) (eCallS d_L_draw (aCons (eArgs fLen (aCons (eVar 16) aNil)) aNil))) (gN 17))
 (sRet (eCall d_L_truth (aCons (eCall d_is_ideal (aCons (eVar 2) (aCons (eVar 17) aNil))) (aCons (eCall d_L_is_ideal (aCons (eVar 2) (aCons (eVar 17) aNil))) aNil))))))))))))))))))))
theorem der_law (T : Txt K mg) (f : Addr) (H0 F0 : Hp) (b : Addr) (cdv : Value) (A : Around) (outer : List Env) (s : Shared) (H : Hp) (E : XK) (hr : Room 8 (A.deeper (envOfC "law" (defScope s_law) s.heap.objs.size f cdv))) :
  PSs (cxOf (L2.CX P w) P w K mg base N_law "law" (defScope s_law) f cdv A outer s H E) (defBody s_law).tail (TSD ⟨K, mg, H0, F0, some b⟩ (fun cls d _ H => E cls d H) ⟨[], some 1⟩ ⟨[], some 1⟩ ⟨[], none⟩ ⟨[], none⟩ db_law) :=
 (ss_cons (m1 := ⟨[], some 1⟩) (s_set (e_callS (ok_L_disc T) hr rfl rfl takes_ok rfl (pv 1) a_nil rfl) (fun h => ps_set (i := 2) sc_law.nd rfl (.inr rfl) h))
 (ss_cons (m1 := ⟨[], some 1⟩) (s_set (e_callS (ok_L_ideal T) hr rfl rfl takes_ok rfl (pv 1) (a_cons (e_var (by decide) (pv 2)) (a_cons e_int a_nil)) rfl) (fun h => ps_set (i := 3) sc_law.nd rfl (.inl rfl) h))
 (ss_cons (m1 := ⟨[], some 1⟩) (s_set (e_callS (ok_L_ideal T) hr rfl rfl takes_ok rfl (pv 1) (a_cons (e_var (by decide) (pv 2)) (a_cons e_int a_nil)) rfl) (fun h => ps_set (i := 4) sc_law.nd rfl (.inl rfl) h))
 (ss_cons (m1 := ⟨[], some 1⟩) (s_if (b_not (b_tru (e_callS (ok_L_holds T) hr rfl rfl takes_ok rfl (pv 1) (a_cons (e_var (by decide) (pv 2)) (a_cons (e_var (by decide) (pv 3)) (a_cons (e_var (by decide) (pv 4)) a_nil))) rfl) rfl)) (ss_one (s_ret e_bl)) ss_nil)
 (ss_cons (m1 := ⟨[], some 1⟩) (s_asg (e_call (ok_members_of T) hr rfl rfl takes_ok (a_cons (e_var (by decide) (pv 3)) a_nil) rfl) (g_tup rfl rfl (gs_cons (g_name (pg_name (i := 5) sc_law.nd rfl (.inl rfl))) (gs_cons (g_name (pg_name (i := 6) sc_law.nd rfl (.inl rfl))) gs_nil)) (gl_cons (gl_cons gl_nil))))
 (ss_cons (m1 := ⟨[], some 1⟩) (s_if (b_w (bw_or (b_cmp (op_neD hr.units) (v_ne rfl) (e_var (by decide) (pv 5)) (e_tup (a_cons (e_bin op_mulX v_mul (e_bin op_mulX v_mul e_int (e_ix ix_seq (v_ix rfl) (e_var (by decide) (pv 3)) e_int (fun _ _ => rfl))) (e_ix ix_seq (v_ix rfl) (e_var (by decide) (pv 3)) e_int (fun _ _ => rfl))) (a_cons e_int a_nil))) (nomark _)) (bw_or (b_cmp (op_neD hr.units) (v_ne rfl) (e_var (by decide) (pv 6)) (e_tup (a_cons (e_bin op_mulX v_mul (e_ix ix_seq (v_ix rfl) (e_var (by decide) (pv 3)) e_int (fun _ _ => rfl)) (e_ix ix_seq (v_ix rfl) (e_var (by decide) (pv 3)) e_int (fun _ _ => rfl))) (a_cons (e_ix ix_seq (v_ix rfl) (e_var (by decide) (pv 3)) e_int (fun _ _ => rfl)) a_nil))) (nomark _)) (bw_or1 (b_cmp (op_neD hr.units) (v_ne rfl) (e_call (ok_ideal_of_members T) hr rfl rfl takes_ok (a_cons (e_var (by decide) (pv 2)) (a_cons (e_lst (a_cons (e_var (by decide) (pv 5)) (a_cons (e_var (by decide) (pv 6)) a_nil))) a_nil)) rfl) (e_var (by decide) (pv 3)) (nomark _)))))) (ss_one (s_ret e_bl)) ss_nil)
 (ss_cons (m1 := ⟨[], some 1⟩) (s_if (b_cmp (op_neD hr.units) (v_ne rfl) (e_call (ok_conjugate_members T) hr rfl rfl takes_ok (a_cons (e_var (by decide) (pv 3)) a_nil) rfl) (e_tup (a_cons (e_tup (a_cons (e_ix ix_seq (v_ix rfl) (e_var (by decide) (pv 5)) e_int (fun _ _ => rfl)) (a_cons e_int a_nil))) (a_cons (e_tup (a_cons (e_ix ix_seq (v_ix rfl) (e_var (by decide) (pv 6)) e_int (fun _ _ => rfl)) (a_cons (e_bin op_sub v_sub e_int (e_ix ix_seq (v_ix rfl) (e_var (by decide) (pv 6)) e_int (fun _ _ => rfl))) a_nil))) a_nil))) (nomark _)) (ss_one (s_ret e_bl)) ss_nil)
 (ss_cons (m1 := ⟨[], some 1⟩) (s_set (e_callS (ok_L_member T) hr rfl rfl takes_ok rfl (pv 1) (a_cons (e_var (by decide) (pv 2)) (a_cons (e_tup (a_cons e_int (a_cons e_int (a_cons (e_bin op_modN v_mod (e_callTy call_int1 v_int1 rfl T.b_int (by decide +kernel) (a_cons (e_var (by decide) (pv 2)) a_nil)) e_int) a_nil)))) a_nil)) rfl) (fun h => ps_set (i := 7) sc_law.nd rfl (.inl rfl) h))
 (ss_cons (m1 := ⟨[], some 1⟩) (s_if (b_w (bw_and (b_cmp (op_neD hr.units) (v_ne rfl) (e_var (by decide) (pv 7)) (e_tup (a_cons e_int (a_cons e_int a_nil))) (nomark _)) (bw_and1 (b_cmp (op_neD hr.units) (v_ne rfl) (e_call (ok_L_norm T) hr rfl rfl takes_ok (a_cons (e_var (by decide) (pv 2)) (a_cons (e_var (by decide) (pv 7)) a_nil)) rfl) e_int (nomark _))))) (ss_cons (m1 := ⟨[], some 1⟩) (s_set (e_call (ok_principal_ideal T) hr rfl rfl takes_ok (a_cons (e_var (by decide) (pv 2)) (a_cons (e_var (by decide) (pv 7)) a_nil)) rfl) (fun h => ps_set (i := 8) sc_law.nd rfl (.inl rfl) h))
 (ss_cons (m1 := ⟨[], some 1⟩) (s_if (b_w (bw_or (b_cmp (op_neD hr.units) (v_ne rfl) (e_call (ok_ideal_norm T) hr rfl rfl takes_ok (a_cons (e_var (by decide) (pv 8)) a_nil) rfl) (e_callB call_abs v_abs rfl T.b_abs (by decide +kernel) (a_cons (e_call (ok_L_norm T) hr rfl rfl takes_ok (a_cons (e_var (by decide) (pv 2)) (a_cons (e_var (by decide) (pv 7)) a_nil)) rfl) a_nil)) (nomark _)) (bw_or1 (b_not (b_tru (e_call (ok_L_ideal_has T) hr rfl rfl takes_ok (a_cons (e_var (by decide) (pv 2)) (a_cons (e_var (by decide) (pv 8)) (a_cons (e_call (ok_L_times T) hr rfl rfl takes_ok (a_cons (e_var (by decide) (pv 2)) (a_cons (e_var (by decide) (pv 7)) (a_cons (e_tup (a_cons (e_bin op_modN v_mod (e_callTy call_int1 v_int1 rfl T.b_int (by decide +kernel) (a_cons (e_var (by decide) (pv 2)) a_nil)) e_int) (a_cons e_int a_nil))) a_nil))) rfl) a_nil))) rfl) rfl))))) (ss_one (s_ret e_bl)) ss_nil)
 (ss_one (s_if (b_cmp (op_neD hr.units) (v_ne rfl) (e_call (ok_ideal_of_members T) hr rfl rfl takes_ok (a_cons (e_var (by decide) (pv 2)) (a_cons (e_lst (a_cons (e_var (by decide) (pv 7)) (a_cons (e_tup (a_cons e_int (a_cons e_int a_nil))) a_nil))) a_nil)) rfl) (e_call (ok_ideal_sum T) hr rfl rfl takes_ok (a_cons (e_var (by decide) (pv 2)) (a_cons (e_var (by decide) (pv 8)) (a_cons (e_call (ok_ideal_of_number T) hr rfl rfl takes_ok (a_cons (e_var (by decide) (pv 2)) (a_cons e_int a_nil)) rfl) a_nil))) rfl) (nomark _)) (ss_one (s_ret e_bl)) ss_nil)))) ss_nil)
 (ss_cons (m1 := ⟨[], some 1⟩) (s_for pass_ok rfl (i_range1 rfl T.b_range (a_cons e_int a_nil)) (g_name (pg_name (i := 9) sc_law.nd rfl (.inr rfl))) (ss_cons (m1 := ⟨[], some 1⟩) (s_set (e_tup (a_cons (e_bin op_sub v_sub (e_callS (ok_L_draw T) hr rfl rfl takes_ok rfl (pv 1) (a_cons e_int a_nil) rfl) e_int) (a_cons (e_bin op_sub v_sub (e_callS (ok_L_draw T) hr rfl rfl takes_ok rfl (pv 1) (a_cons e_int a_nil) rfl) e_int) a_nil))) (fun h => ps_set (i := 10) sc_law.nd rfl (.inl rfl) h))
 (ss_cons (m1 := ⟨[], some 1⟩) (s_if (b_not (b_tru (e_call (ok_L_truth T) hr rfl rfl takes_ok (a_cons (e_call (ok_has_member T) hr rfl rfl takes_ok (a_cons (e_var (by decide) (pv 2)) (a_cons (e_var (by decide) (pv 3)) (a_cons (e_var (by decide) (pv 10)) a_nil))) rfl) (a_cons (e_call (ok_L_ideal_has T) hr rfl rfl takes_ok (a_cons (e_var (by decide) (pv 2)) (a_cons (e_var (by decide) (pv 3)) (a_cons (e_var (by decide) (pv 10)) a_nil))) rfl) a_nil)) rfl) rfl)) (ss_one (s_ret e_bl)) ss_nil)
 (ss_one (s_if (b_cmp (op_eqD hr.units) (v_eq rfl) (e_bin op_modN v_mod (e_callTy call_int1 v_int1 rfl T.b_int (by decide +kernel) (a_cons (e_bin op_sub v_sub (e_ix ix_seq (v_ix rfl) (e_var (by decide) (pv 10)) e_int (fun _ _ => rfl)) (e_bin op_mulX v_mul (e_ix ix_seq (v_ix rfl) (e_var (by decide) (pv 10)) e_int (fun _ _ => rfl)) (e_var (by decide) (pv 2)))) a_nil)) e_int) e_int (nomark _)) (ss_cons (m1 := ⟨[], some 1⟩) (s_set (e_call (ok_remainder_of T) hr rfl rfl takes_ok (a_cons (e_var (by decide) (pv 2)) (a_cons (e_var (by decide) (pv 3)) (a_cons (e_var (by decide) (pv 10)) a_nil))) rfl) (fun h => ps_set (i := 11) sc_law.nd rfl (.inl rfl) h))
 (ss_cons (m1 := ⟨[], some 1⟩) (s_if (b_not (b_tru (e_call (ok_L_ideal_has T) hr rfl rfl takes_ok (a_cons (e_var (by decide) (pv 2)) (a_cons (e_var (by decide) (pv 3)) (a_cons (e_tup (a_cons (e_bin op_sub v_sub (e_ix ix_seq (v_ix rfl) (e_var (by decide) (pv 10)) e_int (fun _ _ => rfl)) (e_ix ix_seq (v_ix rfl) (e_var (by decide) (pv 11)) e_int (fun _ _ => rfl))) (a_cons (e_bin op_sub v_sub (e_ix ix_seq (v_ix rfl) (e_var (by decide) (pv 10)) e_int (fun _ _ => rfl)) (e_ix ix_seq (v_ix rfl) (e_var (by decide) (pv 11)) e_int (fun _ _ => rfl))) a_nil))) a_nil))) rfl) rfl)) (ss_one (s_ret e_bl)) ss_nil)
 (ss_one (s_if (b_w (bw_or (b_cmp op_lt v_lt (e_ix ix_seq (v_ix rfl) (e_var (by decide) (pv 11)) e_int (fun _ _ => rfl)) e_int (nomark _)) (bw_or (b_cmp op_ge v_ge (e_ix ix_seq (v_ix rfl) (e_var (by decide) (pv 11)) e_int (fun _ _ => rfl)) (e_ix ix_seq (v_ix rfl) (e_var (by decide) (pv 3)) e_int (fun _ _ => rfl)) (nomark _)) (bw_or (b_cmp op_lt v_lt (e_ix ix_seq (v_ix rfl) (e_var (by decide) (pv 11)) e_int (fun _ _ => rfl)) e_int (nomark _)) (bw_or1 (b_cmp op_ge v_ge (e_ix ix_seq (v_ix rfl) (e_var (by decide) (pv 11)) e_int (fun _ _ => rfl)) (e_bin op_mulX v_mul (e_bin op_mulX v_mul e_int (e_ix ix_seq (v_ix rfl) (e_var (by decide) (pv 3)) e_int (fun _ _ => rfl))) (e_ix ix_seq (v_ix rfl) (e_var (by decide) (pv 3)) e_int (fun _ _ => rfl))) (nomark _))))))) (ss_one (s_ret e_bl)) ss_nil)))) ss_nil)))))
 (ss_cons (m1 := ⟨[], some 1⟩) (s_set (e_bin op_addX (v_add rfl) e_int (e_callS (ok_L_draw T) hr rfl rfl takes_ok rfl (pv 1) (a_cons e_int a_nil) rfl)) (fun h => ps_set (i := 12) sc_law.nd rfl (.inl rfl) h))
 (ss_cons (m1 := ⟨[], some 1⟩) (s_set (e_lst a_nil) (fun h => ps_set (i := 13) sc_law.nd rfl (.inl rfl) h))
 (ss_cons (m1 := ⟨[], some 1⟩) (s_for pass_ok rfl (i_range2 rfl T.b_range (a_cons e_int (a_cons (e_bin op_addX (v_add rfl) (e_var (by decide) (pv 12)) e_int) a_nil))) (g_name (pg_name (i := 9) sc_law.nd rfl (.inr rfl))) (ss_one (s_if (b_cmp (op_eqD hr.units) (v_eq rfl) (e_bin op_modN v_mod (e_callTy call_int1 v_int1 rfl T.b_int (by decide +kernel) (a_cons (e_var (by decide) (pv 12)) a_nil)) (e_bin op_mulX v_mul (e_var (by decide) (pv 9)) (e_var (by decide) (pv 9)))) e_int (nomark _)) (ss_cons (m1 := ⟨[], some 1⟩) (s_set (e_bin op_fdivG v_fdiv (e_var (by decide) (pv 12)) (e_bin op_mulX v_mul (e_var (by decide) (pv 9)) (e_var (by decide) (pv 9)))) (fun h => ps_set (i := 14) sc_law.nd rfl (.inr rfl) h))
 (ss_one (s_set (e_bin op_addX (v_add rfl) (e_var (by decide) (pv 13)) (e_ofF (f_lc rfl sc_law.nd  (i_range1 rfl T.b_range (a_cons (e_bin op_mulX v_mul e_int (e_var (by decide) (pv 14))) a_nil)) (blkOk_by (own := [("b", 15)]) (N := N_law) (sc := defScope s_law) (by decide +kernel)) (fun _ _ _ _ _ => (g_name (pg_name (i := 15) sc_law.nd rfl (.inl rfl)))) (fun _ _ _ _ _ => (t_one (b_cmp (op_eqD hr.units) (v_eq rfl) (e_bin op_modN v_mod (e_callTy call_int1 v_int1 rfl T.b_int (by decide +kernel) (a_cons (e_bin op_sub v_sub (e_bin op_mulX v_mul (e_var (by decide) (pv 15)) (e_var (by decide) (pv 15))) (e_var (by decide) (pv 2))) a_nil)) (e_bin op_mulX v_mul e_int (e_var (by decide) (pv 14)))) e_int (nomark _)))) (fun _ _ _ _ _ => (e_tup (a_cons (e_var (by decide) (pv 9)) (a_cons (e_var (by decide) (pv 14)) (a_cons (e_var (by decide) (pv 15)) a_nil)))))))) (fun h => ps_set (i := 13) sc_law.nd rfl (.inl rfl) h)))) ss_nil)))
 (ss_cons (m1 := ⟨[], some 1⟩) (s_if (b_w (bw_or (b_cmp (op_neD hr.units) (v_ne rfl) (e_call (ok_ideals_of_norm T) hr rfl rfl takes_ok (a_cons (e_var (by decide) (pv 2)) (a_cons (e_var (by decide) (pv 12)) a_nil)) rfl) (e_callB (cr_sortDL (units65 hr)) (v_sortD rfl) rfl T.b_sorted (by decide +kernel) (a_cons (e_var (by decide) (pv 13)) a_nil)) (nomark _)) (bw_or1 (b_not (b_tru (e_call (ok_L_truth T) hr rfl rfl takes_ok (a_cons (e_call (ok_share_no_prime T) hr rfl rfl takes_ok (a_cons (e_var (by decide) (pv 3)) (a_cons (e_var (by decide) (pv 4)) a_nil)) rfl) (a_cons (e_cmp (op_eqD hr.units) (v_eq rfl) (e_call (ok_L_common T) hr rfl rfl takes_ok (a_cons (e_call (ok_ideal_norm T) hr rfl rfl takes_ok (a_cons (e_var (by decide) (pv 3)) a_nil) rfl) (a_cons (e_call (ok_ideal_norm T) hr rfl rfl takes_ok (a_cons (e_var (by decide) (pv 4)) a_nil) rfl) a_nil)) rfl) e_int (nomark _)) a_nil)) rfl) rfl))))) (ss_one (s_ret e_bl)) ss_nil)
 (ss_cons (m1 := ⟨[], some 1⟩) (s_set (e_lst (a_cons e_non (a_cons (e_bin op_addX (v_add rfl) (e_var (by decide) (pv 3)) (e_tup (a_cons e_int a_nil))) (a_cons (e_tup (a_cons (e_ix ix_seq (v_ix rfl) (e_var (by decide) (pv 3)) e_int (fun _ _ => rfl)) (a_cons (e_ix ix_seq (v_ix rfl) (e_var (by decide) (pv 3)) e_int (fun _ _ => rfl)) (a_cons (e_bin op_addX (v_add rfl) (e_ix ix_seq (v_ix rfl) (e_var (by decide) (pv 3)) e_int (fun _ _ => rfl)) (e_bin op_mulX v_mul e_int (e_ix ix_seq (v_ix rfl) (e_var (by decide) (pv 3)) e_int (fun _ _ => rfl)))) a_nil)))) (a_cons (e_tup (a_cons e_int (a_cons e_int (a_cons e_int a_nil)))) (a_cons (e_tup (a_cons (e_ix ix_seq (v_ix rfl) (e_var (by decide) (pv 3)) e_int (fun _ _ => rfl)) (a_cons (e_ix ix_seq (v_ix rfl) (e_var (by decide) (pv 3)) e_int (fun _ _ => rfl)) (a_cons (e_bin op_addX (v_add rfl) (e_ix ix_seq (v_ix rfl) (e_var (by decide) (pv 3)) e_int (fun _ _ => rfl)) e_int) a_nil)))) (a_cons (e_callTy call_list_of (v_list rfl) rfl T.b_list (by decide +kernel) (a_cons (e_var (by decide) (pv 3)) a_nil)) (a_cons (e_tup (a_cons e_bl (a_cons e_int (a_cons e_int a_nil)))) (a_cons (e_tup (a_cons e_int (a_cons e_int (a_cons e_int a_nil)))) (a_cons (e_tup (a_cons e_int (a_cons (e_un un_neg v_neg e_int) (a_cons e_int a_nil)))) a_nil)))))))))) (fun h => ps_set (i := 16) sc_law.nd rfl (.inl rfl) h))
 (ss_cons (m1 := ⟨[], some 1⟩) (s_set (e_ix ix_seq (v_ix rfl) (e_var (by decide) (pv 16)) (e_callS (ok_L_draw T) hr rfl rfl takes_ok rfl (pv 1) (a_cons (e_callB call_len (v_len rfl) rfl T.b_len (by decide +kernel) (a_cons (e_var (by decide) (pv 16)) a_nil)) a_nil) rfl) (fun _ _ => rfl)) (fun h => ps_set (i := 17) sc_law.nd rfl (.inl rfl) h))
 (ss_one (s_ret (e_call (ok_L_truth T) hr rfl rfl takes_ok (a_cons (e_call (ok_is_ideal T) hr rfl rfl takes_ok (a_cons (e_var (by decide) (pv 2)) (a_cons (e_var (by decide) (pv 17)) a_nil)) rfl) (a_cons (e_call (ok_L_is_ideal T) hr rfl rfl takes_ok (a_cons (e_var (by decide) (pv 2)) (a_cons (e_var (by decide) (pv 17)) a_nil)) rfl) a_nil)) rfl)))))))))))))))))))
theorem der_law0 (T : Txt K mg) (f : Addr) (cdv : Value) (A : Around) (outer : List Env) (s : Shared) (H : Hp) (E : XK) (hr : Room 8 (A.deeper (envOfC "law" (defScope s_law) s.heap.objs.size f cdv))) :
  PS (cxOf (L2.CX P w) P w K mg base N_law "law" (defScope s_law) f cdv A outer s H E) ((defBody s_law).headD (.Pass ⟨0, 0, 0, 0⟩)) (tAsg (tCallS (spI K) (fun _ => E0) (tCons (tVar 0) tNil)) (gName 1)) :=
 law_first (ok_L_state T) (hr.mono (by decide)) sc_law.nd rfl (.inl rfl) (pv 0) rfl
end
end M

set_option Elab.async false
set_option linter.all false
set_option maxRecDepth 100000
set_option maxHeartbeats 4000000
namespace M
open PySem PySem.Spec PyProof.Rows L2
theorem gcd_loop {t : Ev → MM Bool} {db : Ev → MM Fl} (ht : ∀ a b : Int, 0 ≤ b → t [some (.int a), some (.int b)] [] = .ok (!decide (b = 0)) [])
    (hb : ∀ a b : Int, 0 < b → db [some (.int a), some (.int b)] [] = .ok (.next [some (.int b), some (.int (a % b))]) []) (a b : Int) (ha0 : 0 ≤ a) (hb0 : 0 ≤ b) :
    ∃ z, sWhile t db [some (.int a), some (.int b)] [] = .ok (.next [some (.int (Int.gcd a b)), z]) [] := by
  obtain ⟨⟨c, d⟩, ⟨p1, p2, p3⟩, pc, pw⟩ := while_by (w := []) (t := t) (db := db) (fun x : Int × Int => [some (.int x.1), some (.int x.2)]) (fun x => 0 ≤ x.1 ∧ 0 ≤ x.2 ∧ Int.gcd x.1 x.2 = Int.gcd a b) (fun x => !decide (x.2 = 0)) (fun x => (x.2, x.1 % x.2)) (fun x => x.2.toNat)
    (fun x p => ht _ _ p.2.1)
    (fun x p c => by
      obtain ⟨u, v⟩ := x
      simp only [Bool.not_eq_true', decide_eq_false_iff_not] at c p ⊢
      have hv : 0 < v := by omega
      have m1 := Int.emod_nonneg u (show v ≠ 0 by omega)
      have m2 := Int.emod_lt_of_pos u hv
      refine ⟨hb u v hv, ⟨by omega, m1, ?_⟩, by omega⟩
      rw [← p.2.2, Int.gcd_comm u v]
      have e : u % v = u - u / v * v := by rw [Int.emod_def, Int.mul_comm]
      rw [e, Int.gcd_comm v, Int.gcd_sub_mul_right_left, Int.gcd_comm])
    (a, b) ⟨ha0, hb0, rfl⟩
  have e : d = 0 := by simpa using pc
  subst e
  have e : c = (Int.gcd a b : Int) := by rw [← p3]; simp only [Int.gcd_zero_right]; omega
  simp only at pw
  rw [e] at pw
  exact ⟨_, pw⟩
theorem abs_if (a : Int) : (if a < 0 then -a else a) = (a.natAbs : Int) := by omega
theorem L_common_ok (a b : Int) : d_L_common [.int a, .int b] = .ok (.int (Int.gcd a b)) [] := by
  unfold d_L_common
  obtain ⟨z, h⟩ := gcd_loop (t := bBin vNe (eVar 1) (eC (.int 0))) (db := sPar 0 1 (eVar 1) (eBin vMod (eArgs fInt (aCons (eVar 0) aNil)) (eVar 1))) (fun a b _ => by simp) (fun a b h => by simp [modP h]) (a.natAbs : Int) (b.natAbs : Int) (by omega) (by omega)
  simp [abs_if, h, Int.gcd]
theorem L_truth_t (b : Bool) : d_L_truth [.bool b, .bool b] = .ok (.bool true) [] := by
  unfold d_L_truth
  cases b <;> simp
theorem draw_eq : d_L_draw = dDraw := rfl
structure Cb where
  a : Int
  b : Int
  x0 : Int
  y0 : Int
  x1 : Int
  y1 : Int
  c : Option D
def Cb.emb (s : Cb) : Ev := [some (.int s.a), some (.int s.b), some (.tuple [.int s.x0, .int s.y0]), some (.tuple [.int s.x1, .int s.y1]), s.c]
def Cb.step (s : Cb) : Cb := ⟨s.b, s.a - s.a.fdiv s.b * s.b, s.x1, s.y1, s.x0 - s.a.fdiv s.b * s.x1, s.y0 - s.a.fdiv s.b * s.y1, some (.int (s.a.fdiv s.b))⟩
theorem gcd_step (a b q : Int) : Int.gcd b (a - q * b) = Int.gcd a b := by rw [Int.gcd_comm b, Int.gcd_sub_mul_right_left]
structure CbOk (one two t s : Int) (v : Cb) : Prop where
  t1 : t = 1 ∨ t = -1
  s1 : s = 1 ∨ s = -1
  a0 : 0 < t * v.a
  aT : t * v.a ≤ t * two
  b0 : 0 ≤ t * v.b
  bT : t * v.b ≤ t * two
  x0 : 0 ≤ s * v.x0
  x1 : s * v.x1 ≤ 0
  iv : (s * v.x0) * (t * v.b) - (s * v.x1) * (t * v.a) = t * two
  ia : one * v.x0 + two * v.y0 = v.a
  ib : one * v.x1 + two * v.y1 = v.b
  g : Int.gcd v.a v.b = Int.gcd one two
theorem sgn_abs {t a : Int} (h : t = 1 ∨ t = -1) (h2 : 0 ≤ t * a) : a.natAbs = (t * a).toNat := by
  rcases h with rfl | rfl <;> omega
theorem cof_bound {one two x y b : Int} (h : one * x + two * y = b) (ht : two ≠ 0) {B X O : Nat} (hb : b.natAbs ≤ B) (hx : x.natAbs ≤ X) (ho : one.natAbs ≤ O) : y.natAbs ≤ B + O * X := by
  have e : two * y = b + -(one * x) := by omega
  have e2 : (two * y).natAbs ≤ b.natAbs + (one * x).natAbs := by rw [e]; have := Int.natAbs_add_le b (-(one * x)); rwa [Int.natAbs_neg] at this
  rw [Int.natAbs_mul, Int.natAbs_mul] at e2
  have e3 : one.natAbs * x.natAbs ≤ O * X := Nat.mul_le_mul ho hx
  have e4 : y.natAbs ≤ two.natAbs * y.natAbs := Nat.le_mul_of_pos_left _ (by omega)
  omega
theorem cb_test (v : Cb) : (bBin vNe (eVar 1) (eC (.int 0))) v.emb [] = .ok (!decide (v.b = 0)) [] := by simp [Cb.emb]
theorem cb_body (v : Cb) (hb : v.b ≠ 0) (hB : v.b.natAbs < 2 ^ 200) (hq : (v.a.fdiv v.b).natAbs < 2 ^ 200) (hx : v.x1.natAbs < 2 ^ 200) (hy : v.y1.natAbs < 2 ^ 200) :
    (sSeq (sAsg (eBin vFdiv (eVar 0) (eVar 1)) (gN 4))
 (sSeq (sPar 0 1 (eVar 1) (eBin vSub (eVar 0) (eBin vMul (eVar 4) (eVar 1))))
 (sPar 2 3 (eVar 3) (eTup (aCons (eBin vSub (eBin vIx (eVar 2) (eC (.int 0))) (eBin vMul (eVar 4) (eBin vIx (eVar 3) (eC (.int 0))))) (aCons (eBin vSub (eBin vIx (eVar 2) (eC (.int 1))) (eBin vMul (eVar 4) (eBin vIx (eVar 3) (eC (.int 1))))) aNil)))))) v.emb [] = .ok (.next v.step.emb) [] := by
  have sm : ∀ {x : Int}, x.natAbs < 2 ^ 200 → Sm x := fun h => by unfold Sm; omega
  simp [Cb.emb, Cb.step, vFdiv_int (divOk_sm hb (sm hB)), vMul_int (mulOk_sm (sm hq) (sm hB)), vMul_int (mulOk_sm (sm hq) (sm hx)), vMul_int (mulOk_sm (sm hq) (sm hy))]
theorem cb_fdiv {t a b : Int} (h : t = 1 ∨ t = -1) (h2 : 0 ≤ t * b) : a.fdiv b = (t * a) / (t * b) := by
  rcases h with rfl | rfl
  · rw [Int.fdiv_eq_ediv_of_nonneg _ (by omega)]; simp
  · rw [← Int.neg_fdiv_neg, Int.fdiv_eq_ediv_of_nonneg _ (by omega)]; simp
theorem sgn_sq {t : Int} (h : t = 1 ∨ t = -1) : t * t = 1 := by rcases h with rfl | rfl <;> rfl
theorem CbOk.step {one two t s : Int} {v : Cb} (h : CbOk one two t s v) (hb : v.b ≠ 0) : CbOk one two t (-s) v.step ∧ t * v.step.b < t * v.b := by
  obtain ⟨t1, s1, a0, aT, b0, bT, x0, x1, iv, ia, ib, g⟩ := h
  have b1 : 0 < t * v.b := by rcases t1 with rfl | rfl <;> omega
  have q := cb_fdiv (a := v.a) t1 b0
  have q0 : 0 ≤ v.a.fdiv v.b := by rw [q]; exact Int.ediv_nonneg (by omega) b0
  have r0 : 0 ≤ t * v.step.b := by
    have := Int.emod_nonneg (t * v.a) (show t * v.b ≠ 0 by omega)
    rw [Int.emod_def, ← q] at this
    show 0 ≤ t * (v.a - v.a.fdiv v.b * v.b)
    grind
  have r1 : t * v.step.b < t * v.b := by
    have := Int.emod_lt_of_pos (t * v.a) b1
    rw [Int.emod_def, ← q] at this
    show t * (v.a - v.a.fdiv v.b * v.b) < t * v.b
    grind
  refine ⟨⟨t1, by omega, b1, bT, r0, by omega, ?_, ?_, ?_, ib, ?_, ?_⟩, r1⟩
  · show 0 ≤ -s * v.x1
    grind
  · show -s * (v.x0 - v.a.fdiv v.b * v.x1) ≤ 0
    have := Int.mul_nonneg q0 (show 0 ≤ -(s * v.x1) by omega)
    grind
  · show (-s * v.x1) * (t * (v.a - v.a.fdiv v.b * v.b)) - (-s * (v.x0 - v.a.fdiv v.b * v.x1)) * (t * v.b) = t * two
    grind
  · show one * (v.x0 - v.a.fdiv v.b * v.x1) + two * (v.y0 - v.a.fdiv v.b * v.y1) = v.a - v.a.fdiv v.b * v.b
    grind
  · show Int.gcd v.b (v.a - v.a.fdiv v.b * v.b) = _
    rw [gcd_step, g]
theorem CbOk.bounds {one two t s : Int} {v : Cb} (h : CbOk one two t s v) (hb : v.b ≠ 0) (h1 : one.natAbs < 2 ^ 90) (h2 : two.natAbs < 2 ^ 90) :
    v.b.natAbs < 2 ^ 200 ∧ (v.a.fdiv v.b).natAbs < 2 ^ 200 ∧ v.x1.natAbs < 2 ^ 200 ∧ v.y1.natAbs < 2 ^ 200 := by
  obtain ⟨t1, s1, a0, aT, b0, bT, x0, x1, iv, ia, ib, g⟩ := h
  have T : t * two ≤ 2 ^ 90 := by rcases t1 with rfl | rfl <;> omega
  have b1 : 0 < t * v.b := by rcases t1 with rfl | rfl <;> omega
  have q := cb_fdiv (a := v.a) t1 b0
  have q0 : 0 ≤ v.a.fdiv v.b := by rw [q]; exact Int.ediv_nonneg (by omega) b0
  have q1 : v.a.fdiv v.b ≤ t * v.a := by rw [q]; exact Int.ediv_le_self _ (by omega)
  have u : -(s * v.x1) ≤ t * two := by
    have e1 := Int.mul_nonneg x0 b0
    have e2 := Int.mul_le_mul_of_nonneg_left (show 1 ≤ t * v.a by omega) (show 0 ≤ -(s * v.x1) by omega)
    grind
  have ux : v.x1.natAbs ≤ 2 ^ 90 := by rcases s1 with rfl | rfl <;> omega
  have ub : v.b.natAbs ≤ 2 ^ 90 := by rcases t1 with rfl | rfl <;> omega
  have uy := cof_bound ib (by rcases t1 with rfl | rfl <;> omega) ub ux (Nat.le_of_lt h1)
  refine ⟨by omega, by omega, by omega, by omega⟩
theorem combined_ok (one two : Int) (h1 : one.natAbs < 2 ^ 90) (h2 : two.natAbs < 2 ^ 90) : ∃ x y, d_combined [.int one, .int two] = .ok (.tuple [.int (Int.gcd one two), .int x, .int y]) [] ∧ one * x + two * y = Int.gcd one two ∧ x.natAbs < 2 ^ 200 ∧ y.natAbs < 2 ^ 200 := by
  unfold d_combined
  by_cases z : two = 0
  · subst z
    by_cases n : one < 0
    · exact ⟨-1, 0, by simp [sWhile_ap, n, Int.gcd_zero_right]; omega, by simp only [Int.gcd_zero_right]; omega, by decide, by decide⟩
    · exact ⟨1, 0, by simp [sWhile_ap, n, Int.gcd_zero_right]; omega, by simp only [Int.gcd_zero_right]; omega, by decide, by decide⟩
  · have t1 : ∃ t : Int, (t = 1 ∨ t = -1) ∧ 0 < t * two := by
      by_cases n : 0 < two
      · exact ⟨1, by simp, by omega⟩
      · exact ⟨-1, by simp, by omega⟩
    obtain ⟨t, t1, t2⟩ := t1
    have q := cb_fdiv (a := one) (b := two) t1 (by omega)
    have r0 := Int.emod_nonneg (t * one) (show t * two ≠ 0 by omega)
    have r1 := Int.emod_lt_of_pos (t * one) t2
    rw [Int.emod_def, ← q] at r0 r1
    have qb : (one.fdiv two).natAbs < 2 ^ 200 := by
      rw [q]
      have := Int.natAbs_ediv_le_natAbs (t * one) (t * two)
      have e : (t * one).natAbs = one.natAbs := by rcases t1 with rfl | rfl <;> omega
      omega
    have i0 : CbOk one two t (-1) (Cb.step ⟨one, two, 1, 0, 0, 1, none⟩) := by
      refine ⟨t1, by simp, t2, by simp [Cb.step], ?_, ?_, ?_, ?_, ?_, ?_, ?_, ?_⟩ <;> simp only [Cb.step]
      · grind
      · grind
      · omega
      · omega
      · grind
      · grind
      · grind
      · rw [gcd_step]
    have first := cb_body ⟨one, two, 1, 0, 0, 1, none⟩ z (by simp only; omega) qb (by simp) (by simp)
    obtain ⟨v, ⟨⟨s, P⟩, vx0, vy0⟩, pc, pw⟩ := while_by (w := []) Cb.emb (fun v => (∃ s, CbOk one two t s v) ∧ v.x0.natAbs < 2 ^ 200 ∧ v.y0.natAbs < 2 ^ 200) (fun v => !decide (v.b = 0)) Cb.step (fun v => (t * v.b).toNat) (fun v _ => cb_test v)
      (fun v P c => by
        obtain ⟨⟨s, P⟩, _, _⟩ := P
        have hb : v.b ≠ 0 := by simpa using c
        obtain ⟨b1, b2, b3, b4⟩ := P.bounds hb h1 h2
        obtain ⟨p1, p2⟩ := P.step hb
        exact ⟨cb_body v hb b1 b2 b3 b4, ⟨⟨_, p1⟩, b3, b4⟩, by have := p1.b0; have := P.b0; omega⟩)
      _ ⟨⟨_, i0⟩, by simp [Cb.step], by simp [Cb.step]⟩
    have hb : v.b = 0 := by simpa using pc
    have hg := P.g
    rw [hb, Int.gcd_zero_right] at hg
    have ia := P.ia
    have w1 : sWhile (bBin vNe (eVar 1) (eC (.int 0))) (sSeq (sAsg (eBin vFdiv (eVar 0) (eVar 1)) (gN 4))
 (sSeq (sPar 0 1 (eVar 1) (eBin vSub (eVar 0) (eBin vMul (eVar 4) (eVar 1))))
 (sPar 2 3 (eVar 3) (eTup (aCons (eBin vSub (eBin vIx (eVar 2) (eC (.int 0))) (eBin vMul (eVar 4) (eBin vIx (eVar 3) (eC (.int 0))))) (aCons (eBin vSub (eBin vIx (eVar 2) (eC (.int 1))) (eBin vMul (eVar 4) (eBin vIx (eVar 3) (eC (.int 1))))) aNil)))))) [some (.int one), some (.int two), some (.tuple [.int 1, .int 0]), some (.tuple [.int 0, .int 1]), none] [] = .ok (.next v.emb) [] := by
      rw [sWhile_ap]
      rw [show [some (PyData.int one), some (.int two), some (.tuple [.int 1, .int 0]), some (.tuple [.int 0, .int 1]), none] = Cb.emb ⟨one, two, 1, 0, 0, 1, none⟩ from rfl]
      rw [cb_test]
      simp only [z, decide_false, Bool.not_false, kWh_t]
      rw [first, kWhB_next]
      exact pw
    by_cases n : v.a < 0
    · refine ⟨-v.x0, -v.y0, ?_, by grind, by omega, by omega⟩
      simp [w1]
      simp [Cb.emb, n]
      omega
    · refine ⟨v.x0, v.y0, ?_, by grind, by omega, by omega⟩
      simp [w1]
      simp [Cb.emb, n]
      omega
theorem L_draw_ok {ω : Wd} (h : StOk ω) {m : Int} (hm : 0 < m) (hm2 : m < 2 ^ 200) : ∃ r ω', d_L_draw [.int m] ω = .ok (.int r) ω' ∧ 0 ≤ r ∧ r < m ∧ StOk ω' := by
  rw [draw_eq]; exact draw_ok h hm (by omega)
theorem common_divisor_ok (a b : Int) : d_common_divisor [.int a, .int b] = .ok (.int (Int.gcd a b)) [] := by
  unfold d_common_divisor
  obtain ⟨z, h⟩ := gcd_loop (t := bBin vNe (eVar 1) (eC (.int 0))) (db := sPar 0 1 (eVar 1) (eBin vMod (eVar 0) (eVar 1))) (fun a b _ => by simp) (fun a b h => by simp [modP h]) (a.natAbs : Int) (b.natAbs : Int) (by omega) (by omega)
  simp [abs_if, h, Int.gcd]
end M

set_option Elab.async false
set_option linter.all false
set_option maxRecDepth 100000
set_option maxHeartbeats 4000000
namespace M
open PySem PySem.Spec PyProof.Rows L2
def encE (R : Rg) (u : El) : D := .tuple [.int (R.x u), .int u.2]
structure SzE (R : Rg) (n : Nat) (u : El) : Prop where
  x : Szc (R.x u) n
  y : Szc u.2 n
theorem times_x {D : Int} {R : Rg} (h : Dc D R) (u v : El) : R.x u * R.x v + D * u.2 * v.2 = R.x (R.mul u v) * 2 := by
  have ss := h.ss
  have e := h.e
  have f1 : R.x u * R.x v = 4 * (u.1 * v.1) + 2 * (R.s * (u.1 * v.2 + u.2 * v.1)) + R.s * R.s * (u.2 * v.2) := by simp only [Rg.x]; grind
  have f2 : D * u.2 * v.2 = 4 * (R.t * (u.2 * v.2)) + R.s * (u.2 * v.2) := by rw [e]; grind
  have f3 : R.x (R.mul u v) = 2 * (u.1 * v.1) + 2 * (R.t * (u.2 * v.2)) + R.s * (u.1 * v.2 + u.2 * v.1) + R.s * R.s * (u.2 * v.2) := by simp only [Rg.x, Rg.mul]; grind
  rw [f1, f2, f3, ss]
  omega
theorem times_y (R : Rg) (u v : El) : R.x u * v.2 + u.2 * R.x v = (R.mul u v).2 * 2 := by
  simp only [Rg.x, Rg.mul]; grind
theorem half (a : Int) : vFdiv (.int (a * 2)) (.int 2) = some (.int a) := by
  rw [divSm (by omega) (by omega), Int.mul_ediv_cancel _ (by omega)]
theorem szMul2 {a b : Int} {m n : Nat} (ha : Szc a m) (hb : Szc b n) : Szc (a * b) (m + n) := inferInstance
theorem multiplied_ok {D : Int} {R : Rg} (hD : Dc D R) (zD : Szc D 20) {u v : El} {n k : Nat} (hu : SzE R n u) (hv : SzE R k v) (hn : n + k < 10000) : d_multiplied [.int D, encE R u, encE R v] = .ok (encE R (R.mul u v)) [] := by
  have m1 := vMul_le hu.x hv.x (by omega)
  have m2 := vMul_le zD hu.y (by omega)
  have m3 := vMul_le (szMul2 zD hu.y) hv.y (by omega)
  have m4 := vMul_le hu.x hv.y (by omega)
  have m5 := vMul_le hu.y hv.x (by omega)
  have tx := times_x hD u v
  have ty := times_y R u v
  have h1 := half (R.x (R.mul u v))
  have h2 := half (R.mul u v).2
  unfold d_multiplied encE
  simp [m1, m2, m3, m4, m5, tx, ty, h1, h2]
theorem L_times_ok {D : Int} {R : Rg} (hD : Dc D R) (zD : Szc D 20) {u v : El} {n k : Nat} (hu : SzE R n u) (hv : SzE R k v) (hn : n + k < 10000) : d_L_times [.int D, encE R u, encE R v] = .ok (encE R (R.mul u v)) [] := by
  have m1 := vMul_le hu.x hv.x (by omega)
  have m2 := vMul_le zD hu.y (by omega)
  have m3 := vMul_le (szMul2 zD hu.y) hv.y (by omega)
  have m4 := vMul_le hu.x hv.y (by omega)
  have m5 := vMul_le hu.y hv.x (by omega)
  have tx := times_x hD u v
  have ty := times_y R u v
  have h1 := half (R.x (R.mul u v))
  have h2 := half (R.mul u v).2
  unfold d_L_times encE
  simp [m1, m2, m3, m4, m5, tx, ty, h1, h2]
/-! ### the greatest divisor of a list -/
def dvP (fl : List Int) (ds : List D) (ρ : Ev) : Prop := ∃ (pre rest : List Int) (g : Int) (j : Option D), ds = rest.map .int ∧ pre ++ rest = fl ∧ ρ = [some (.list (fl.map .int)), some (.int g), j] ∧ 0 ≤ g ∧ ∀ L : Int → Int → Prop, Lat L → ((∀ f ∈ pre, L f 0) ↔ L g 0)
theorem divisor_all_ok (fl : List Int) : ∃ g : Int, d_divisor_of_all [.list (fl.map .int)] = .ok (.int g) [] ∧ 0 ≤ g ∧ ∀ L : Int → Int → Prop, Lat L → ((∀ f ∈ fl, L f 0) ↔ L g 0) := by
  unfold d_divisor_of_all
  simp
  generalize hW : sFor.go _ _ _ _ _ = W
  have : WEnd (dvP fl []) [] W := by
    rw [← hW]
    clear hW
    refine for_P (dvP fl) ?_ _ _ ⟨[], fl, 0, none, rfl, rfl, rfl, by omega, fun L hL => ⟨fun _ => hL.z, fun _ _ h => nomatch h⟩⟩
    rintro d ds ρ ⟨pre, rest, g, j, ed, er, rfl, g0, hg⟩
    cases rest with
    | nil => cases ed
    | cons f rest =>
      cases ed
      refine ⟨_, rfl, ?_⟩
      simp [common_divisor_ok]
      refine .next ⟨pre ++ [f], rest, Int.gcd g f, _, rfl, by rw [← er]; simp, rfl, by omega, fun L hL => ?_⟩
      obtain ⟨x, y, e⟩ := bez g f
      rw [← gcd_flat hL e (gcd_dvd2 g f).1 (gcd_dvd2 g f).2, ← hg L hL]
      simp only [List.mem_append, List.mem_singleton]
      exact ⟨fun h => ⟨fun z hz => h z (.inl hz), h f (.inr rfl)⟩, fun ⟨h1, h2⟩ z hz => hz.elim (h1 z) fun e => by rw [e]; exact h2⟩
  obtain ⟨_, rfl, pre, rest, g, j, ed, er, rfl, g0, hg⟩ := this
  clear hW
  cases rest with
  | cons => cases ed
  | nil =>
    have ep : pre = fl := by simpa using er
    subst ep
    exact ⟨g, by simp, g0, fun L hL => by simpa using hg L hL⟩
/-! ### the ideal of members -/
noncomputable abbrev omB : Ev → MM Fl := (sSeq (sAsg (eCall d_combined (aCons (eBin vIx (eVar 5) (eC (.int 1))) (aCons (eBin vIx (eVar 7) (eC (.int 1))) aNil))) (gT (gsCons (gN 8) (gsCons (gN 9) (gsCons (gN 10) gsNil)))))
 (sIf (bBin vNe (eVar 8) (eC (.int 0))) (sSeq (sAsg (eTup (aCons (eBin vAdd (eBin vMul (eVar 9) (eBin vIx (eVar 5) (eC (.int 0)))) (eBin vMul (eVar 10) (eBin vIx (eVar 7) (eC (.int 0))))) (aCons (eVar 8) aNil))) (gN 11))
 (sSeq (sFor (iSeq (eTup (aCons (eVar 5) (aCons (eVar 7) aNil)))) (gN 12) (sApp 6 (eBin vSub (eBin vIx (eVar 12) (eC (.int 0))) (eBin vMul (eBin vFdiv (eBin vIx (eVar 12) (eC (.int 1))) (eVar 8)) (eBin vIx (eVar 11) (eC (.int 0)))))))
 (sAsg (eVar 11) (gN 5)))) (sApp 6 (eBin vIx (eVar 7) (eC (.int 0))))))
structure OmI (pre : List El) (X Y : Int) (fl : List Int) : Prop where
  e : ∀ L : Int → Int → Prop, Lat L → ((∀ m ∈ pre, L m.1 m.2) ↔ L X Y ∧ ∀ f ∈ fl, L f 0)
  y : 0 ≤ Y
  y2 : Y < 2 ^ 60
  xz : Y = 0 → X = 0
  x : Szc X (60 + 300 * pre.length)
  l : fl.length ≤ 2 * pre.length
def encX (m : El) : D := .tuple [.int m.1, .int m.2]
def omP (a b c c' : Option D) (rows : List El) (ds : List D) (ρ : Ev) : Prop := ∃ (pre rest : List El) (X Y : Int) (fl : List Int) (j7 j8 j9 j10 j11 j12 : Option D), ds = rest.map encX ∧ pre ++ rest = rows ∧ OmI pre X Y fl ∧
  ρ = [a, b, some (.list (rows.map encX)), c, c', some (.tuple [.int X, .int Y]), some (.list (fl.map .int)), j7, j8, j9, j10, j11, j12, none, none, none]
theorem gcd_small {a b : Int} (ha : a.natAbs < 2 ^ 60) (hb : b.natAbs < 2 ^ 60) : (Int.gcd a b : Int) < 2 ^ 60 := by
  by_cases z : a = 0
  · subst z
    rw [Int.gcd_zero_left]; omega
  · have := Int.le_of_dvd (a := Int.gcd a b) (b := a.natAbs) (by omega) (by
      have := (gcd_dvd2 a b).1
      exact Int.dvd_natAbs.2 this)
    omega
theorem om_step {a b c c' : Option D} {rows : List El} (hr : ∀ m ∈ rows, Szc m.1 60 ∧ Szc m.2 60) (hl : rows.length ≤ 100) {d : D} {ds : List D} {ρ : Ev} (h : omP a b c c' rows (d :: ds) ρ) : ∃ ρ1, gN 7 d ρ = some ρ1 ∧ FStep (omP a b c c' rows ds) (fun _ => False) [] (omB ρ1 []) := by
  obtain ⟨pre, rest, X, Y, fl, j7, j8, j9, j10, j11, j12, ed, er, I, rfl⟩ := h
  cases rest with
  | nil => cases ed
  | cons m rest =>
    obtain ⟨r, s⟩ := m
    cases ed
    refine ⟨_, rfl, ?_⟩
    obtain ⟨zr, zs⟩ := hr (r, s) (by rw [← er]; simp)
    simp only at zr zs
    have y0 := I.y
    have y1 := I.y2
    have hs := zs.h
    have pl : pre.length + 1 ≤ 100 := by rw [← er] at hl; simp at hl; omega
    have ll := I.l
    obtain ⟨u, v, hc, e, bu, bv⟩ := combined_ok Y s (by omega) (by omega)
    have gs := gcd_small (a := Y) (b := s) (by omega) (by omega)
    obtain ⟨d1, d2⟩ := gcd_dvd2 Y s
    have g0 : (0 : Int) ≤ Int.gcd Y s := by omega
    have gz : (Int.gcd Y s : Int) = 0 → Y = 0 ∧ s = 0 := fun z => by
      have : Int.gcd Y s = 0 := by omega
      exact Int.gcd_eq_zero_iff.1 this
    have zX := I.x
    have l1 : fl.length < sizeLine := by show _ < 16777216; omega
    have l2 : fl.length + 1 < sizeLine := by show _ < 16777216; omega
    generalize (Int.gcd Y s : Int) = g at *
    by_cases gg : g = 0
    · obtain ⟨rfl, rfl⟩ := gz gg
      have x0 := I.xz rfl
      subst x0
      simp [encX, hc, gg, l1]
      refine .next ⟨pre ++ [(r, 0)], rest, 0, 0, fl ++ [r], some (.tuple [.int r, .int 0]), some (.int 0), some (.int u), some (.int v), j11, j12, rfl, by rw [← er]; simp, ⟨fun L hL => ?_, by omega, by omega, fun _ => rfl, ⟨by simp; exact Nat.two_pow_pos _⟩, by simp; omega⟩, by simp [encX]⟩
      have := I.e L hL
      simp only [List.mem_append, List.mem_singleton]
      constructor
      · intro h
        refine ⟨hL.z, fun f hf => ?_⟩
        rcases hf with hf | rfl
        · exact (this.1 fun m hm => h m (.inl hm)).2 f hf
        · exact h (f, 0) (.inr rfl)
      · rintro ⟨_, h⟩ m hm
        rcases hm with hm | rfl
        · exact this.2 ⟨hL.z, fun f hf => h f (.inl hf)⟩ m hm
        · exact h r (.inr rfl)
    · have gp : 0 < g := by omega
      have zu : Szc u 200 := ⟨bu⟩
      have zv : Szc v 200 := ⟨bv⟩
      have zy : Szc Y 60 := ⟨by omega⟩
      have q1 : vFdiv (.int Y) (.int g) = some (.int (Y / g)) := divSm gp (by omega)
      have q2 : vFdiv (.int s) (.int g) = some (.int (s / g)) := divSm gp (by omega)
      have z1 : Szc (Y / g) 60 := ⟨Nat.lt_of_le_of_lt (Int.natAbs_ediv_le_natAbs Y g) (by omega)⟩
      have z2 : Szc (s / g) 60 := ⟨Nat.lt_of_le_of_lt (Int.natAbs_ediv_le_natAbs s g) hs⟩
      have zf : Szc (u * X + v * r) (60 + 300 * (pre.length + 1)) := szcMono (inferInstance : Szc (u * X + v * r) _) (by omega)
      have zn : 60 + 300 * (pre.length + 1) < 40000 := by omega
      have zX2 : Szc X (60 + 300 * (pre.length + 1)) := szcMono zX (by omega)
      obtain ⟨N, hN⟩ : ∃ N, 60 + 300 * (pre.length + 1) = N := ⟨_, rfl⟩
      rw [hN] at zf zn zX2
      have m1 : vMul (.int u) (.int X) = some (.int (u * X)) := vMul_le zu zX2 (by omega)
      have m2 : vMul (.int v) (.int r) = some (.int (v * r)) := vMul_le zv zr (by omega)
      have st := fun L (hL : Lat L) => red_step (X := X) (r := r) hL gg e d1 d2
      obtain ⟨F, hF⟩ : ∃ F, u * X + v * r = F := ⟨_, rfl⟩
      rw [hF] at zf
      simp only [hF] at st
      have m3 : vMul (.int (Y / g)) (.int F) = some (.int (Y / g * F)) := vMul_le z1 zf (by omega)
      have m4 : vMul (.int (s / g)) (.int F) = some (.int (s / g * F)) := vMul_le z2 zf (by omega)
      simp [encX, hc, gg, m1, m2, hF, go_cons, q1, q2, m3, m4, l1, l2]
      refine .next ⟨pre ++ [(r, s)], rest, F, g, fl ++ [X - Y / g * F, r - s / g * F], some (.tuple [.int r, .int s]), some (.int g), some (.int u), some (.int v), some (.tuple [.int F, .int g]), some (.tuple [.int r, .int s]), rfl, by rw [← er]; simp, ⟨fun L hL => ?_, g0, gs, fun z => absurd z gg, by rw [List.length_append, List.length_singleton, hN]; exact zf, by simp; omega⟩, by simp [encX]⟩
      have i := I.e L hL
      have t := st L hL
      simp only [List.mem_append, List.mem_singleton, List.mem_cons, List.not_mem_nil, or_false]
      constructor
      · intro h
        obtain ⟨i1, i2⟩ := i.1 fun m hm => h m (.inl hm)
        obtain ⟨t1, t2, t3⟩ := t.1 ⟨i1, h (r, s) (.inr rfl)⟩
        refine ⟨t1, fun f hf => ?_⟩
        rcases hf with hf | rfl | rfl
        · exact i2 f hf
        · exact t2
        · exact t3
      · rintro ⟨t1, h⟩ m hm
        obtain ⟨k1, k2⟩ := t.2 ⟨t1, h _ (.inr (.inl rfl)), h _ (.inr (.inr rfl))⟩
        rcases hm with hm | rfl
        · exact i.2 ⟨k1, fun f hf => h f (.inl hf)⟩ m hm
        · exact k2
end M

set_option Elab.async false
set_option linter.all false
set_option maxRecDepth 100000
set_option maxHeartbeats 4000000
namespace M
open PySem PySem.Spec PyProof.Rows L2
theorem w_mul (R : Rg) (m : El) : R.mul m (0, 1) = R.w m := by
  simp only [Rg.mul, Rg.w, Prod.mk.injEq]; constructor <;> grind
theorem w_enc (R : Rg) : PyData.tuple [.int R.s, .int 1] = encE R (0, 1) := by simp [encE, Rg.x]
theorem w_sz {R : Rg} {D : Int} (hD : Dc D R) (zD : Szc D 20) {m : El} (h : SzE R 40 m) : SzE R 60 (R.w m) := by
  have tx := times_x hD m (0, 1)
  have ty := times_y R m (0, 1)
  rw [w_mul] at tx ty
  have hs := hD.s
  have h1 := h.x.h
  have h2 := h.y.h
  have h3 := (szMul2 zD h.y).h
  have e1 : R.x (0, 1) = R.s := by simp [Rg.x]
  rw [e1] at tx ty
  simp only [Int.mul_one] at tx ty
  have b1 : (R.x m * R.s).natAbs ≤ (R.x m).natAbs := by rcases hs with z | z <;> rw [z] <;> simp
  have b2 : (m.2 * R.s).natAbs ≤ m.2.natAbs := by rcases hs with z | z <;> rw [z] <;> simp
  exact ⟨⟨by omega⟩, ⟨by omega⟩⟩
def xyOf (R : Rg) (ms : List El) : List El := (rowsOf R ms).map fun m => (R.x m, m.2)
theorem rowsOf_snoc (R : Rg) (ms : List El) (m : El) : rowsOf R (ms ++ [m]) = rowsOf R ms ++ [m, R.w m] := by simp [rowsOf]
theorem rowsOf_len (R : Rg) (ms : List El) : (rowsOf R ms).length = 2 * ms.length := by
  induction ms with
  | nil => rfl
  | cons m ms ih =>
    have : rowsOf R (m :: ms) = [m, R.w m] ++ rowsOf R ms := by simp [rowsOf]
    rw [this, List.length_append, ih, List.length_cons]
    simp only [List.length_cons, List.length_nil]
    omega
theorem xy_enc (R : Rg) (ms : List El) : (xyOf R ms).map encX = (rowsOf R ms).map (encE R) := by
  unfold xyOf
  rw [List.map_map]
  rfl
def omA (R : Rg) (D : Int) (ms : List El) (ds : List PyData) (ρ : Ev) : Prop := ∃ (pre rest : List El) (j3 j4 : Option PyData), ds = rest.map (encE R) ∧ pre ++ rest = ms ∧ ρ = [some (.int D), some (.list (ms.map (encE R))), some (.list ((rowsOf R pre).map (encE R))), j3, j4, none, none, none, none, none, none, none, none, none, none, none]
theorem omA_step {R : Rg} {D : Int} (hD : Dc D R) (zD : Szc D 20) {ms : List El} (hm : ∀ m ∈ ms, SzE R 40 m) (hl : ms.length ≤ 20) {d : PyData} {ds : List PyData} {ρ : Ev} (h : omA R D ms (d :: ds) ρ) : ∃ ρ1, gT (gsCons (gN 3) (gsCons (gN 4) gsNil)) d ρ = some ρ1 ∧ FStep (omA R D ms ds) (fun _ => False) [] ((sExt 2 (eLst (aCons (eTup (aCons (eVar 3) (aCons (eVar 4) aNil))) (aCons (eCall d_multiplied (aCons (eVar 0) (aCons (eTup (aCons (eVar 3) (aCons (eVar 4) aNil))) (aCons (eTup (aCons (eBin vMod (eVar 0) (eC (.int 2))) (aCons (eC (.int 1)) aNil))) aNil)))) aNil)))) ρ1 []) := by
  obtain ⟨pre, rest, j3, j4, ed, er, rfl⟩ := h
  cases rest with
  | nil => cases ed
  | cons m rest =>
    cases ed
    refine ⟨_, rfl, ?_⟩
    have z := hm m (by rw [← er]; simp)
    have mo := multiplied_ok (v := (0, 1)) hD zD z (k := 5) ⟨by rcases hD.s with e | e <;> simp [Rg.x, e] <;> exact ⟨by decide⟩, ⟨by decide⟩⟩ (by omega)
    rw [w_mul] at mo
    have pl : pre.length + 1 ≤ 20 := by rw [← er] at hl; simp at hl; omega
    have rl := rowsOf_len R pre
    have l1 : (rowsOf R pre).length + 2 < sizeLine := by show _ < 16777216; omega
    have l2 : (rowsOf R pre).length + 2 ≤ sizeLine := by show _ ≤ 16777216; omega
    have md : vMod (.int D) (.int 2) = some (.int R.s) := by rw [modP (by omega), hD.mod]
    have en : PyData.tuple [.int (R.x m), .int m.2] = encE R m := rfl
    simp [md, w_enc, en, mo, l1, l2]
    refine .next ⟨pre ++ [m], rest, some (.int (R.x m)), some (.int m.2), rfl, by rw [← er]; simp, ?_⟩
    rw [rowsOf_snoc]
    simp
theorem ofm_ok {R : Rg} {D : Int} (hD : Dc D R) (zD : Szc D 20) {ms : List El} (hm : ∀ m ∈ ms, SzE R 40 m) (hl : ms.length ≤ 20) {n : Int} (hn : n ≠ 0) (zn : Szc n 60) (on : OS R ms n 0) :
    ∃ f : Fm, d_ideal_of_members [.int D, .list (ms.map (encE R))] = .ok f.enc [] ∧ GoodF D f ∧ (∀ p q, (tI R f).has p q ↔ OS R ms p q) ∧ f.a * f.b ∣ n := by
  have b1 := for_P (omA R D ms) (fun d ds ρ h => omA_step hD zD hm hl h) (ms.map (encE R)) [some (.int D), some (.list (ms.map (encE R))), some (.list []), none, none, none, none, none, none, none, none, none, none, none, none, none] ⟨[], ms, none, none, rfl, rfl, rfl⟩
  obtain ⟨_, e1, pre, rest, j3, j4, ed, er, rfl⟩ := b1
  have hrest : rest = [] := by cases rest with
    | nil => rfl
    | cons => cases ed
  subst hrest
  have ep : pre = ms := by simpa using er
  subst ep
  have rs : ∀ m ∈ xyOf R pre, Szc m.1 60 ∧ Szc m.2 60 := by
    intro m hx
    obtain ⟨r, hr, rfl⟩ := List.mem_map.1 hx
    obtain ⟨m, hm1, h⟩ := List.mem_flatMap.1 hr
    have z := hm m hm1
    have h : r = m ∨ r = R.w m := by simpa using h
    rcases h with rfl | rfl
    · exact ⟨szcMono z.x (by omega), szcMono z.y (by omega)⟩
    · have := w_sz hD zD z
      exact ⟨this.x, this.y⟩
  have b2 := for_P (omP (some (.int D)) (some (.list (pre.map (encE R)))) j3 j4 (xyOf R pre)) (fun d ds ρ h => om_step rs (by unfold xyOf; rw [List.length_map, rowsOf_len]; omega) h) ((xyOf R pre).map encX) [some (.int D), some (.list (pre.map (encE R))), some (.list ((xyOf R pre).map encX)), j3, j4, some (.tuple [.int 0, .int 0]), some (.list []), none, none, none, none, none, none, none, none, none]
    ⟨[], xyOf R pre, 0, 0, [], none, none, none, none, none, none, rfl, rfl, ⟨fun L hL => ⟨fun _ => ⟨hL.z, fun _ h => nomatch h⟩, fun _ _ h => nomatch h⟩, by omega, by omega, fun _ => rfl, ⟨by decide +kernel⟩, by simp⟩, rfl⟩
  obtain ⟨_, e2, pre2, rest2, X, Y, fl, j7, j8, j9, j10, j11, j12, ed2, er2, I, rfl⟩ := b2
  have hrest : rest2 = [] := by cases rest2 with
    | nil => rfl
    | cons => cases ed2
  subst hrest
  have ep2 : pre2 = xyOf R pre := by simpa using er2
  subst ep2
  obtain ⟨S, e3, s0, sL⟩ := divisor_all_ok fl
  have rows : Rows R pre X Y S := ⟨fun L hL => by
    rw [← sL L hL, ← I.e L hL]
    unfold xyOf
    constructor
    · intro h m hx
      obtain ⟨r, hr, rfl⟩ := List.mem_map.1 hx
      exact h r hr
    · intro h m hx
      exact h (R.x m, m.2) (List.mem_map.2 ⟨m, hx, rfl⟩), I.y, s0⟩
  obtain ⟨A, B, hA, hB, Y0, A0, dA, dB, ok, hh⟩ := rows_hnf rows hn on
  have rf := redF_ok hD ok
  have yb := I.y2
  obtain ⟨a, rfl⟩ := dA
  obtain ⟨β, rfl⟩ := dB
  have ea : Y * a / Y = a := Int.mul_ediv_cancel_left _ (by omega)
  have eb : Y * β / Y = β := Int.mul_ediv_cancel_left _ (by omega)
  rw [ea, eb] at rf hh ok
  have dn : Y * a ∣ n := by
    have := ((hh n 0).2 on).2
    simpa using this
  have a0 := ok.a
  simp only at a0
  have an : Y * a ≤ n.natAbs := Int.le_of_dvd (by omega) (Int.dvd_natAbs.2 dn)
  have al : a ≤ Y * a := by
    have := Int.mul_le_mul_of_nonneg_right (show 1 ≤ Y by omega) (Int.le_of_lt a0)
    omega
  have znh := zn.h
  have za : Szc a 60 := ⟨by omega⟩
  have zy : Szc Y 60 := ⟨by omega⟩
  refine ⟨redF R ⟨Y, a, β⟩, ?_, rf.1, fun p q => (rf.2 p q).trans (hh p q), dn⟩
  have n1 : ¬ S = 0 := by omega
  have n2 : ¬ Y = 0 := by omega
  have q1 : vFdiv (.int S) (.int (2 * Y)) = some (.int a) := by
    rw [divSm (by omega) (by omega), hA]
    congr 2
    have : 2 * (Y * a) = 2 * Y * a := by grind
    rw [this]; exact Int.mul_ediv_cancel_left _ (by omega)
  have q2 : vFdiv (.int X) (.int Y) = some (.int (2 * β + R.s)) := by
    rw [divSm Y0 (by omega), hB]
    congr 2
    have : 2 * (Y * β) + R.s * Y = Y * (2 * β + R.s) := by grind
    rw [this]; exact Int.mul_ediv_cancel_left _ (by omega)
  have q3 : vMod (.int (2 * β + R.s)) (.int (2 * a)) = some (.int ((2 * β + R.s) % (2 * a))) := modP (by omega)
  have xe := xy_enc R pre
  unfold d_ideal_of_members
  simp [e1]
  rw [← xe]
  simp [e2]
  simp [e3, n1, n2, q1, q2, q3]
  rfl
end M

set_option Elab.async false
set_option linter.all false
set_option maxRecDepth 100000
set_option maxHeartbeats 4000000
namespace M
open PySem PySem.Spec PyProof.Rows L2
/-- an ideal with numbers that are not too great -/
structure GB (D : Int) (n : Nat) (f : Fm) : Prop where
  g : GoodF D f
  k : f.a < 2 ^ n
  a : f.b < 2 ^ n
theorem GB.sk {D : Int} {n : Nat} {f : Fm} (h : GB D n f) : Szc f.a n := ⟨by
  have h1 := h.k; have := h.g.k
  have e : ((2 ^ n : Nat) : Int) = 2 ^ n := Int.natCast_pow 2 n
  omega⟩
theorem GB.sa {D : Int} {n : Nat} {f : Fm} (h : GB D n f) : Szc f.b n := ⟨by
  have h1 := h.a; have := h.g.a
  have e : ((2 ^ n : Nat) : Int) = 2 ^ n := Int.natCast_pow 2 n
  omega⟩
theorem GB.sc {D : Int} {n : Nat} {f : Fm} (h : GB D n f) : Szc f.c (n + 1) := ⟨by
  have h1 := h.a; have h2 := h.g.lo; have := h.g.hi
  have e : ((2 ^ (n + 1) : Nat) : Int) = 2 ^ n * 2 := by rw [Int.natCast_pow, Int.pow_succ]; rfl
  omega⟩
theorem e1_x (R : Rg) (f : Fm) : R.x (tI R f).e1 = 2 * f.a * f.b := by simp only [Rg.x, Id3.e1, tI]; grind
theorem e2_x {D : Int} {R : Rg} (hD : Dc D R) {f : Fm} (h : GoodF D f) : R.x (tI R f).e2 = f.a * f.c := by
  have p := h.par hD
  simp only [Rg.x, Id3.e2, tI]
  conv => rhs; rw [p]
  grind
theorem e1_enc (R : Rg) (f : Fm) : encE R (tI R f).e1 = .tuple [.int (2 * f.a * f.b), .int 0] := by unfold encE; rw [e1_x]; rfl
theorem e2_enc {D : Int} {R : Rg} (hD : Dc D R) {f : Fm} (h : GoodF D f) : encE R (tI R f).e2 = .tuple [.int (f.a * f.c), .int f.a] := by unfold encE; rw [e2_x hD h]; rfl
theorem members_ok {D : Int} {R : Rg} (hD : Dc D R) {f : Fm} (h : GB D 30 f) : d_members_of [f.enc] = .ok (.tuple [encE R (tI R f).e1, encE R (tI R f).e2]) [] := by
  have := h.sk; have := h.sa; have := h.sc
  rw [e1_enc, e2_enc hD h.g]
  unfold d_members_of
  simp
theorem gen_sz {D : Int} {R : Rg} (hD : Dc D R) {n : Nat} {f : Fm} (h : GB D n f) : SzE R (n + n + 2) (tI R f).e1 ∧ SzE R (n + n + 2) (tI R f).e2 := by
  have s1 := h.sk; have s2 := h.sa; have s3 := h.sc
  refine ⟨⟨?_, ?_⟩, ⟨?_, ?_⟩⟩
  · rw [e1_x]
    exact szcMono (szMul2 (szMul2 (show Szc 2 2 from ⟨by decide⟩) s1) s2) (by omega)
  · show Szc 0 _
    exact szcMono (show Szc 0 0 from inferInstance) (by omega)
  · rw [e2_x hD h.g]
    exact szcMono (szMul2 s1 s3) (by omega)
  · show Szc f.a _
    exact szcMono s1 (by omega)
def hasXY (D : Int) (f : Fm) (x y : Int) : Prop := (x - y * D) % 2 = 0 ∧ y % f.a = 0 ∧ (x - y * f.c) % (2 * f.a * f.b) = 0
instance (D : Int) (f : Fm) (x y : Int) : Decidable (hasXY D f x y) := by unfold hasXY; infer_instance
theorem hasXY_iff {D : Int} {R : Rg} (hD : Dc D R) {f : Fm} (h : GoodF D f) (u : El) : hasXY D f (R.x u) u.2 ↔ (tI R f).has u.1 u.2 := by
  have p := h.par hD
  have k0 := h.k
  have a0 := h.a
  have ka := Int.mul_pos k0 a0
  have e1 : (R.x u - u.2 * D) % 2 = 0 := by
    have : R.x u - u.2 * D = 2 * (u.1 - 2 * (R.t * u.2)) := by rw [hD.e]; simp only [Rg.x]; grind
    rw [this]; omega
  have e2 : R.x u - u.2 * f.c = 2 * (u.1 - (f.c - R.s) / 2 * u.2) := by
    generalize (f.c - R.s) / 2 = β at *
    rw [p]; simp only [Rg.x]; grind
  have e3 : 2 * f.a * f.b = 2 * (f.a * f.b) := by grind
  unfold hasXY
  rw [e2, e3]
  constructor
  · rintro ⟨_, h2, h3⟩
    exact ⟨Int.dvd_of_emod_eq_zero h2, Int.dvd_of_mul_dvd_mul_left (by omega) (Int.dvd_of_emod_eq_zero h3)⟩
  · rintro ⟨h2, h3⟩
    exact ⟨e1, Int.emod_eq_zero_of_dvd h2, Int.emod_eq_zero_of_dvd (Int.mul_dvd_mul_left 2 h3)⟩
theorem is_row2 (x y : Int) : d_is_row [.tuple [.int x, .int y], .int 2] = .ok (.bool true) [] := by
  unfold d_is_row d_is_integer
  simp [isiT, lcGo_cons, lcGo_nil, fAll, boolsOf]
theorem is_elem_ok {D x y : Int} (zD : Szc D 20) (zx : Szc x 200) (zy : Szc y 200) : d_is_element [.int D, .tuple [.int x, .int y]] = .ok (.bool (decide ((x - y * D) % 2 = 0))) [] := by
  have md : vMod (.int (x - y * D)) (.int 2) = some (.int ((x - y * D) % 2)) := modP (by omega)
  unfold d_is_element
  simp [is_row2, md]
theorem has_member_ok {D x y : Int} {f : Fm} (zD : Szc D 20) (h : GB D 30 f) (zx : Szc x 200) (zy : Szc y 200) : d_has_member [.int D, f.enc, .tuple [.int x, .int y]] = .ok (.bool (decide (hasXY D f x y))) [] := by
  have := h.sk; have := h.sa; have := h.sc
  have k0 := h.g.k
  have m1 : vMod (.int y) (.int f.a) = some (.int (y % f.a)) := modP k0
  have m2 : vMod (.int (x - y * f.c)) (.int (2 * f.a * f.b)) = some (.int ((x - y * f.c) % (2 * f.a * f.b))) := modP (Int.mul_pos (by omega) h.g.a)
  have ie := is_elem_ok zD zx zy
  unfold d_has_member
  by_cases c1 : (x - y * D) % 2 = 0
  · by_cases c2 : y % f.a = 0
    · simp [ie, m1, m2, c1, c2, hasXY]
    · simp [ie, m1, m2, c1, c2, hasXY]
  · simp [ie, m1, m2, c1, hasXY]
theorem L_has_ok {D x y : Int} {f : Fm} (zD : Szc D 20) (h : GB D 30 f) (zx : Szc x 200) (zy : Szc y 200) : d_L_ideal_has [.int D, f.enc, .tuple [.int x, .int y]] = .ok (.bool (decide (hasXY D f x y))) [] := by
  have := h.sk; have := h.sa; have := h.sc
  have k0 := h.g.k
  have m0 : vMod (.int (x - y * D)) (.int 2) = some (.int ((x - y * D) % 2)) := modP (by omega)
  have m1 : vMod (.int y) (.int f.a) = some (.int (y % f.a)) := modP k0
  have m2 : vMod (.int (x - y * f.c)) (.int (2 * f.a * f.b)) = some (.int ((x - y * f.c) % (2 * f.a * f.b))) := modP (Int.mul_pos (by omega) h.g.a)
  unfold d_L_ideal_has
  by_cases c1 : (x - y * D) % 2 = 0
  · by_cases c2 : y % f.a = 0
    · simp [m0, m1, m2, c1, c2, hasXY]
    · simp [m0, m1, m2, c1, c2, hasXY]
  · simp [m0, m1, m2, c1, hasXY]
open Classical in
theorem has_u {D : Int} {R : Rg} (hD : Dc D R) {f : Fm} (zD : Szc D 20) (h : GB D 30 f) {u : El} (z : SzE R 200 u) : d_has_member [.int D, f.enc, encE R u] = .ok (.bool (decide ((tI R f).has u.1 u.2))) [] := by
  have := has_member_ok zD h z.x z.y
  have e : decide (hasXY D f (R.x u) u.2) = decide ((tI R f).has u.1 u.2) := decide_eq_decide.2 (hasXY_iff hD h.g u)
  rw [e] at this
  exact this
open Classical in
theorem L_has_u {D : Int} {R : Rg} (hD : Dc D R) {f : Fm} (zD : Szc D 20) (h : GB D 30 f) {u : El} (z : SzE R 200 u) : d_L_ideal_has [.int D, f.enc, encE R u] = .ok (.bool (decide ((tI R f).has u.1 u.2))) [] := by
  have := L_has_ok zD h z.x z.y
  have e : decide (hasXY D f (R.x u) u.2) = decide ((tI R f).has u.1 u.2) := decide_eq_decide.2 (hasXY_iff hD h.g u)
  rw [e] at this
  exact this
def Sub (I J : Id3) : Prop := ∀ p q, I.has p q → J.has p q
theorem sub_iff (I J : Id3) : Sub I J ↔ J.has I.e1.1 I.e1.2 ∧ J.has I.e2.1 I.e2.2 :=
  ⟨fun h => ⟨h _ _ I.has_e1, h _ _ I.has_e2⟩, fun ⟨h1, h2⟩ _ _ hp => Id3.least J.lat h1 h2 hp⟩
open Classical in
theorem within_ok {D : Int} {R : Rg} (hD : Dc D R) {f g : Fm} (zD : Szc D 20) (hf : GB D 30 f) (hg : GB D 30 g) : d_is_within [.int D, f.enc, g.enc] = .ok (.bool (decide (Sub (tI R f) (tI R g)))) [] := by
  have m := members_ok hD hf
  obtain ⟨s1, s2⟩ := gen_sz hD hf
  have h1 := has_u hD zD hg (u := (tI R f).e1) ⟨szcMono s1.x (by omega), szcMono s1.y (by omega)⟩
  have h2 := has_u hD zD hg (u := (tI R f).e2) ⟨szcMono s2.x (by omega), szcMono s2.y (by omega)⟩
  have e : decide (Sub (tI R f) (tI R g)) = (decide ((tI R g).has (tI R f).e1.1 (tI R f).e1.2) && decide ((tI R g).has (tI R f).e2.1 (tI R f).e2.2)) := by
    rw [← Bool.decide_and]; exact decide_eq_decide.2 (sub_iff _ _)
  rw [e]
  unfold d_is_within
  have l2 : 2 ≤ sizeLine := by decide
  simp [m, lcGo_cons, lcGo_nil, h1, h2, fAll, boolsOf, kLc_ok, l2]
end M

set_option Elab.async false
set_option linter.all false
set_option maxRecDepth 100000
set_option maxHeartbeats 4000000
namespace M
open PySem PySem.Spec PyProof.Rows L2
theorem GB.of_dvd {D : Int} {f : Fm} {n : Nat} {m : Int} (h : GoodF D f) (hd : f.a * f.b ∣ m) (m0 : 0 < m) (m1 : m < 2 ^ n) : GB D n f := by
  have k0 := h.k
  have a0 := h.a
  have l := Int.le_of_dvd m0 hd
  have l1 := Int.mul_le_mul_of_nonneg_left (show 1 ≤ f.b by omega) (Int.le_of_lt k0)
  have l2 := Int.mul_le_mul_of_nonneg_right (show 1 ≤ f.a by omega) (Int.le_of_lt a0)
  exact ⟨h, by omega, by omega⟩
theorem GB.mono {D : Int} {f : Fm} {n m : Nat} (h : GB D n f) (hm : n ≤ m) : GB D m f := by
  have : (2 : Int) ^ n ≤ 2 ^ m := by
    have := Nat.pow_le_pow_right (show 0 < 2 by omega) hm
    have e1 : ((2 ^ n : Nat) : Int) = 2 ^ n := Int.natCast_pow 2 n
    have e2 : ((2 ^ m : Nat) : Int) = 2 ^ m := Int.natCast_pow 2 m
    omega
  have := h.k; have := h.a
  exact ⟨h.g, by omega, by omega⟩
/-- tight sizes -/
structure GT (D : Int) (f : Fm) : Prop where
  g : GoodF D f
  b : f.a * f.b < 2 ^ 14
theorem GT.gb {D : Int} {f : Fm} (h : GT D f) : GB D 14 f := GB.of_dvd h.g (Int.dvd_refl _) (Int.mul_pos h.g.k h.g.a) h.b
theorem GT.g30 {D : Int} {f : Fm} (h : GT D f) : GB D 30 f := h.gb.mono (by omega)
theorem GT.of_dvd {D : Int} {f : Fm} {m : Int} (h : GoodF D f) (hd : f.a * f.b ∣ m) (m0 : 0 < m) (m1 : m < 2 ^ 14) : GT D f := ⟨h, by have := Int.le_of_dvd m0 hd; omega⟩
structure SzT (R : Rg) (u : El) : Prop where
  x : Szc (R.x u) 15
  y : Szc u.2 14
theorem SzT.e {R : Rg} {u : El} (h : SzT R u) {n : Nat} (hn : 15 ≤ n) : SzE R n u := ⟨szcMono h.x hn, szcMono h.y (by omega)⟩
theorem GT.gens {D : Int} {R : Rg} (hD : Dc D R) {f : Fm} (h : GT D f) : SzT R (tI R f).e1 ∧ SzT R (tI R f).e2 := by
  have k0 := h.g.k
  have a0 := h.g.a
  have b := h.b
  have l1 := Int.mul_le_mul_of_nonneg_left (show 1 ≤ f.b by omega) (Int.le_of_lt k0)
  have c0 := h.g.lo
  have c1 := h.g.hi
  have l2 := Int.mul_le_mul_of_nonneg_left (show f.c ≤ 2 * f.b by omega) (Int.le_of_lt k0)
  have l3 := Int.mul_nonneg (Int.le_of_lt k0) c0
  have e1 : f.a * (2 * f.b) = 2 * (f.a * f.b) := by grind
  have e2 : 2 * f.a * f.b = 2 * (f.a * f.b) := by grind
  refine ⟨⟨?_, ?_⟩, ⟨?_, ?_⟩⟩
  · rw [e1_x, e2]; exact ⟨by omega⟩
  · show Szc 0 _; exact ⟨by decide⟩
  · rw [e2_x hD h.g]
    have ne : f.a * f.c ≠ 2 * (f.a * f.b) := by
      intro z
      rw [← e1] at z
      have := Int.eq_of_mul_eq_mul_left (by omega) z
      omega
    exact ⟨by omega⟩
  · show Szc f.a _; exact ⟨by omega⟩
theorem prod_sz {D : Int} {R : Rg} (hD : Dc D R) (zD : Szc D 10) {u v : El} (hu : SzT R u) (hv : SzT R v) : SzE R 40 (R.mul u v) := by
  have tx := times_x hD u v
  have ty := times_y R u v
  have b1 := (szMul2 hu.x hv.x).h
  have b2 := (szMul2 (szMul2 zD hu.y) hv.y).h
  have b3 := (szMul2 hu.x hv.y).h
  have b4 := (szMul2 hu.y hv.x).h
  exact ⟨⟨by omega⟩, ⟨by omega⟩⟩
theorem sum_ok {D : Int} {R : Rg} (hD : Dc D R) (zD : Szc D 10) {f g : Fm} (hf : GT D f) (hg : GT D g) : ∃ S : Fm, d_ideal_sum [.int D, f.enc, g.enc] = .ok S.enc [] ∧ GT D S ∧ (∀ p q, (tI R S).has p q ↔ SumP (tI R f) (tI R g) p q) := by
  have m1 := members_ok hD hf.g30
  have m2 := members_ok hD hg.g30
  obtain ⟨s1, s2⟩ := hf.gens hD
  obtain ⟨s3, s4⟩ := hg.gens hD
  have n0 := Int.mul_pos hf.g.k hf.g.a
  have nb := hf.b
  obtain ⟨S, h1, h2, h3, h4⟩ := ofm_ok hD (szcMono zD (by omega)) (ms := [(tI R f).e1, (tI R f).e2, (tI R g).e1, (tI R g).e2]) (n := f.a * f.b) (by
      intro m hm
      simp only [List.mem_cons, List.not_mem_nil, or_false] at hm
      rcases hm with rfl | rfl | rfl | rfl
      · exact s1.e (by omega)
      · exact s2.e (by omega)
      · exact s3.e (by omega)
      · exact s4.e (by omega)) (by simp) (by omega) ⟨by omega⟩ (OS.mem (m := (tI R f).e1) (by simp))
  refine ⟨S, ?_, GT.of_dvd h2 h4 n0 nb, fun p q => (h3 p q).trans (SumP.os (hf.g.ok hD) (hg.g.ok hD) p q)⟩
  have va : vAdd (.list [encE R (tI R f).e1, encE R (tI R f).e2]) (.list [encE R (tI R g).e1, encE R (tI R g).e2]) = some (.list [encE R (tI R f).e1, encE R (tI R f).e2, encE R (tI R g).e1, encE R (tI R g).e2]) := by
    unfold vAdd
    exact if_pos (by show 4 ≤ sizeLine; decide)
  unfold d_ideal_sum
  simp [m1, m2, va] at h1 ⊢
  simp [h1]
theorem product_ok {D : Int} {R : Rg} (hD : Dc D R) (zD : Szc D 10) {f g : Fm} (hf : GT D f) (hg : GT D g) : ∃ S : Fm, d_ideal_product [.int D, f.enc, g.enc] = .ok S.enc [] ∧ GoodF D S ∧ (∀ p q, (tI R S).has p q ↔ PZ R (tI R f) (tI R g) p q) ∧ S.a * S.b ∣ f.a * f.b * (g.a * g.b) := by
  have m1 := members_ok hD hf.g30
  have m2 := members_ok hD hg.g30
  obtain ⟨s1, s2⟩ := hf.gens hD
  obtain ⟨s3, s4⟩ := hg.gens hD
  have z20 : Szc D 20 := szcMono zD (by omega)
  have n0 := Int.mul_pos (Int.mul_pos hf.g.k hf.g.a) (Int.mul_pos hg.g.k hg.g.a)
  have nb : (f.a * f.b * (g.a * g.b)).natAbs < 2 ^ 60 := by
    have q1 : Szc (f.a * f.b) 14 := ⟨by have := hf.b; have := Int.mul_pos hf.g.k hf.g.a; omega⟩
    have q2 : Szc (g.a * g.b) 14 := ⟨by have := hg.b; have := Int.mul_pos hg.g.k hg.g.a; omega⟩
    have := (szMul2 q1 q2).h
    omega
  have p11 := multiplied_ok hD z20 (s1.e (Nat.le_refl _)) (s3.e (Nat.le_refl _)) (by omega)
  have p12 := multiplied_ok hD z20 (s1.e (Nat.le_refl _)) (s4.e (Nat.le_refl _)) (by omega)
  have p21 := multiplied_ok hD z20 (s2.e (Nat.le_refl _)) (s3.e (Nat.le_refl _)) (by omega)
  have p22 := multiplied_ok hD z20 (s2.e (Nat.le_refl _)) (s4.e (Nat.le_refl _)) (by omega)
  have e11 : R.mul (tI R f).e1 (tI R g).e1 = (f.a * f.b * (g.a * g.b), 0) := by simp only [Rg.mul, Id3.e1, tI, Prod.mk.injEq]; constructor <;> grind
  obtain ⟨S, h1, h2, h3, h4⟩ := ofm_ok hD z20 (ms := [R.mul (tI R f).e1 (tI R g).e1, R.mul (tI R f).e1 (tI R g).e2, R.mul (tI R f).e2 (tI R g).e1, R.mul (tI R f).e2 (tI R g).e2]) (n := f.a * f.b * (g.a * g.b)) (by
      intro m hm
      simp only [List.mem_cons, List.not_mem_nil, or_false] at hm
      rcases hm with rfl | rfl | rfl | rfl
      · exact prod_sz hD zD s1 s3
      · exact prod_sz hD zD s1 s4
      · exact prod_sz hD zD s2 s3
      · exact prod_sz hD zD s2 s4) (by simp) (by omega) ⟨nb⟩ (by
      have := OS.mem (R := R) (ms := [R.mul (tI R f).e1 (tI R g).e1, R.mul (tI R f).e1 (tI R g).e2, R.mul (tI R f).e2 (tI R g).e1, R.mul (tI R f).e2 (tI R g).e2]) (m := R.mul (tI R f).e1 (tI R g).e1) (by simp)
      rw [e11] at this
      rw [e11]
      exact this)
  refine ⟨S, ?_, h2, fun p q => (h3 p q).trans (PZ.os (hf.g.ok hD) p q), h4⟩
  have l2 : 2 ≤ sizeLine := by decide
  have l3 : 4 ≤ sizeLine := by decide
  have l5 : 2 < sizeLine := by decide
  have l6 : 4 < sizeLine := by decide
  have l0 : 0 < sizeLine := by decide
  unfold d_ideal_product
  simp [m1, m2, go_cons, lcGo_cons, lcGo_nil, p11, p12, p21, p22, kLc_ok, l2, l3, l5, l6] at h1 ⊢
  simp [h1]
theorem conj_ok {D : Int} {R : Rg} (hD : Dc D R) {f : Fm} (hf : GB D 30 f) : d_ideal_conjugate [f.enc] = .ok (redF R ((tI R f).cj R)).enc [] := by
  have := hf.sk; have := hf.sa; have := hf.sc
  have p := hf.g.par hD
  have a0 := hf.g.a
  have md : vMod (.int (-f.c)) (.int (2 * f.b)) = some (.int (-f.c % (2 * f.b))) := modP (by omega)
  have e : (redF R ((tI R f).cj R)).enc = .tuple [.int f.a, .int f.b, .int (-f.c % (2 * f.b))] := by
    show PyData.tuple [.int f.a, .int f.b, .int ((2 * -((f.c - R.s) / 2 + R.s) + R.s) % (2 * f.b))] = _
    have : 2 * -((f.c - R.s) / 2 + R.s) + R.s = -f.c := by omega
    rw [this]
  rw [e]
  unfold d_ideal_conjugate
  simp [md]
theorem conj_good {D : Int} {R : Rg} (hD : Dc D R) {f : Fm} (hf : GT D f) : GT D (redF R ((tI R f).cj R)) ∧ ∀ p q, (tI R (redF R ((tI R f).cj R))).has p q ↔ ((tI R f).cj R).has p q := by
  obtain ⟨h1, h2⟩ := redF_ok hD (Id3.cj_ok (hf.g.ok hD))
  exact ⟨⟨h1, hf.b⟩, h2⟩
theorem norm_ok {D : Int} {n : Nat} {f : Fm} (hf : GB D 30 f) : d_ideal_norm [f.enc] = .ok (.int (f.a * f.a * f.b)) [] := by
  have := hf.sk; have := hf.sa
  unfold d_ideal_norm
  simp
end M

set_option Elab.async false
set_option linter.all false
set_option maxRecDepth 100000
set_option maxHeartbeats 4000000
namespace M
open PySem PySem.Spec PyProof.Rows L2
def goodB (D : Int) (f : Fm) : Bool := decide (1 ≤ f.a) && (decide (1 ≤ f.b) && (decide (0 ≤ f.c) && (decide (f.c < 2 * f.b) && decide ((f.c * f.c - D) % (4 * f.b) = 0))))
theorem goodB_iff (D : Int) (f : Fm) : goodB D f = true ↔ GoodF D f := by
  unfold goodB
  simp only [Bool.and_eq_true, decide_eq_true_eq]
  constructor
  · rintro ⟨h1, h2, h3, h4, h5⟩
    exact ⟨by omega, by omega, h3, h4, Int.dvd_of_emod_eq_zero h5⟩
  · rintro ⟨h1, h2, h3, h4, h5⟩
    exact ⟨by omega, by omega, h3, h4, Int.emod_eq_zero_of_dvd h5⟩
theorem is_row3 (f : Fm) : d_is_row [f.enc, .int 3] = .ok (.bool true) [] := by
  unfold d_is_row d_is_integer Fm.enc
  simp [isiT, lcGo_cons, lcGo_nil, fAll, boolsOf]
theorem is_ideal_ok {D : Int} {f : Fm} (zD : Szc D 20) (h : FB 40 f) : d_is_ideal [.int D, f.enc] = .ok (.bool (goodB D f)) [] := by
  have := h.a; have := h.b; have := h.c
  unfold d_is_ideal goodB
  by_cases c1 : f.a < 1
  · have : ¬ 1 ≤ f.a := by omega
    simp [is_row3, c1, this]
  · by_cases c2 : f.b < 1
    · have : ¬ 1 ≤ f.b := by omega
      simp [is_row3, c1, c2, this]
    · have e1 : 1 ≤ f.a := by omega
      have e2 : 1 ≤ f.b := by omega
      have md : vMod (.int (f.c * f.c - D)) (.int (4 * f.b)) = some (.int ((f.c * f.c - D) % (4 * f.b))) := modP (by omega)
      by_cases c3 : 0 ≤ f.c
      · by_cases c4 : f.c < 2 * f.b
        · simp [is_row3, c1, c2, e1, e2, c3, c4, md]
        · simp [is_row3, c1, c2, e1, e2, c3, c4, md]
      · simp [is_row3, c1, c2, e1, e2, c3, md]
theorem L_is_ideal_ok {D : Int} {f : Fm} (zD : Szc D 20) (h : FB 40 f) : d_L_is_ideal [.int D, f.enc] = .ok (.bool (goodB D f)) [] := by
  have := h.a; have := h.b; have := h.c
  unfold d_L_is_ideal goodB
  by_cases c1 : 0 < f.a
  · have e1 : 1 ≤ f.a := by omega
    by_cases c2 : 0 < f.b
    · have e2 : 1 ≤ f.b := by omega
      have md : vMod (.int (f.c * f.c - D)) (.int (4 * f.b)) = some (.int ((f.c * f.c - D) % (4 * f.b))) := modP (by omega)
      by_cases c3 : 0 ≤ f.c
      · by_cases c4 : f.c < 2 * f.b
        · simp [Fm.enc, isiT, go_cons, c1, c2, e1, e2, c3, c4, md]
        · simp [Fm.enc, isiT, go_cons, c1, c2, e1, e2, c3, c4, md]
      · simp [Fm.enc, isiT, go_cons, c1, c2, e1, e2, c3, md]
    · have e2 : ¬ 1 ≤ f.b := by omega
      simp [Fm.enc, isiT, go_cons, c1, c2, e1, e2]
  · have e1 : ¬ 1 ≤ f.a := by omega
    simp [Fm.enc, isiT, go_cons, c1, e1]
end M

set_option Elab.async false
set_option linter.all false
set_option maxRecDepth 100000
set_option maxHeartbeats 4000000
namespace M
open PySem PySem.Spec PyProof.Rows L2
/-- what the search takes -/
def Hit (D : Int) (R : Rg) (f g h : Fm) : Prop := GoodF D h ∧ Sub (tI R h) (tI R f) ∧ Sub (tI R h) (tI R g)
def cwP (D : Int) (R : Rg) (f g : Fm) (k a : Int) (ds : List PyData) (ρ : Ev) : Prop := ∃ (c : Int) (r : Nat) (j5 j6 : Option PyData), ds = rangeL c 1 r ∧ 0 ≤ c ∧ c + r = 2 * a ∧ (∀ b, 0 ≤ b → b < c → ¬ Hit D R f g ⟨k, a, b⟩) ∧ ρ = [some (.int D), some f.enc, some g.enc, some (.int k), some (.int a), j5, j6]
theorem common_with_ok {D : Int} {R : Rg} (hD : Dc D R) (zD : Szc D 10) {f g : Fm} (hf : GT D f) (hg : GT D g) {k a : Int} (k0 : 0 < k) (a0 : 0 < a) (k1 : k < 2 ^ 25) (a1 : a < 2 ^ 25) :
    (∃ h : Fm, d_u_common_with [.int D, f.enc, g.enc, .int k, .int a] = .ok h.enc [] ∧ h.a = k ∧ h.b = a ∧ Hit D R f g h) ∨ (d_u_common_with [.int D, f.enc, g.enc, .int k, .int a] = .ok .none [] ∧ ∀ b, 0 ≤ b → b < 2 * a → ¬ Hit D R f g ⟨k, a, b⟩) := by
  have z20 : Szc D 20 := szcMono zD (by omega)
  have zk : Szc k 25 := ⟨by omega⟩
  have za : Szc a 25 := ⟨by omega⟩
  obtain ⟨r, hr⟩ : ∃ r : Nat, (2 * a).toNat = r := ⟨_, rfl⟩
  have r1 : iRange [.int (2 * a)] = some (rangeL 0 1 r) := by rw [← hr]; exact range1 (by omega)
  unfold d_u_common_with
  simp [r1]
  generalize hW : sFor.go _ _ _ _ _ = W
  have : FEnd (cwP D R f g k a []) (fun v => ∃ h : Fm, v = h.enc ∧ h.a = k ∧ h.b = a ∧ Hit D R f g h) [] W := by
    rw [← hW]
    clear hW
    refine for_R (cwP D R f g k a) _ ?_ _ _ ⟨0, r, none, none, rfl, by omega, by omega, fun b b0 b1 => by omega, rfl⟩
    rintro d ds ρ ⟨c, r, j5, j6, ed, c0, cr, no, rfl⟩
    cases r with
    | zero => cases ed
    | succ r =>
      rw [rangeL] at ed
      cases ed
      refine ⟨_, rfl, ?_⟩
      have c1 : c < 2 * a := by omega
      have ii := is_ideal_ok (f := ⟨k, a, c⟩) z20 ⟨szcMono zk (by omega), szcMono za (by omega), sz_of (by simp only; omega) (by simp only; omega)⟩
      have nx : ∀ j5 j6 : Option PyData, ¬ Hit D R f g ⟨k, a, c⟩ → FStep (cwP D R f g k a (rangeL (c + 1) 1 r)) (fun v => ∃ h : Fm, v = h.enc ∧ h.a = k ∧ h.b = a ∧ Hit D R f g h) [] (.ok (.next [some (.int D), some f.enc, some g.enc, some (.int k), some (.int a), j5, j6]) []) := fun j5 j6 hn => .next ⟨c + 1, r, j5, j6, rfl, by omega, by omega, fun b b0 b1 => by
        by_cases e : b = c
        · rw [e]; exact hn
        · exact no b b0 (by omega), rfl⟩
      by_cases gd : goodB D ⟨k, a, c⟩ = true
      · have G := (goodB_iff D _).1 gd
        have gb : GB D 30 ⟨k, a, c⟩ := ⟨G, by simp only; omega, by simp only; omega⟩
        have w1 := within_ok hD z20 gb hf.g30
        have w2 := within_ok hD z20 gb hg.g30
        rw [gd] at ii
        by_cases s1 : Sub (tI R ⟨k, a, c⟩) (tI R f)
        · by_cases s2 : Sub (tI R ⟨k, a, c⟩) (tI R g)
          · simp [enc3, ii, w1, w2, s1, s2]
            exact .ret ⟨⟨k, a, c⟩, rfl, rfl, rfl, G, s1, s2⟩
          · have := nx (some (.int c)) (some (Fm.mk k a c).enc) fun h => s2 h.2.2
            simp [enc3, ii, w1, w2, s1, s2] at this ⊢
            exact this
        · have := nx (some (.int c)) (some (Fm.mk k a c).enc) fun h => s1 h.2.1
          simp [enc3, ii, w1, w2, s1] at this ⊢
          exact this
      · have gf : goodB D ⟨k, a, c⟩ = false := by simpa using gd
        rw [gf] at ii
        have := nx (some (.int c)) (some (Fm.mk k a c).enc) fun h => gd ((goodB_iff D _).2 h.1)
        simp [enc3, ii] at this ⊢
        exact this
  clear hW
  rcases this with ⟨_, rfl, c, r, j5, j6, ed, c0, cr, no, rfl⟩ | ⟨_, rfl, h, rfl, h1, h2, h3⟩
  · refine .inr ⟨by simp, fun b b0 b1 => no b b0 ?_⟩
    cases r with
    | zero => omega
    | succ r => rw [rangeL] at ed; cases ed
  · exact .inl ⟨h, by simp, h1, h2, h3⟩
structure GN (D : Int) (f : Fm) : Prop where
  t : GT D f
  n : f.a * f.a * f.b < 2 ^ 10
def coP (D : Int) (f g S : Fm) (size K : Int) (ds : List PyData) (ρ : Ev) : Prop := ∃ (c : Int) (r : Nat) (j5 j6 : Option PyData), ds = rangeL c 1 r ∧ 1 ≤ c ∧ c + r = size + 1 ∧ c ≤ K ∧ ρ = [some (.int D), some f.enc, some g.enc, some S.enc, some (.int size), j5, j6]
theorem common_ok {D : Int} {R : Rg} (hD : Dc D R) (zD : Szc D 10) {f g S : Fm} (hf : GN D f) (hg : GN D g) (hS : d_ideal_sum [.int D, f.enc, g.enc] = .ok S.enc []) (gS : GT D S) (sS : ∀ p q, (tI R S).has p q ↔ SumP (tI R f) (tI R g) p q) :
    ∃ Y : Fm, d_common_ideal [.int D, f.enc, g.enc] = .ok Y.enc [] ∧ GoodF D Y ∧ (∀ p q, (tI R Y).has p q ↔ (tI R f).has p q ∧ (tI R g).has p q) ∧ Y.a * Y.a * Y.b * (S.a * S.a * S.b) = f.a * f.a * f.b * (g.a * g.a * g.b) := by
  obtain ⟨Y, Yo, Yh, Yn⟩ := inter_ex (hf.t.g.ok hD) (hg.t.g.ok hD) (gS.g.ok hD) sS
  obtain ⟨rG, rH⟩ := redF_ok hD Yo
  obtain ⟨F, hF⟩ : ∃ F, F = redF R Y := ⟨_, rfl⟩
  rw [← hF] at rG rH
  have Yn : F.a * F.a * F.b * (S.a * S.a * S.b) = f.a * f.a * f.b * (g.a * g.a * g.b) := by rw [hF]; exact Yn
  have Fh : ∀ p q, (tI R F).has p q ↔ (tI R f).has p q ∧ (tI R g).has p q := fun p q => (rH p q).trans (Yh p q)
  refine ⟨F, ?_, rG, Fh, Yn⟩
  clear hF rH Yh Yo
  have nf := norm_ok (n := 0) hf.t.g30
  have ng := norm_ok (n := 0) hg.t.g30
  have nS := norm_ok (n := 0) gS.g30
  have f0 := Id3.nm_pos (hf.t.g.ok hD)
  have g0 := Id3.nm_pos (hg.t.g.ok hD)
  have S0 := Id3.nm_pos (gS.g.ok hD)
  have F0 := Id3.nm_pos (rG.ok hD)
  have f0 : 0 < f.a * f.a * f.b := f0
  have g0 : 0 < g.a * g.a * g.b := g0
  have S0 : 0 < S.a * S.a * S.b := S0
  have F0 : 0 < F.a * F.a * F.b := F0
  have fn := hf.n
  have gn := hg.n
  obtain ⟨size, hsize⟩ : ∃ z, z = F.a * F.a * F.b := ⟨_, rfl⟩
  have pb : f.a * f.a * f.b * (g.a * g.a * g.b) ≤ 1024 * 1024 := Int.mul_le_mul (by omega) (by omega) (by omega) (by omega)
  have sl : size ≤ 1024 * 1024 := by
    have := Int.mul_le_mul_of_nonneg_left (show 1 ≤ S.a * S.a * S.b by omega) (Int.le_of_lt F0)
    omega
  have S28 : S.a * S.a * S.b ≤ 1024 * 1024 := by
    have := Int.mul_le_mul_of_nonneg_right (show 1 ≤ F.a * F.a * F.b by omega) (Int.le_of_lt S0)
    omega
  have z1 : Szc (f.a * f.a * f.b) 30 := ⟨by omega⟩
  have z2 : Szc (g.a * g.a * g.b) 30 := ⟨by omega⟩
  have q1 : vFdiv (.int (f.a * f.a * f.b * (g.a * g.a * g.b))) (.int (S.a * S.a * S.b)) = some (.int size) := by
    rw [divSm S0 (by omega), ← Yn, ← hsize, Int.mul_ediv_cancel _ (by omega)]
  obtain ⟨r, hr⟩ : ∃ r : Nat, (size + 1 - 1).toNat = r := ⟨_, rfl⟩
  have r2 : iRange [.int 1, .int (size + 1)] = some (rangeL 1 1 r) := by rw [← hr]; exact range2 (by omega) (by omega)
  have zs : Szc size 30 := ⟨by omega⟩
  have k0 := rG.k
  have a0 := rG.a
  have kk := Int.mul_pos k0 k0
  have kle : F.a ≤ size := by
    have l1 := Int.mul_le_mul_of_nonneg_left (show 1 ≤ F.a by omega) (Int.le_of_lt k0)
    have l2 := Int.mul_le_mul_of_nonneg_left (show 1 ≤ F.b by omega) (Int.le_of_lt kk)
    omega
  unfold d_common_ideal
  simp [hS, nf, ng, nS, q1, r2]
  generalize hW : sFor.go _ _ _ _ _ = W
  have : FEnd (coP D f g S size F.a []) (fun v => v = F.enc) [] W := by
    rw [← hW]
    clear hW
    refine for_R (coP D f g S size F.a) _ ?_ _ _ ⟨1, r, none, none, rfl, by omega, by omega, by omega, rfl⟩
    rintro d ds ρ ⟨c, r, j5, j6, ed, c0, cr, cK, rfl⟩
    cases r with
    | zero => cases ed
    | succ r =>
      rw [rangeL] at ed
      cases ed
      refine ⟨_, rfl, ?_⟩
      have zc : Szc c 30 := ⟨by omega⟩
      have cc := Int.mul_pos (show 0 < c by omega) (show 0 < c by omega)
      have md : vMod (.int size) (.int (c * c)) = some (.int (size % (c * c))) := modP cc
      have ccb : c * c < 2 ^ 60 := by
        have := (szMul2 zc zc).h
        omega
      have dv : vFdiv (.int size) (.int (c * c)) = some (.int (size / (c * c))) := divSm cc (by omega)
      by_cases dd : size % (c * c) = 0
      · have dvd := Int.dvd_of_emod_eq_zero dd
        have q0 : 0 < size / (c * c) := Int.ediv_pos_of_pos_of_dvd (by omega) (Int.le_of_lt cc) dvd
        have qs : size / (c * c) ≤ size := Int.ediv_le_self _ (by omega)
        have qe : c * c * (size / (c * c)) = size := Int.mul_ediv_cancel' dvd
        rcases common_with_ok hD zD hf.t hg.t (k := c) (a := size / (c * c)) (by omega) q0 (by omega) (by omega) with ⟨h, e, e1, e2, H⟩ | ⟨e, no⟩
        · have eF : h = F := by
            have sub : Sub (tI R h) (tI R F) := fun p q hp => (Fh p q).2 ⟨H.2.1 p q hp, H.2.2 p q hp⟩
            have nm : (tI R h).nm = (tI R F).nm := by
              show h.a * h.a * h.b = F.a * F.a * F.b
              rw [e1, e2, qe, hsize]
            exact H.1.uniq hD rG sub (Id3.sub_eq (H.1.ok hD) (rG.ok hD) sub nm)
          subst eF
          simp [md, dd, dv, e]
          exact .ret rfl
        · have ne : c ≠ F.a := by
            intro z
            subst z
            have ea : size / (F.a * F.a) = F.b := by
              have : F.a * F.a * (size / (F.a * F.a)) = F.a * F.a * F.b := by rw [qe, hsize]
              exact Int.eq_of_mul_eq_mul_left (by omega) this
            rw [ea] at no
            exact no F.c rG.lo rG.hi ⟨rG, fun p q hp => ((Fh p q).1 hp).1, fun p q hp => ((Fh p q).1 hp).2⟩
          simp [md, dd, dv, e]
          exact .next ⟨c + 1, r, some (.int c), some .none, rfl, by omega, by omega, by omega, rfl⟩
      · have ne : c ≠ F.a := by
          intro z
          subst z
          exact dd (Int.emod_eq_zero_of_dvd ⟨F.b, hsize⟩)
        simp [md, dd]
        exact .next ⟨c + 1, r, some (.int c), j6, rfl, by omega, by omega, by omega, rfl⟩
  clear hW
  rcases this with ⟨_, rfl, c, r, j5, j6, ed, c0, cr, cK, rfl⟩ | ⟨_, rfl, rfl⟩
  · exfalso
    cases r with
    | zero => omega
    | succ r => rw [rangeL] at ed; cases ed
  · simp
end M

set_option Elab.async false
set_option linter.all false
set_option maxRecDepth 100000
set_option maxHeartbeats 4000000
namespace M
open PySem PySem.Spec PyProof.Rows L2
theorem PZ.congr {R : Rg} {I I' J J' : Id3} (h1 : ∀ p q, I.has p q ↔ I'.has p q) (h2 : ∀ p q, J.has p q ↔ J'.has p q) (p q : Int) : PZ R I J p q ↔ PZ R I' J' p q :=
  ⟨fun h L hL m => h L hL fun u v hu hv => m u v ((h1 _ _).1 hu) ((h2 _ _).1 hv), fun h L hL m => h L hL fun u v hu hv => m u v ((h1 _ _).2 hu) ((h2 _ _).2 hv)⟩
theorem whole_ok {D : Int} {R : Rg} (hD : Dc D R) : d_whole_ideal [.int D] = .ok (Fm.mk 1 1 R.s).enc [] := by
  have md : vMod (.int D) (.int 2) = some (.int R.s) := by rw [modP (by omega), hD.mod]
  unfold d_whole_ideal
  simp [md]
  rfl
theorem num_good {D : Int} {R : Rg} (hD : Dc D R) {n : Int} (h : 0 < n) : GoodF D ⟨n, 1, R.s⟩ ∧ ∀ p q, (tI R ⟨n, 1, R.s⟩).has p q ↔ (Id3.num n).has p q := by
  have hs := hD.s
  refine ⟨⟨h, by simp, by simp only; omega, by simp only; omega, ?_⟩, fun p q => ?_⟩
  · refine ⟨-R.t, ?_⟩
    simp only
    rw [hD.ss, hD.e]; omega
  · have e : (R.s - R.s) / 2 = 0 := by omega
    unfold tI Id3.num
    rw [e]
theorem number_ok {D : Int} {R : Rg} (hD : Dc D R) {n : Int} (h : 0 < n) (h2 : Szc n 100) : d_ideal_of_number [.int D, .int n] = .ok (Fm.mk n 1 R.s).enc [] := by
  have md : vMod (.int D) (.int 2) = some (.int R.s) := by rw [modP (by omega), hD.mod]
  have hn : ¬ n < 0 := by omega
  unfold d_ideal_of_number
  simp [md, hn]
  rfl
theorem whole_gt {D : Int} {R : Rg} (hD : Dc D R) : GT D ⟨1, 1, R.s⟩ := ⟨(num_good hD (by omega)).1, by simp⟩
theorem prod_one {D : Int} {R : Rg} (hD : Dc D R) (zD : Szc D 10) {f : Fm} (hf : GT D f) : d_ideal_product [.int D, f.enc, (Fm.mk 1 1 R.s).enc] = .ok f.enc [] ∧ d_ideal_product [.int D, (Fm.mk 1 1 R.s).enc, f.enc] = .ok f.enc [] := by
  have hw := (num_good hD (n := 1) (by omega)).2
  have ok := hf.g.ok hD
  have all : ∀ p q, PZ R (tI R f) (tI R ⟨1, 1, R.s⟩) p q ↔ (tI R f).has p q := fun p q => (PZ.congr (fun _ _ => Iff.rfl) hw p q).trans (PZ.one ok p q)
  constructor
  · obtain ⟨S, h1, h2, h3, _⟩ := product_ok hD zD hf (whole_gt hD)
    have : S = f := h2.uniq hD hf.g (fun p q h => (all p q).1 ((h3 p q).1 h)) (fun p q h => (h3 p q).2 ((all p q).2 h))
    rw [← this]; rw [this] at h1 ⊢; exact h1
  · obtain ⟨S, h1, h2, h3, _⟩ := product_ok hD zD (whole_gt hD) hf
    have : S = f := h2.uniq hD hf.g (fun p q h => (all p q).1 (PZ.comm ((h3 p q).1 h))) (fun p q h => (h3 p q).2 (PZ.comm ((all p q).2 h)))
    rw [this] at h1; exact h1
theorem prod_comm {D : Int} {R : Rg} (hD : Dc D R) (zD : Szc D 10) {f g S : Fm} (hf : GT D f) (hg : GT D g) (h : d_ideal_product [.int D, f.enc, g.enc] = .ok S.enc []) (hS : GoodF D S) (hh : ∀ p q, (tI R S).has p q ↔ PZ R (tI R f) (tI R g) p q) : d_ideal_product [.int D, g.enc, f.enc] = .ok S.enc [] := by
  obtain ⟨T, h1, h2, h3, _⟩ := product_ok hD zD hg hf
  have : T = S := h2.uniq hD hS (fun p q h => (hh p q).2 (PZ.comm ((h3 p q).1 h))) (fun p q h => (h3 p q).2 (PZ.comm ((hh p q).1 h)))
  rw [this] at h1; exact h1
theorem power_ok {D : Int} {R : Rg} (hD : Dc D R) (zD : Szc D 10) {f S : Fm} (hf : GT D f) (h : d_ideal_product [.int D, f.enc, f.enc] = .ok S.enc []) : d_ideal_power [.int D, f.enc, .int 2] = .ok S.enc [] ∧ d_ideal_power [.int D, f.enc, .int 0] = .ok (Fm.mk 1 1 R.s).enc [] := by
  have w := whole_ok hD
  have p1 := (prod_one hD zD hf).2
  have r2 : iRange [.int 2] = some (rangeL 0 1 2) := range1 (by omega)
  have r0 : iRange [.int 0] = some (rangeL 0 1 0) := range1 (by omega)
  constructor
  · unfold d_ideal_power
    simp [w, r2, rangeL, go_cons, p1, h]
  · unfold d_ideal_power
    simp [w, r0, rangeL]
theorem inv_ok {D : Int} {R : Rg} (hD : Dc D R) (zD : Szc D 20) {f : Fm} (hf : GB D 30 f) : ∃ c g : Int, d_is_invertible [.int D, f.enc] = .ok (.bool (decide (g = 1))) [] ∧ 0 < g ∧ Gd R (tI R f) c g := by
  have := hf.sk; have := hf.sa; have := hf.sc
  have a0 := hf.g.a
  have ok := hf.g.ok hD
  obtain ⟨c, hc⟩ := ok.d
  have p := hf.g.par hD
  have fe := form_eq hD ((f.c - R.s) / 2)
  have hc' : (f.c - R.s) / 2 * ((f.c - R.s) / 2) + R.s * ((f.c - R.s) / 2) - R.t = f.b * c := hc
  rw [hc', ← p] at fe
  have q1 : vFdiv (.int (f.c * f.c - D)) (.int (4 * f.b)) = some (.int c) := by
    rw [divSm (by omega) (by have := hf.a; omega), fe]
    congr 2
    have : 4 * (f.b * c) = 4 * f.b * c := by grind
    rw [this]; exact Int.mul_ediv_cancel_left _ (by omega)
  obtain ⟨g, h1, g0, hL⟩ := divisor_all_ok [f.b, f.c, c]
  have dv := (hL (fun p _ => g ∣ p) ⟨Int.dvd_zero _, fun h1 h2 => Int.dvd_sub h1 h2⟩).2 (Int.dvd_refl _)
  have cb := (hL (fun p _ => ∃ x y z, f.b * x + f.c * y + c * z = p) ⟨⟨0, 0, 0, by simp⟩, by
    rintro p q r s ⟨x, y, z, e⟩ ⟨x', y', z', e'⟩
    exact ⟨x - x', y - y', z - z', by rw [← e, ← e']; grind⟩⟩).1 (by
    intro m hm
    simp only [List.mem_cons, List.not_mem_nil, or_false] at hm
    rcases hm with rfl | rfl | rfl
    · exact ⟨1, 0, 0, by grind⟩
    · exact ⟨0, 1, 0, by grind⟩
    · exact ⟨0, 0, 1, by grind⟩)
  have g1 : g ≠ 0 := by
    rintro rfl
    have := Int.zero_dvd.1 (dv f.b (by simp))
    omega
  have pe : 2 * (tI R f).β + R.s = f.c := p.symm
  refine ⟨c, g, ?_, by omega, ⟨hc, dv f.b (by simp), by rw [pe]; exact dv f.c (by simp), dv c (by simp), by rw [pe]; exact cb⟩⟩
  unfold d_is_invertible
  simp [q1] at h1 ⊢
  simp [h1]
/-- the square with the conjugate -/
theorem square_iff {D : Int} {R : Rg} (hD : Dc D R) (zD : Szc D 10) {f X : Fm} {c g : Int} (hf : GT D f) (G : Gd R (tI R f) c g) (g0 : 0 < g) (hX : GoodF D X) (hh : ∀ p q, (tI R X).has p q ↔ PZ R (tI R f) ((tI R f).cj R) p q) : X = ⟨f.a * f.a * f.b, 1, R.s⟩ ↔ g = 1 := by
  have ok := hf.g.ok hD
  have cp := conj_prod ok G
  have N0 := Id3.nm_pos ok
  have N0 : 0 < f.a * f.a * f.b := N0
  obtain ⟨n1, n2⟩ := num_good hD N0
  have gok : (Id3.mk (f.a * f.a * f.b) g (tI R f).β).Ok R := ⟨N0, g0, by
    show g ∣ _
    rw [G.hc]
    exact Int.dvd_trans G.ha ⟨c, rfl⟩⟩
  constructor
  · intro e
    have : ∀ p q, (tI R ⟨f.a * f.a * f.b, 1, R.s⟩).has p q ↔ (Id3.mk (f.a * f.a * f.b) g (tI R f).β).has p q := fun p q => by rw [← e]; exact (hh p q).trans (cp p q)
    have := (Id3.same (n1.ok hD) gok (fun p q => (this p q).1) (fun p q => (this p q).2)).2.1
    exact this.symm
  · intro e
    subst e
    have sh := fun p q => Id3.shift (I := Id3.num (f.a * f.a * f.b)) (γ := (tI R f).β) (Int.one_dvd _) p q
    have all : ∀ p q, (tI R X).has p q ↔ (tI R ⟨f.a * f.a * f.b, 1, R.s⟩).has p q := fun p q => ((hh p q).trans (cp p q)).trans ((sh p q).trans (n2 p q).symm)
    exact hX.uniq hD n1 (fun p q => (all p q).1) (fun p q => (all p q).2)
theorem quotient_ok {D : Int} {R : Rg} (hD : Dc D R) (zD : Szc D 10) {f g X : Fm} {c : Int} (hf : GN D f) (hg : GT D g) (hX : GT D X) (hh : ∀ p q, (tI R X).has p q ↔ PZ R (tI R f) (tI R g) p q) (G : Gd R (tI R f) c 1) : d_ideal_quotient [.int D, X.enc, f.enc] = .ok g.enc [] := by
  have ok := hf.t.g.ok hD
  have N0 := Id3.nm_pos ok
  have N0 : 0 < f.a * f.a * f.b := N0
  have n1 := norm_ok (n := 0) hf.t.g30
  have c1 := conj_ok hD hf.t.g30
  obtain ⟨cg, ch⟩ := conj_good hD hf.t
  obtain ⟨W, h1, h2, h3, _⟩ := product_ok hD zD hX cg
  have k0 := hg.g.k
  have Wg : GoodF D ⟨f.a * f.a * f.b * g.a, g.b, g.c⟩ := ⟨Int.mul_pos N0 k0, hg.g.a, hg.g.lo, hg.g.hi, hg.g.d⟩
  have all : ∀ p q, (tI R W).has p q ↔ (tI R ⟨f.a * f.a * f.b * g.a, g.b, g.c⟩).has p q := fun p q =>
    (h3 p q).trans ((PZ.congr (fun _ _ => Iff.rfl) ch p q).trans (quot ok (hg.g.ok hD) hh G p q))
  have eW := h2.uniq hD Wg (fun p q => (all p q).1) (fun p q => (all p q).2)
  subst eW
  have nb := hf.n
  have m1 : vMod (.int (f.a * f.a * f.b * g.a)) (.int (f.a * f.a * f.b)) = some (.int 0) := by
    rw [modP N0, Int.mul_emod_right]
  have q1 : vFdiv (.int (f.a * f.a * f.b * g.a)) (.int (f.a * f.a * f.b)) = some (.int g.a) := by
    rw [divSm N0 (by omega), Int.mul_ediv_cancel_left _ (by omega)]
  unfold d_ideal_quotient
  simp [n1, c1, h1, m1, q1]
  rfl
end M

set_option Elab.async false
set_option linter.all false
set_option maxRecDepth 100000
set_option maxHeartbeats 4000000
namespace M
open PySem PySem.Spec PyProof.Rows L2
def stripN (p n : Nat) : Nat × Nat := loop (fun x : Nat × Nat => x.1 % p == 0) (fun x => (x.1 / p, x.2 + 1)) n (n, 0)
structure FS where
  n : Nat
  p : Nat
  l : List (Nat × Nat)
def FS.step (x : FS) : FS := ⟨(stripN x.p x.n).1, x.p + (if x.p = 2 then 1 else 2), if 0 < (stripN x.p x.n).2 then x.l ++ [(x.p, (stripN x.p x.n).2)] else x.l⟩
def FS.go (x : FS) : Bool := decide (x.p * x.p ≤ x.n)
def factS (n : Nat) : FS := loop FS.go FS.step n ⟨n, 2, []⟩
def factL (n : Nat) : List (Nat × Nat) := if 1 < (factS n).n then (factS n).l ++ [((factS n).n, 1)] else (factS n).l
theorem loop_ind {α : Type} {c : α → Bool} {f : α → α} (P : α → Prop) (μ : α → Nat) (h : ∀ a, P a → c a = true → P (f a) ∧ μ (f a) < μ a) : ∀ n a, P a → μ a ≤ n → P (loop c f n a) ∧ c (loop c f n a) = false := by
  intro n
  induction n with
  | zero =>
    intro a p hm
    rw [loop_zero]
    refine ⟨p, ?_⟩
    cases hc : c a with
    | false => rfl
    | true => have := (h a p hc).2; omega
  | succ n ih =>
    intro a p hm
    rw [loop_succ]
    cases hc : c a with
    | false => exact ⟨p, hc⟩
    | true => exact ih (f a) (h a p hc).1 (by have := (h a p hc).2; omega)
theorem strip_spec {p n : Nat} (hp : 2 ≤ p) (hn : 0 < n) : (stripN p n).1 * p ^ (stripN p n).2 = n ∧ 0 < (stripN p n).1 ∧ ¬ (stripN p n).1 % p = 0 := by
  obtain ⟨⟨h1, h2⟩, h3⟩ := loop_ind (c := fun x : Nat × Nat => x.1 % p == 0) (f := fun x => (x.1 / p, x.2 + 1)) (fun x => x.1 * p ^ x.2 = n ∧ 0 < x.1) (fun x => x.1) (fun x h c => by
    obtain ⟨m, k⟩ := x
    obtain ⟨h1, h2⟩ := h
    simp only [beq_iff_eq] at h1 h2 c ⊢
    have e := Nat.mul_div_cancel' (Nat.dvd_of_mod_eq_zero c)
    have h3 : 0 < m / p := Nat.pos_of_ne_zero fun z => by rw [z] at e; omega
    refine ⟨⟨?_, h3⟩, Nat.div_lt_self h2 (by omega)⟩
    rw [Nat.pow_succ, ← h1]
    conv => rhs; rw [← e]
    grind) n (n, 0) ⟨by simp, hn⟩ (by simp)
  refine ⟨h1, h2, ?_⟩
  intro z
  simp only [beq_eq_false_iff_ne, ne_eq] at h3
  exact h3 z
theorem strip_le {p n : Nat} (hp : 2 ≤ p) (hn : 0 < n) : (stripN p n).1 ≤ n := by
  obtain ⟨h1, h2, h3⟩ := strip_spec hp hn
  have : 0 < p ^ (stripN p n).2 := Nat.pow_pos (by omega)
  calc (stripN p n).1 ≤ (stripN p n).1 * p ^ (stripN p n).2 := Nat.le_mul_of_pos_right _ this
    _ = n := h1
/-- the inner loop -/
theorem strip_run {l : D} {p n : Nat} (hp : 2 ≤ p) (hp2 : p < 2 ^ 200) (hn : 0 < n) : sWhile (bBin vEq (eBin vMod (eVar 0) (eVar 2)) (eC (.int 0))) (sSeq (sAug 0 vFdiv (eVar 2)) (sAug 3 vAddI (eC (.int 1)))) [some (.int n), some l, some (.int p), some (.int 0)] [] = .ok (.next [some (.int ((stripN p n).1 : Int)), some l, some (.int p), some (.int ((stripN p n).2 : Int))]) [] := by
  have := (while_loop (w := []) (t := bBin vEq (eBin vMod (eVar 0) (eVar 2)) (eC (.int 0))) (db := sSeq (sAug 0 vFdiv (eVar 2)) (sAug 3 vAddI (eC (.int 1)))) (fun x : Nat × Nat => [some (.int (x.1 : Int)), some l, some (.int p), some (.int (x.2 : Int))])
    (fun x => 0 < x.1) (fun x => x.1 % p == 0) (fun x => (x.1 / p, x.2 + 1)) (fun x => x.1)
    (fun x _ => by
      obtain ⟨m, k⟩ := x
      have e : decide ((m : Int) % p = 0) = (m % p == 0) := by rw [← Int.natCast_emod]; simp; norm_cast
      simp [modP (show 0 < (p : Int) by omega), e])
    (fun x h c => by
      obtain ⟨m, k⟩ := x
      simp only [beq_iff_eq] at h c ⊢
      have e := Nat.mul_div_cancel' (Nat.dvd_of_mod_eq_zero c)
      have h3 : 0 < m / p := Nat.pos_of_ne_zero fun z => by rw [z] at e; omega
      refine ⟨?_, h3, Nat.div_lt_self h (by omega)⟩
      simp [divSm (show 0 < (p : Int) by omega) (show (p : Int) < 2 ^ 250 by omega)]) n (n, 0) hn (by simp)).2.2
  exact this
theorem fs_step {x : FS} (h1 : 0 < x.n) (h2 : 2 ≤ x.p) (c : x.go = true) : 0 < x.step.n ∧ 2 ≤ x.step.p ∧ x.step.n ≤ x.n ∧ x.p + 1 ≤ x.step.p ∧ x.step.p ≤ x.p + 2 ∧ x.step.n + 1 - x.step.p < x.n + 1 - x.p := by
  have c : x.p * x.p ≤ x.n := of_decide_eq_true c
  have s1 := strip_spec h2 h1
  have s2 := strip_le h2 h1
  have e : x.p ≤ x.n := Nat.le_trans (Nat.le_mul_of_pos_left _ (by omega)) c
  simp only [FS.step]
  refine ⟨s1.2.1, by omega, s2, ?_, ?_, ?_⟩ <;> split <;> omega
def FS.emb (x : FS × Option D) : Ev := [some (.int (x.1.n : Int)), some (.list (x.1.l.map encQ)), some (.int (x.1.p : Int)), x.2]
theorem factorization_ok (n : Nat) (hn : n ≤ 1000000000000) : d_factorization [.int n] = .ok (.tuple ((factL n).map encQ)) [] := by
  unfold d_factorization
  by_cases z : n = 0
  · subst z
    have e : factL 0 = [] := rfl
    simp [sWhile_ap, mulSm (a := 2) (b := 2) (by omega) (by omega), e]
  have key : ∃ o : Option D, sWhile (bBin cLe (eBin vMul (eVar 2) (eVar 2)) (eVar 0)) (sSeq (sAsg (eC (.int 0)) (gN 3))
 (sSeq (sWhile (bBin vEq (eBin vMod (eVar 0) (eVar 2)) (eC (.int 0))) (sSeq (sAug 0 vFdiv (eVar 2))
 (sAug 3 vAddI (eC (.int 1)))))
 (sSeq (sIf (bBin cGt (eVar 3) (eC (.int 0))) (sApp 1 (eTup (aCons (eVar 2) (aCons (eVar 3) aNil)))) sNext)
 (sAug 2 vAddI (eIf (bBin vEq (eVar 2) (eC (.int 2))) (eC (.int 1)) (eC (.int 2))))))) [some (.int n), some (.list []), some (.int 2), none] [] = .ok (.next (FS.emb (factS n, o))) [] ∧ (factS n).l.length ≤ 1000002 := by
    have q := while_by (w := []) (t := bBin cLe (eBin vMul (eVar 2) (eVar 2)) (eVar 0)) (db := sSeq (sAsg (eC (.int 0)) (gN 3))
 (sSeq (sWhile (bBin vEq (eBin vMod (eVar 0) (eVar 2)) (eC (.int 0))) (sSeq (sAug 0 vFdiv (eVar 2))
 (sAug 3 vAddI (eC (.int 1)))))
 (sSeq (sIf (bBin cGt (eVar 3) (eC (.int 0))) (sApp 1 (eTup (aCons (eVar 2) (aCons (eVar 3) aNil)))) sNext)
 (sAug 2 vAddI (eIf (bBin vEq (eVar 2) (eC (.int 2))) (eC (.int 1)) (eC (.int 2)))))))
      (α := FS × Option D × Nat) (fun x => FS.emb (x.1, x.2.1)) (fun x => 0 < x.1.n ∧ 2 ≤ x.1.p ∧ x.1.n ≤ 1000000000000 ∧ x.1.p ≤ 1000002 ∧ x.1.l.length ≤ x.1.p ∧ x.1.n + 1 - x.1.p ≤ x.2.2 ∧ loop FS.go FS.step x.2.2 x.1 = factS n)
      (fun x => x.1.go) (fun x => (x.1.step, some (.int ((stripN x.1.p x.1.n).2 : Int)), x.2.2 - 1)) (fun x => x.1.n + 1 - x.1.p)
      (fun x p => by
        obtain ⟨x, o, k⟩ := x
        obtain ⟨p1, p2, p3, p4, p5, p6, p7⟩ := p
        simp only at p1 p2 p3 p4 p5 p6 p7
        have e : decide ((x.p : Int) * x.p ≤ x.n) = x.go := by unfold FS.go; norm_cast
        simp [FS.emb, mulSm (a := x.p) (b := x.p) (by omega) (by omega), e])
      (fun x p c => by
        obtain ⟨x, o, k⟩ := x
        obtain ⟨p1, p2, p3, p4, p5, p6, p7⟩ := p
        simp only at p1 p2 p3 p4 p5 p6 p7 c ⊢
        obtain ⟨q1, q2, q3, q4, q5, q6⟩ := fs_step p1 p2 c
        have cc : x.p * x.p ≤ x.n := of_decide_eq_true c
        have pb : x.p ≤ 1000000 := by
          rcases Nat.lt_or_ge 1000000 x.p with h | h
          · have : 1000001 * 1000001 ≤ x.p * x.p := Nat.mul_le_mul h h
            omega
          · exact h
        refine ⟨?_, ⟨q1, q2, by omega, by omega, ?_, by omega, ?_⟩, q6⟩
        · have r := strip_run (l := .list (x.l.map encQ)) p2 (by omega) p1
          simp only [FS.emb, sSeq_ap, sAsg_ap, eC_ap, kAsg_ok, gN_ap, ofO_some, kNext_ok, kSeq_next, put_succ, put_zero, r]
          have se : ([some (.int (x.step.n : Int)), some (.list (x.step.l.map encQ)), some (.int (x.step.p : Int)), some (.int ((stripN x.p x.n).2 : Int))] : Ev) = [some (.int ((stripN x.p x.n).1 : Int)), some (.list ((if 0 < (stripN x.p x.n).2 then x.l ++ [(x.p, (stripN x.p x.n).2)] else x.l).map encQ)), some (.int ((x.p : Int) + (if x.p = 2 then 1 else 2))), some (.int ((stripN x.p x.n).2 : Int))] := by
            have e : (((if x.p = 2 then 1 else 2 : Nat)) : Int) = if x.p = 2 then 1 else 2 := by split <;> rfl
            simp only [FS.step, Int.natCast_add, e]
          rw [se]
          generalize stripN x.p x.n = sp at *
          by_cases z : 0 < sp.2
          · have z2 : (0 : Int) < (sp.2 : Int) := by omega
            have ln : x.l.length < sizeLine := by simp only [sizeLine]; omega
            have a : sApp 1 (eTup (aCons (eVar 2) (aCons (eVar 3) aNil))) [some (.int (sp.1 : Int)), some (.list (x.l.map encQ)), some (.int (x.p : Int)), some (.int (sp.2 : Int))] [] = .ok (.next [some (.int (sp.1 : Int)), some (.list ((x.l ++ [(x.p, sp.2)]).map encQ)), some (.int (x.p : Int)), some (.int (sp.2 : Int))]) [] := by
              rw [sApp_ap _ _ _ _ (x.l.map encQ) rfl]
              simp [ln, encQ]
            have st : sIf (bBin cGt (eVar 3) (eC (.int 0))) (sApp 1 (eTup (aCons (eVar 2) (aCons (eVar 3) aNil)))) sNext [some (.int (sp.1 : Int)), some (.list (x.l.map encQ)), some (.int (x.p : Int)), some (.int (sp.2 : Int))] [] = .ok (.next [some (.int (sp.1 : Int)), some (.list ((x.l ++ [(x.p, sp.2)]).map encQ)), some (.int (x.p : Int)), some (.int (sp.2 : Int))]) [] := by
              rw [← a]
              simp [z2, z]
            rw [st, kSeq_next]
            by_cases t : x.p = 2
            · have t2 : (x.p : Int) = 2 := by omega
              simp [t2, FS.step, FS.emb, z, t]
            · have t2 : ¬ (x.p : Int) = 2 := by omega
              simp [t2, FS.step, FS.emb, z, t]
          · have z2 : ¬ (0 : Int) < (sp.2 : Int) := by omega
            by_cases t : x.p = 2
            · have t2 : (x.p : Int) = 2 := by omega
              simp [z2, t2, FS.step, FS.emb, z, t]
            · have t2 : ¬ (x.p : Int) = 2 := by omega
              simp [z2, t2, FS.step, FS.emb, z, t]
        · simp only [FS.step] at q4 ⊢
          split
          · simp; omega
          · omega
        · rw [← p7]
          have e : k = (k - 1) + 1 := by
            have : x.p ≤ x.n := Nat.le_trans (Nat.le_mul_of_pos_left _ (by omega)) cc
            omega
          conv => rhs; rw [e, loop_succ, c]
          rfl)
      (⟨n, 2, []⟩, none, n) ⟨by simp; omega, by simp, by simp; omega, by simp, by simp, by simp, rfl⟩
    obtain ⟨⟨x, o, k⟩, ⟨p1, p2, p3, p4, p5, p6, p7⟩, pc, pw⟩ := q
    have e : x = factS n := by
      rw [← p7]
      simp only at pc ⊢
      cases k with
      | zero => rfl
      | succ k => rw [loop_succ, pc]; rfl
    simp only at pw p5 p4
    rw [e] at pw p5 p4
    exact ⟨o, pw, by omega⟩
  obtain ⟨o, k1, k2⟩ := key
  have big : ¬ (1000000000000 : Int) < n := by omega
  simp [big, k1]
  by_cases f : 1 < (factS n).n
  · have f2 : (1 : Int) < ((factS n).n : Int) := by omega
    have ln : (factS n).l.length < sizeLine := by simp [sizeLine]; omega
    simp [FS.emb, f2, f, ln, factL, encQ]
  · have f2 : ¬ (1 : Int) < ((factS n).n : Int) := by omega
    simp [FS.emb, f2, f, factL]
def isPn (p : Nat) : Prop := ∀ d, 2 ≤ d → d < p → ¬ d ∣ p
end M

set_option Elab.async false
set_option linter.all false
set_option maxRecDepth 100000
set_option maxHeartbeats 4000000
namespace M
open PySem PySem.Spec PyProof.Rows L2

/-! ### what the factors are -/
def prodL : List (Nat × Nat) → Nat
  | [] => 1
  | q :: l => q.1 ^ q.2 * prodL l
theorem prodL_snoc (l : List (Nat × Nat)) (q : Nat × Nat) : prodL (l ++ [q]) = prodL l * q.1 ^ q.2 := by
  induction l with
  | nil => simp [prodL]
  | cons a l ih => simp only [List.cons_append, prodL, ih]; rw [Nat.mul_assoc]
structure FacOk (l : List (Nat × Nat)) (b : Nat) : Prop where
  ge : ∀ q ∈ l, 2 ≤ q.1
  pr : ∀ q ∈ l, isPn q.1
  k : ∀ q ∈ l, 1 ≤ q.2
  lt : ∀ q ∈ l, q.1 < b
  asc : l.Pairwise fun a c => a.1 < c.1
theorem FacOk.mono {l : List (Nat × Nat)} {b c : Nat} (h : FacOk l b) (hc : b ≤ c) : FacOk l c := ⟨h.ge, h.pr, h.k, fun q m => Nat.lt_of_lt_of_le (h.lt q m) hc, h.asc⟩
theorem FacOk.snoc {l : List (Nat × Nat)} {p k c : Nat} (h : FacOk l p) (h2 : 2 ≤ p) (hp : isPn p) (hk : 1 ≤ k) (hc : p < c) : FacOk (l ++ [(p, k)]) c := by
  have m : ∀ q, q ∈ l ++ [(p, k)] → q ∈ l ∨ q = (p, k) := fun q hq => by simpa using hq
  refine ⟨fun q hq => ?_, fun q hq => ?_, fun q hq => ?_, fun q hq => ?_, ?_⟩
  · rcases m q hq with z | rfl; exact h.ge q z; exact h2
  · rcases m q hq with z | rfl; exact h.pr q z; exact hp
  · rcases m q hq with z | rfl; exact h.k q z; exact hk
  · rcases m q hq with z | rfl; exact Nat.lt_trans (h.lt q z) hc; exact hc
  · rw [List.pairwise_append]
    exact ⟨h.asc, List.pairwise_singleton _ _, fun a ha c hc => by rw [List.mem_singleton.1 hc]; exact h.lt a ha⟩
structure FSOk (n : Nat) (x : FS) : Prop where
  n0 : 0 < x.n
  p2 : 2 ≤ x.p
  odd : x.p = 2 ∨ x.p % 2 = 1
  pr : x.n * prodL x.l = n
  no : ∀ d, 2 ≤ d → d < x.p → ¬ d ∣ x.n
  ok : FacOk x.l x.p
theorem FSOk.step {n : Nat} {x : FS} (h : FSOk n x) (c : x.go = true) : FSOk n x.step ∧ x.step.n + 1 - x.step.p < x.n + 1 - x.p := by
  obtain ⟨n0, p2, od, pr, no, ok⟩ := h
  have st := fs_step n0 p2 c
  obtain ⟨s1, s2, s3⟩ := strip_spec p2 n0
  have dv : (stripN x.p x.n).1 ∣ x.n := ⟨_, s1.symm⟩
  have no2 : ∀ d, 2 ≤ d → d < x.p → ¬ d ∣ (stripN x.p x.n).1 := fun d d1 d2 d3 => no d d1 d2 (Nat.dvd_trans d3 dv)
  refine ⟨⟨st.1, st.2.1, ?_, ?_, ?_, ?_⟩, st.2.2.2.2.2⟩
  · show x.p + _ = 2 ∨ (x.p + _) % 2 = 1
    by_cases z : x.p = 2
    · rw [if_pos z]; omega
    · rw [if_neg z]; omega
  · show (stripN x.p x.n).1 * prodL (if 0 < (stripN x.p x.n).2 then _ else _) = n
    split
    · rw [prodL_snoc, ← pr]
      conv => rhs; rw [← s1]
      grind
    · rename_i z
      have : (stripN x.p x.n).2 = 0 := by omega
      rw [this, Nat.pow_zero, Nat.mul_one] at s1
      rw [s1]; exact pr
  · intro d d1 d2 d3
    have d2 : d < x.p + (if x.p = 2 then 1 else 2) := d2
    have d3 : d ∣ (stripN x.p x.n).1 := d3
    rcases Nat.lt_or_ge d x.p with z | z
    · exact no2 d d1 z d3
    · by_cases e : d = x.p
      · subst e; exact s3 (Nat.mod_eq_zero_of_dvd d3)
      · by_cases t : x.p = 2
        · rw [if_pos t] at d2; omega
        · rw [if_neg t] at d2
          have e2 : d = x.p + 1 := by omega
          have : 2 ∣ d := Nat.dvd_of_mod_eq_zero (by omega)
          exact no2 2 (by omega) (by omega) (Nat.dvd_trans this d3)
  · have lt : x.p < x.p + (if x.p = 2 then 1 else 2) := by split <;> omega
    show FacOk (if 0 < (stripN x.p x.n).2 then _ else _) (x.p + _)
    split
    · rename_i z
      refine ok.snoc p2 (fun d d1 d2 d3 => no d d1 d2 (Nat.dvd_trans d3 ?_)) z lt
      refine ⟨(stripN x.p x.n).1 * x.p ^ ((stripN x.p x.n).2 - 1), ?_⟩
      conv => lhs; rw [← s1]
      rw [show (stripN x.p x.n).2 = (stripN x.p x.n).2 - 1 + 1 by omega, Nat.pow_succ]
      grind
    · exact ok.mono (Nat.le_of_lt lt)
theorem factL_ok {n : Nat} (hn : 1 ≤ n) : prodL (factL n) = n ∧ FacOk (factL n) (n + 2) := by
  obtain ⟨h, c⟩ := loop_ind (c := FS.go) (f := FS.step) (FSOk n) (fun x => x.n + 1 - x.p) (fun a h c => h.step c) n ⟨n, 2, []⟩
    ⟨hn, by simp, .inl rfl, by simp [prodL], fun d d1 d2 => by simp only at d2; omega, ⟨(fun _ h => nomatch h), (fun _ h => nomatch h), (fun _ h => nomatch h), (fun _ h => nomatch h), List.Pairwise.nil⟩⟩ (by simp only; omega)
  have c : ¬ (loop FS.go FS.step n ⟨n, 2, []⟩).p * _ ≤ (loop FS.go FS.step n ⟨n, 2, []⟩).n := of_decide_eq_false c
  unfold factL
  rw [show loop FS.go FS.step n ⟨n, 2, []⟩ = factS n from rfl] at h c
  obtain ⟨n0, p2, od, pr, no, ok⟩ := h
  have bl : ∀ q ∈ (factS n).l, q.1 ≤ n := fun q hq => by
    have key : ∀ l : List (Nat × Nat), (∀ q ∈ l, 2 ≤ q.1) → (∀ q ∈ l, 1 ≤ q.2) → ∀ q ∈ l, q.1 ∣ prodL l := by
      intro l
      induction l with
      | nil => intro _ _ q h; exact nomatch h
      | cons a l ih =>
        intro h1 h2 q hq
        rcases List.mem_cons.1 hq with rfl | hq
        · exact Nat.dvd_trans ⟨q.1 ^ (q.2 - 1), by rw [Nat.mul_comm, ← Nat.pow_succ]; congr 1; have := h2 q (by simp); omega⟩ (Nat.dvd_mul_right _ _)
        · exact Nat.dvd_trans (ih (fun z hz => h1 z (by simp [hz])) (fun z hz => h2 z (by simp [hz])) q hq) (Nat.dvd_mul_left _ _)
    have := Nat.dvd_trans (key _ ok.ge ok.k q hq) (Nat.dvd_mul_left (prodL (factS n).l) (factS n).n)
    rw [pr] at this
    exact Nat.le_of_dvd (by omega) this
  split
  · rename_i z
    have nn : (factS n).n ≤ n := Nat.le_of_dvd (by omega) ⟨_, pr.symm⟩
    have gt : (factS n).p ≤ (factS n).n := by
      rcases Nat.lt_or_ge (factS n).n (factS n).p with y | y
      · exact absurd (Nat.dvd_refl _) (no _ z y)
      · exact y
    refine ⟨by rw [prodL_snoc, Nat.pow_one, Nat.mul_comm]; exact pr, (ok.mono gt).snoc z ?_ (by omega) (by omega)⟩
    intro d d1 d2 ⟨e, he⟩
    have e1 : 2 ≤ e := by
      rcases Nat.lt_or_ge e 2 with y | y
      · have : e = 0 ∨ e = 1 := by omega
        rcases this with rfl | rfl <;> omega
      · exact y
    have p1 : (factS n).p ≤ d := by
      rcases Nat.lt_or_ge d (factS n).p with y | y
      · exact absurd ⟨e, he⟩ (no d d1 y)
      · exact y
    have p3 : (factS n).p ≤ e := by
      rcases Nat.lt_or_ge e (factS n).p with y | y
      · exact absurd ⟨d, by rw [he, Nat.mul_comm]⟩ (no e e1 y)
      · exact y
    have := Nat.mul_le_mul p1 p3
    rw [← he] at this
    exact c this
  · have : (factS n).n = 1 := by omega
    rw [this, Nat.one_mul] at pr
    exact ⟨pr, ⟨ok.ge, ok.pr, ok.k, fun q hq => by have := bl q hq; omega, ok.asc⟩⟩

theorem crt_join {M m g x y D : Int} (hg : g ≠ 0) (hM : g ∣ M) (hm : g ∣ m) (e : M * x + m * y = g) (h1 : M ∣ D) (h2 : m ∣ D) : M * (m / g) ∣ D := by
  obtain ⟨u, hu⟩ := h1
  obtain ⟨v, hv⟩ := h2
  obtain ⟨m1, rfl⟩ := hm
  rw [Int.mul_ediv_cancel_left _ hg]
  refine ⟨v * x + u * y, ?_⟩
  have : D * g = M * m1 * (v * x + u * y) * g := by
    have e1 : D * g = D * (M * x) + D * (g * m1 * y) := by rw [← e]; grind
    rw [e1]
    have e2 : D * (M * x) = g * m1 * v * (M * x) := by rw [← hv]
    have e3 : D * (g * m1 * y) = M * u * (g * m1 * y) := by rw [← hu]
    rw [e2, e3]; grind
  exact Int.eq_of_mul_eq_mul_right hg this
structure Crt (M m F r g x : Int) : Prop where
  M0 : 0 < M * (m / g)
  lo : 0 ≤ (F + (r - F) / g * x % (m / g) * M) % (M * (m / g))
  hi : (F + (r - F) / g * x % (m / g) * M) % (M * (m / g)) < M * (m / g)
  iff : ∀ n : Int, (M ∣ n - F ∧ m ∣ n - r) ↔ M * (m / g) ∣ n - (F + (r - F) / g * x % (m / g) * M) % (M * (m / g))
theorem crt_step {M m F r g x y : Int} (h0 : 0 < M) (h1 : 0 < m) (hg : 0 < g) (hM : g ∣ M) (hm : g ∣ m) (e : M * x + m * y = g) (hr : g ∣ r - F) : Crt M m F r g x := by
  obtain ⟨m1, rfl⟩ := hm
  obtain ⟨c, hc⟩ := hr
  have m1p : 0 < m1 := by
    rcases (show m1 ≤ 0 ∨ 0 < m1 by omega) with z | z
    · have := Int.mul_nonpos_of_nonneg_of_nonpos (Int.le_of_lt hg) z; omega
    · exact z
  have gm : g * m1 / g = m1 := Int.mul_ediv_cancel_left _ (by omega)
  have gc : (r - F) / g = c := by rw [hc]; exact Int.mul_ediv_cancel_left _ (by omega)
  have MM : 0 < M * m1 := Int.mul_pos h0 m1p
  have dv1 : M ∣ M * m1 := ⟨m1, rfl⟩
  obtain ⟨M1, hM1⟩ := hM
  have dv2 : g * m1 ∣ M * m1 := ⟨M1, by rw [hM1]; grind⟩
  obtain ⟨t, ht⟩ : ∃ t, c * x % m1 = c * x - m1 * t := ⟨c * x / m1, Int.emod_def _ _⟩
  obtain ⟨S, hS⟩ : ∃ S, S = F + c * x % m1 * M := ⟨_, rfl⟩
  have a1 : M ∣ S - F := ⟨c * x % m1, by rw [hS]; grind⟩
  have a2 : g * m1 ∣ S - r := by
    refine ⟨-(c * y) - t * M1, ?_⟩
    have : S - r = (c * x - m1 * t) * M - g * c := by rw [hS, ht]; omega
    rw [this]
    have : g * c = c * (M * x + g * m1 * y) := by rw [e]; grind
    rw [this]
    have : m1 * t * M = m1 * t * (g * M1) := by rw [← hM1]
    grind
  obtain ⟨s, hs⟩ : ∃ s, S % (M * m1) = S - M * m1 * s := ⟨S / (M * m1), Int.emod_def _ _⟩
  have b1 : M ∣ S % (M * m1) - F := by
    have : S % (M * m1) - F = (S - F) - M * (m1 * s) := by rw [hs]; grind
    rw [this]
    exact Int.dvd_sub a1 ⟨_, rfl⟩
  have b2 : g * m1 ∣ S % (M * m1) - r := by
    have : S % (M * m1) - r = (S - r) - M * m1 * s := by rw [hs]; omega
    rw [this]
    exact Int.dvd_sub a2 (Int.dvd_trans dv2 ⟨_, rfl⟩)
  refine ⟨by rw [gm]; exact MM, ?_, ?_, fun n => ?_⟩ <;> rw [gm, gc, ← hS]
  · exact Int.emod_nonneg _ (by omega)
  · exact Int.emod_lt_of_pos _ MM
  · constructor
    · rintro ⟨n1, n2⟩
      have j := crt_join (D := n - S % (M * m1)) (by omega) ⟨M1, hM1⟩ ⟨m1, rfl⟩ e
        (by have := Int.dvd_sub n1 b1; rwa [show n - F - (S % (M * m1) - F) = n - S % (M * m1) by omega] at this)
        (by have := Int.dvd_sub n2 b2; rwa [show n - r - (S % (M * m1) - r) = n - S % (M * m1) by omega] at this)
      rwa [gm] at j
    · intro h
      refine ⟨?_, ?_⟩
      · have := Int.dvd_add (Int.dvd_trans dv1 h) b1
        rwa [show n - S % (M * m1) + (S % (M * m1) - F) = n - F by omega] at this
      · have := Int.dvd_add (Int.dvd_trans dv2 h) b2
        rwa [show n - S % (M * m1) + (S % (M * m1) - r) = n - r by omega] at this
theorem crt_none {M m F r g n : Int} (hM : g ∣ M) (hm : g ∣ m) (hr : ¬ g ∣ r - F) : ¬ (M ∣ n - F ∧ m ∣ n - r) := by
  rintro ⟨h1, h2⟩
  apply hr
  have := Int.dvd_sub (Int.dvd_trans hM h1) (Int.dvd_trans hm h2)
  rwa [show n - F - (n - r) = r - F by omega] at this
def encW (q : Int × Int) : D := .tuple [.int q.1, .int q.2]
def lcmF : Int → List (Int × Int) → Int
  | M, [] => M
  | M, q :: l => lcmF (M * (q.2 / Int.gcd M q.2)) l
theorem lcmF_app (M : Int) (l k : List (Int × Int)) : lcmF M (l ++ k) = lcmF (lcmF M l) k := by
  induction l generalizing M with
  | nil => rfl
  | cons q l ih => exact ih _
def prodW : List (Int × Int) → Int
  | [] => 1
  | q :: l => q.2 * prodW l
def SolW (l : List (Int × Int)) (n : Int) : Prop := ∀ q ∈ l, q.2 ∣ n - q.1
structure WOk (l : List (Int × Int)) : Prop where
  m : ∀ q ∈ l, 0 < q.2
  r : ∀ q ∈ l, Szc q.1 60
theorem prodW_pos {l : List (Int × Int)} (h : ∀ q ∈ l, 0 < q.2) : 0 < prodW l := by
  induction l with
  | nil => exact Int.one_pos
  | cons q l ih => exact Int.mul_pos (h q (by simp)) (ih fun z hz => h z (by simp [hz]))
structure NwP (rows pre rest : List (Int × Int)) (F M : Int) : Prop where
  e : pre ++ rest = rows
  lo : 0 ≤ F
  hi : F < M
  s : ∀ n, SolW pre n ↔ M ∣ n - F
  l : M = lcmF 1 pre
  p : M * prodW rest ≤ 2 ^ 60
structure NwEnd (rows : List (Int × Int)) (F : Int) : Prop where
  lo : 0 ≤ F
  hi : F < lcmF 1 rows
  s : ∀ n, SolW rows n ↔ lcmF 1 rows ∣ n - F
def nwP (rows : List (Int × Int)) (ds : List D) (ρ : Ev) : Prop := ∃ (pre rest : List (Int × Int)) (F M : Int) (j3 j4 j5 j6 j7 j8 : Option D), ds = rest.map encW ∧ ρ = [some (.list (rows.map encW)), some (.int F), some (.int M), j3, j4, j5, j6, j7, j8] ∧ NwP rows pre rest F M
def nwQ (rows : List (Int × Int)) (v : D) : Prop := v = .none ∧ ∀ n, ¬ SolW rows n
theorem number_with_ok {rows : List (Int × Int)} (h : WOk rows) (hp : prodW rows ≤ 2 ^ 60) : (∃ F, d_number_with [.list (rows.map encW)] = .ok (.tuple [.int F, .int (lcmF 1 rows)]) [] ∧ NwEnd rows F) ∨ (d_number_with [.list (rows.map encW)] = .ok .none [] ∧ ∀ n, ¬ SolW rows n) := by
  unfold d_number_with
  simp
  generalize hW : sFor.go _ _ _ _ _ = W
  have : FEnd (fun ρ => ∃ (F : Int) (j3 j4 j5 j6 j7 j8 : Option D), ρ = [some (.list (rows.map encW)), some (.int F), some (.int (lcmF 1 rows)), j3, j4, j5, j6, j7, j8] ∧ NwEnd rows F) (fun v => v = .none ∧ ∀ n, ¬ SolW rows n) [] W := by
    rw [← hW]
    clear hW
    have := for_R (w := []) (g := gT (gsCons (gN 3) (gsCons (gN 4) gsNil))) (nwP rows) (nwQ rows)
      (db := (sSeq (sAsg (eCall d_combined (aCons (eVar 2) (aCons (eVar 4) aNil))) (gT (gsCons (gN 5) (gsCons (gN 6) (gsCons (gN 7) gsNil)))))
 (sSeq (sIf (bBin vNe (eBin vMod (eBin vSub (eVar 3) (eVar 1)) (eVar 5)) (eC (.int 0))) (sRet (eC .none)) sNext)
 (sSeq (sAsg (eBin vMod (eBin vMul (eBin vFdiv (eBin vSub (eVar 3) (eVar 1)) (eVar 5)) (eVar 6)) (eBin vFdiv (eVar 4) (eVar 5))) (gN 8))
 (sSeq (sAug 1 vAddI (eBin vMul (eVar 8) (eVar 2)))
 (sSeq (sAug 2 vMulI (eBin vFdiv (eVar 4) (eVar 5)))
 (sAug 1 vMod (eVar 2))))))))
      (by
        rintro d ds ρ ⟨pre, rest, F, M, j3, j4, j5, j6, j7, j8, ed, rfl, N⟩
        cases rest with
        | nil => cases ed
        | cons q rest =>
          obtain ⟨r, m⟩ := q
          cases ed
          refine ⟨_, rfl, ?_⟩
          have mem : (r, m) ∈ rows := by rw [← N.e]; simp
          have m0 : 0 < m := h.m _ mem
          have rs : Szc r 60 := h.r _ mem
          have hrs := rs.h
          have M0 : 0 < M := by have := N.lo; have := N.hi; omega
          have pr0 : 0 < prodW rest := prodW_pos fun z hz => h.m z (by rw [← N.e]; simp [hz])
          have pM : M * (m * prodW rest) ≤ 2 ^ 60 := N.p
          have mp0 := Int.mul_pos m0 pr0
          have Mle : M ≤ 2 ^ 60 := Int.le_trans (by have := Int.mul_le_mul_of_nonneg_left (show 1 ≤ m * prodW rest by omega) (Int.le_of_lt M0); omega) pM
          have mle : m ≤ 2 ^ 60 := by
            have a1 := Int.mul_le_mul_of_nonneg_left (show 1 ≤ prodW rest by omega) (Int.le_of_lt m0)
            have a2 := Int.mul_le_mul_of_nonneg_right (show 1 ≤ M by omega) (Int.le_of_lt mp0)
            omega
          obtain ⟨x, y, hc, hxy, bx, by1⟩ := combined_ok M m (by omega) (by omega)
          have g0 : (0 : Int) < Int.gcd M m := by
            have := Int.gcd_pos_of_ne_zero_left m (show M ≠ 0 by omega)
            omega
          have gM : (Int.gcd M m : Int) ∣ M := Int.gcd_dvd_left ..
          have gm : (Int.gcd M m : Int) ∣ m := Int.gcd_dvd_right ..
          have hlcm : lcmF 1 (pre ++ [(r, m)]) = M * (m / (Int.gcd M m : Int)) := by rw [lcmF_app, ← N.l]; rfl
          have gle := Int.le_of_dvd m0 gm
          generalize (Int.gcd M m : Int) = g at *
          have lo := N.lo
          have hi := N.hi
          have sF : Szc F 61 := sz_of (by omega) (by omega)
          have sM : Szc M 61 := sz_of (by omega) (by omega)
          have sx : Szc x 200 := ⟨bx⟩
          have md : vMod (.int (r - F)) (.int g) = some (.int ((r - F) % g)) := modP g0
          by_cases c : g ∣ r - F
          · have C := crt_step M0 m0 g0 gM gm hxy c
            have c0 := Int.emod_eq_zero_of_dvd c
            have q1 : vFdiv (.int (r - F)) (.int g) = some (.int ((r - F) / g)) := divSm g0 (by omega)
            have q2 : vFdiv (.int m) (.int g) = some (.int (m / g)) := divSm g0 (by omega)
            have mg0 : 0 < m / g := Int.ediv_pos_of_pos_of_dvd m0 (Int.le_of_lt g0) gm
            have mgle : m / g ≤ m := Int.ediv_le_self _ (Int.le_of_lt m0)
            have st0 := Int.emod_nonneg ((r - F) / g * x) (show m / g ≠ 0 by omega)
            have st1 := Int.emod_lt_of_pos ((r - F) / g * x) mg0
            have sq : Szc ((r - F) / g) 62 := by
              refine ⟨?_⟩
              have := Int.natAbs_ediv_le_natAbs (r - F) g
              omega
            have md2 : vMod (.int ((r - F) / g * x)) (.int (m / g)) = some (.int ((r - F) / g * x % (m / g))) := modP mg0
            have sst : Szc ((r - F) / g * x % (m / g)) 61 := sz_of (by omega) (by omega)
            have sm : Szc (m / g) 61 := sz_of (by omega) (by omega)
            have md3 : vMod (.int (F + (r - F) / g * x % (m / g) * M)) (.int (M * (m / g))) = some (.int ((F + (r - F) / g * x % (m / g) * M) % (M * (m / g)))) := modP C.M0
            simp [hc, md, c0, q1, q2, md2, md3]
            refine .next ⟨pre ++ [(r, m)], rest, _, _, _, _, _, _, _, _, rfl, rfl, ⟨by rw [← N.e]; simp, C.lo, C.hi, fun n => ?_, hlcm.symm, ?_⟩⟩
            · rw [← C.iff]
              constructor
              · intro hs
                exact ⟨(N.s n).1 fun z hz => hs z (by simp [hz]), hs (r, m) (by simp)⟩
              · rintro ⟨h1, h2⟩ z hz
                rcases List.mem_append.1 hz with hz | hz
                · exact (N.s n).2 h1 z hz
                · rw [List.mem_singleton.1 hz]; exact h2
            · have a1 := Int.mul_le_mul_of_nonneg_right mgle (Int.le_of_lt pr0)
              have a2 := Int.mul_le_mul_of_nonneg_left a1 (Int.le_of_lt M0)
              rw [Int.mul_assoc]
              omega
          · have c0 : ¬ (r - F) % g = 0 := fun z => c (Int.dvd_of_emod_eq_zero z)
            simp [hc, md, c0]
            refine .ret ⟨rfl, fun n hs => ?_⟩
            refine crt_none (n := n) gM gm c ⟨(N.s n).1 fun z hz => hs z (by rw [← N.e]; simp [hz]), hs (r, m) mem⟩)
      (rows.map encW) [some (.list (rows.map encW)), some (.int 0), some (.int 1), none, none, none, none, none, none] ⟨[], rows, 0, 1, none, none, none, none, none, none, rfl, rfl, ⟨rfl, by omega, by omega, fun n => ⟨fun _ => Int.one_dvd _, fun _ z hz => nomatch hz⟩, rfl, by rw [Int.one_mul]; exact hp⟩⟩
    rcases this with ⟨ρ', h1, pre, rest, F, M, j3, j4, j5, j6, j7, j8, e0, e1, N⟩ | h1
    · have : rest = [] := by cases rest with
        | nil => rfl
        | cons => cases e0
      subst this
      have ep : pre = rows := by have := N.e; simpa using this
      subst ep
      refine .inl ⟨_, h1, F, j3, j4, j5, j6, j7, j8, by rw [e1, N.l], ⟨N.lo, by rw [← N.l]; exact N.hi, by rw [← N.l]; exact N.s⟩⟩
    · exact .inr h1
  clear hW
  rcases this with ⟨_, rfl, F, j3, j4, j5, j6, j7, j8, rfl, N⟩ | ⟨v, rfl, rfl, N⟩
  · exact .inl ⟨F, by simp, N⟩
  · exact .inr ⟨by simp, N⟩

theorem asc_ext : ∀ {l m : List Int}, l.Pairwise (· < ·) → m.Pairwise (· < ·) → (∀ z, z ∈ l ↔ z ∈ m) → l = m
  | [], [], _, _, _ => rfl
  | [], y :: m, _, _, h => by have := (h y).2 (by simp); cases this
  | x :: l, [], _, _, h => by have := (h x).1 (by simp); cases this
  | x :: l, y :: m, h1, h2, h => by
    obtain ⟨a1, a2⟩ := List.pairwise_cons.1 h1
    obtain ⟨b1, b2⟩ := List.pairwise_cons.1 h2
    have e : x = y := by
      rcases List.mem_cons.1 ((h x).1 (by simp)) with e | hx
      · exact e
      · rcases List.mem_cons.1 ((h y).2 (by simp)) with e | hy
        · exact e.symm
        · have := a1 y hy; have := b1 x hx; omega
    subst e
    congr 1
    refine asc_ext a2 b2 fun z => ⟨fun hz => ?_, fun hz => ?_⟩
    · rcases List.mem_cons.1 ((h z).1 (by simp [hz])) with rfl | hz'
      · have := a1 _ hz; omega
      · exact hz'
    · rcases List.mem_cons.1 ((h z).2 (by simp [hz])) with rfl | hz'
      · have := b1 _ hz; omega
      · exact hz'
theorem rngI_asc : ∀ (n : Nat) (lo : Int), (rngI lo n).Pairwise (· < ·)
  | 0, _ => List.Pairwise.nil
  | n + 1, lo => by
    rw [rngI, List.pairwise_cons]
    exact ⟨fun z hz => by have := (mem_rngI _ _ _).1 hz; omega, rngI_asc n _⟩
theorem sortI_asc {l : List Int} (h : l.Nodup) : (sortI l).Pairwise (· < ·) := by
  have h2 : (sortI l).Nodup := (sortI_perm l).nodup_iff.2 h
  exact ((sortI_sorted l).and h2).imp fun {a b} z => by have := z.1; have := z.2; omega
def rootL (N M : Int) : List Int := (rngI 0 M.toNat).filter fun x => decide ((x * x - N) % M = 0)
theorem mem_rootL {N M x : Int} (h : 0 < M) : x ∈ rootL N M ↔ 0 ≤ x ∧ x < M ∧ M ∣ x * x - N := by
  unfold rootL
  rw [List.mem_filter, mem_rngI, decide_eq_true_eq, Int.toNat_of_nonneg (by omega)]
  constructor
  · rintro ⟨⟨h1, h2⟩, h3⟩; exact ⟨h1, by omega, Int.dvd_of_emod_eq_zero h3⟩
  · rintro ⟨h1, h2, h3⟩; exact ⟨⟨h1, by omega⟩, Int.emod_eq_zero_of_dvd h3⟩
theorem rootL_asc (N M : Int) : (rootL N M).Pairwise (· < ·) := (rngI_asc _ _).filter _
theorem sort_root {l : List Int} {N M : Int} (h0 : 0 < M) (h : l.Nodup) (hm : ∀ x, x ∈ l ↔ 0 ≤ x ∧ x < M ∧ M ∣ x * x - N) : sortI l = rootL N M :=
  asc_ext (sortI_asc h) (rootL_asc N M) fun z => by rw [mem_rootL h0, ← hm, (sortI_perm l).mem_iff]
theorem rootL_len (N M : Int) : (rootL N M).length ≤ M.toNat := by
  have := List.length_filter_le (fun x => decide ((x * x - N) % M = 0)) (rngI 0 M.toNat)
  rwa [rngI_len] at this
/-! ### lifting -/
def liftR (N p q r : Int) : List Int := ((rngI 0 p.toNat).map fun t => r + t * q).filter fun o => decide ((o * o - N) % (p * q) = 0)
def liftL (N p q : Int) (rs : List Int) : List Int := rs.flatMap (liftR N p q)
theorem mem_liftR {N p q r x : Int} (hp : 0 < p) : x ∈ liftR N p q r ↔ (∃ t, 0 ≤ t ∧ t < p ∧ x = r + t * q) ∧ p * q ∣ x * x - N := by
  unfold liftR
  rw [List.mem_filter, List.mem_map, decide_eq_true_eq]
  constructor
  · rintro ⟨⟨t, h1, h2⟩, h3⟩
    have := (mem_rngI _ _ _).1 h1
    exact ⟨⟨t, by omega, by omega, h2.symm⟩, Int.dvd_of_emod_eq_zero h3⟩
  · rintro ⟨⟨t, h1, h2, h3⟩, h4⟩
    exact ⟨⟨t, (mem_rngI _ _ _).2 (by omega), h3.symm⟩, Int.emod_eq_zero_of_dvd h4⟩
theorem mod_lin {r t q : Int} (h0 : 0 ≤ r) (h1 : r < q) : (r + t * q) % q = r ∧ (r + t * q) / q = t := by
  refine ⟨by rw [Int.add_mul_emod_self_right, Int.emod_eq_of_lt h0 h1], ?_⟩
  rw [Int.add_mul_ediv_right _ _ (by omega), Int.ediv_eq_zero_of_lt h0 h1]; omega
theorem lift_root {N p q : Int} (hp : 0 < p) (hq : 0 < q) : sortI (liftL N p q (rootL N q)) = rootL N (p * q) := by
  refine sort_root (Int.mul_pos hp hq) ?_ fun x => ?_
  · unfold liftL List.Nodup
    rw [List.pairwise_flatMap]
    constructor
    · intro r _
      unfold liftR
      refine List.Pairwise.filter _ ?_
      rw [List.pairwise_map]
      refine (rngI_asc _ _).imp fun {a b} h z => ?_
      have e : a * q = b * q := by omega
      have := Int.eq_of_mul_eq_mul_right (by omega) e
      omega
    · have := rootL_asc N q
      refine List.Pairwise.imp_of_mem (R := (· < ·)) (fun {a b} ha hb hab x hx y hy e => ?_) this
      obtain ⟨⟨t, _, _, h1⟩, _⟩ := (mem_liftR hp).1 hx
      obtain ⟨⟨s, _, _, h2⟩, _⟩ := (mem_liftR hp).1 hy
      obtain ⟨a0, a1, _⟩ := (mem_rootL hq).1 ha
      obtain ⟨b0, b1, _⟩ := (mem_rootL hq).1 hb
      have m1 := (mod_lin (t := t) a0 a1).1
      have m2 := (mod_lin (t := s) b0 b1).1
      rw [← h1, e, h2, m2] at m1
      omega
  · unfold liftL
    rw [List.mem_flatMap]
    constructor
    · rintro ⟨r, h1, h2⟩
      obtain ⟨r0, r1, r2⟩ := (mem_rootL hq).1 h1
      obtain ⟨⟨t, t0, t1, e⟩, h3⟩ := (mem_liftR hp).1 h2
      have q0 := Int.mul_nonneg t0 (Int.le_of_lt hq)
      have q1 := Int.mul_le_mul_of_nonneg_right (show t ≤ p - 1 by omega) (Int.le_of_lt hq)
      have q2 : (p - 1) * q = p * q - q := by grind
      exact ⟨by omega, by omega, h3⟩
    · rintro ⟨h1, h2, h3⟩
      have e := Int.mul_ediv_add_emod x q
      have m0 := Int.emod_nonneg x (show q ≠ 0 by omega)
      have m1 := Int.emod_lt_of_pos x hq
      have ex : x = x % q + x / q * q := by rw [Int.mul_comm (x / q)]; omega
      refine ⟨x % q, (mem_rootL hq).2 ⟨m0, m1, ?_⟩, (mem_liftR hp).2 ⟨⟨x / q, Int.ediv_nonneg h1 (Int.le_of_lt hq), Int.ediv_lt_of_lt_mul hq h2, ex⟩, h3⟩⟩
      have d1 : q ∣ x * x - N := Int.dvd_trans ⟨p, Int.mul_comm _ _⟩ h3
      have d2 : x % q * (x % q) - N = (x * x - N) - q * (x / q * (x + x % q)) := by
        have : x * x - x % q * (x % q) = (x - x % q) * (x + x % q) := by grind
        have e3 : x - x % q = q * (x / q) := by omega
        rw [e3] at this
        grind
      rw [d2]
      exact Int.dvd_sub d1 ⟨_, rfl⟩
theorem sz20 {x : Int} (h : -1048576 < x ∧ x < 1048576) : Szc x 20 := sz_of (by omega) (by omega)
noncomputable abbrev liB : Ev → MM Fl := (sSeq (sAsg (eBin vAdd (eVar 5) (eBin vMul (eVar 6) (eVar 2))) (gN 7))
 (sIf (bBin vEq (eBin vMod (eBin vSub (eBin vMul (eVar 7) (eVar 7)) (eVar 0)) (eBin vMul (eVar 1) (eVar 2))) (eC (.int 0))) (sApp 4 (eVar 7)) sNext))
theorem li_in {N p q r : Int} {rs : D} (hN : Szc N 60) (hp : 0 < p) (hq : 0 < q) (hpq : p * q ≤ 1000000) (r0 : 0 ≤ r) (r1 : r < q) : ∀ (n : Nat) (lo : Int) (fs : List Int) (o6 o7 : Option D), 0 ≤ lo → lo + n ≤ p → fs.length + n ≤ 2000000 →
    ∃ q6 q7 : Option D, sFor.go (gN 6) liB (rangeL lo 1 n) [some (.int N), some (.int p), some (.int q), some rs, some (.list (fs.map .int)), some (.int r), o6, o7] [] = .ok (.next [some (.int N), some (.int p), some (.int q), some rs, some (.list ((fs ++ ((rngI lo n).map fun t => r + t * q).filter fun o => decide ((o * o - N) % (p * q) = 0)).map .int)), some (.int r), q6, q7]) [] := by
  intro n
  induction n with
  | zero => intro lo fs o6 o7 _ _ _; exact ⟨o6, o7, by simp [rangeL, rngI]⟩
  | succ n ih =>
    intro lo fs o6 o7 h0 h1 h2
    have pq0 := Int.mul_pos hp hq
    have a1 := Int.mul_le_mul_of_nonneg_right (show lo ≤ p - 1 by omega) (Int.le_of_lt hq)
    have a2 : (p - 1) * q = p * q - q := by grind
    have a3 := Int.mul_nonneg h0 (Int.le_of_lt hq)
    have a4 := Int.mul_le_mul_of_nonneg_left (show 1 ≤ q by omega) (Int.le_of_lt hp)
    have a5 := Int.mul_le_mul_of_nonneg_right (show 1 ≤ p by omega) (Int.le_of_lt hq)
    have := sz20 (x := p) (by omega)
    have := sz20 (x := q) (by omega)
    have := sz20 (x := r) (by omega)
    have := sz20 (x := lo) (by omega)
    have so := sz20 (x := r + lo * q) (by omega)
    have md : vMod (.int ((r + lo * q) * (r + lo * q) - N)) (.int (p * q)) = some (.int (((r + lo * q) * (r + lo * q) - N) % (p * q))) := modP pq0
    have ln : fs.length < sizeLine := by show _ < 16777216; omega
    rw [rangeL, go_cons, gN_ap, ofO_some, kForG_ok]
    by_cases c : ((r + lo * q) * (r + lo * q) - N) % (p * q) = 0
    · obtain ⟨q6, q7, e⟩ := ih (lo + 1) (fs ++ [r + lo * q]) (some (.int lo)) (some (.int (r + lo * q))) (by omega) (by omega) (by simp; omega)
      refine ⟨q6, q7, ?_⟩
      simp [md, c, ln, rngI] at e ⊢
      rw [e]
    · obtain ⟨q6, q7, e⟩ := ih (lo + 1) fs (some (.int lo)) (some (.int (r + lo * q))) (by omega) (by omega) (by omega)
      refine ⟨q6, q7, ?_⟩
      simp [md, c, ln, rngI] at e ⊢
      rw [e]
theorem liftR_len (N p q r : Int) : (liftR N p q r).length ≤ p.toNat := by
  have := List.length_filter_le (fun o => decide ((o * o - N) % (p * q) = 0)) ((rngI 0 p.toNat).map fun t => r + t * q)
  rwa [List.length_map, rngI_len] at this
theorem li_out {N p q : Int} {R : D} (hN : Szc N 60) (hp : 0 < p) (hq : 0 < q) (hpq : p * q ≤ 1000000) : ∀ (rs fs : List Int) (o5 o6 o7 : Option D), (∀ r ∈ rs, 0 ≤ r ∧ r < q) → fs.length + rs.length * p.toNat ≤ 2000000 →
    ∃ q5 q6 q7 : Option D, sFor.go (gN 5) (sFor (iArgs iRange (aCons (eVar 1) aNil)) (gN 6) liB) (rs.map .int) [some (.int N), some (.int p), some (.int q), some R, some (.list (fs.map .int)), o5, o6, o7] [] = .ok (.next [some (.int N), some (.int p), some (.int q), some R, some (.list ((fs ++ liftL N p q rs).map .int)), q5, q6, q7]) [] := by
  intro rs
  induction rs with
  | nil => intro fs o5 o6 o7 _ _; exact ⟨o5, o6, o7, by simp [liftL]⟩
  | cons r rs ih =>
    intro fs o5 o6 o7 h1 h2
    have a4 := Int.mul_le_mul_of_nonneg_left (show 1 ≤ q by omega) (Int.le_of_lt hp)
    have e1 : (r :: rs).length * p.toNat = rs.length * p.toNat + p.toNat := by rw [List.length_cons, Nat.add_mul, Nat.one_mul]
    have r1 : iRange [.int p] = some (rangeL 0 1 p.toNat) := range1 (by omega)
    obtain ⟨q6, q7, e2⟩ := li_in (rs := R) hN hp hq hpq (h1 r (by simp)).1 (h1 r (by simp)).2 p.toNat 0 fs o6 o7 (by omega) (by omega) (by omega)
    have e3 : (((rngI 0 p.toNat).map fun t => r + t * q).filter fun o => decide ((o * o - N) % (p * q) = 0)) = liftR N p q r := rfl
    rw [e3] at e2
    have ll := liftR_len N p q r
    obtain ⟨z5, z6, z7, e4⟩ := ih (fs ++ liftR N p q r) (some (.int r)) q6 q7 (fun x hx => h1 x (by simp [hx])) (by rw [List.length_append]; omega)
    refine ⟨z5, z6, z7, ?_⟩
    rw [List.map_cons, go_cons, gN_ap, ofO_some, kForG_ok]
    simp [r1] at e2 ⊢
    rw [e2]
    simp [liftL] at e4 ⊢
    exact e4
theorem lifted_ok {N p q : Int} (hN : Szc N 60) (hp : 0 < p) (hq : 0 < q) (hpq : p * q ≤ 1000000) : d_u_lifted [.int N, .int p, .int q, .list ((rootL N q).map .int)] = .ok (.list ((rootL N (p * q)).map .int)) [] := by
  have l1 := rootL_len N q
  have l2 : (rootL N q).length * p.toNat ≤ 1000000 := by
    have := Nat.mul_le_mul_right p.toNat l1
    have e : ((q.toNat * p.toNat : Nat) : Int) = p * q := by rw [Int.natCast_mul, Int.toNat_of_nonneg (by omega), Int.toNat_of_nonneg (by omega), Int.mul_comm]
    omega
  obtain ⟨z5, z6, z7, e⟩ := li_out (R := .list ((rootL N q).map .int)) hN hp hq hpq (rootL N q) [] none none none (fun r hr => by have := (mem_rootL hq).1 hr; exact ⟨this.1, this.2.1⟩) (by simp; omega)
  unfold d_u_lifted
  simp at e ⊢
  rw [e]
  have := fSorted_ints (liftL N p q (rootL N q))
  rw [lift_root hp hq] at this
  simp [this]
theorem power_loop {N p c : Int} (hN : Szc N 60) (hp : 0 < p) : ∀ (n : Nat) (lo : Int) (k : Nat) (o : Option D), p ^ (k + n) ≤ 1000000 → ∃ q5 : Option D, sFor.go (gN 5) (sSeq (sAsg (eCall d_u_lifted (aCons (eVar 0) (aCons (eVar 1) (aCons (eVar 4) (aCons (eVar 3) aNil))))) (gN 3))
 (sSeq (sAug 4 vMulI (eVar 1)) (sIf (bBin cGt (eVar 4) (eC (.int 1000000))) (sRaise ⟨"TooLarge", none⟩) sNext))) (rangeL lo 1 n) [some (.int N), some (.int p), some (.int c), some (.list ((rootL N (p ^ k)).map .int)), some (.int (p ^ k)), o] [] = .ok (.next [some (.int N), some (.int p), some (.int c), some (.list ((rootL N (p ^ (k + n))).map .int)), some (.int (p ^ (k + n))), q5]) [] := by
  intro n
  induction n with
  | zero => intro lo k o _; exact ⟨o, rfl⟩
  | succ n ih =>
    intro lo k o h
    have mono : ∀ j : Nat, 0 < p ^ j := fun j => Int.pow_pos hp
    have e1 : p ^ (k + (n + 1)) = p ^ (k + 1) * p ^ n := by rw [← Int.pow_add]; congr 1; omega
    have e2 : p ^ (k + 1) ≤ 1000000 := by
      have := Int.mul_le_mul_of_nonneg_left (show 1 ≤ p ^ n by have := mono n; omega) (Int.le_of_lt (mono (k + 1)))
      omega
    have e3 : p * p ^ k = p ^ (k + 1) := by rw [Int.pow_succ, Int.mul_comm]
    have l := lifted_ok (q := p ^ k) hN hp (mono k) (by rw [e3]; exact e2)
    rw [e3] at l
    obtain ⟨q5, h5⟩ := ih (lo + 1) (k + 1) (some (.int lo)) (by rw [show k + 1 + n = k + (n + 1) by omega]; exact h)
    rw [show k + 1 + n = k + (n + 1) by omega] at h5
    refine ⟨q5, ?_⟩
    have p1 := Int.mul_le_mul_of_nonneg_left (show 1 ≤ p ^ k by have := mono k; omega) (Int.le_of_lt hp)
    have p2 := Int.mul_le_mul_of_nonneg_right (show 1 ≤ p by omega) (Int.le_of_lt (mono k))
    have := sz20 (x := p) (by omega)
    have := sz20 (x := p ^ k) (by have := mono k; omega)
    have e4 : p ^ k * p = p ^ (k + 1) := (Int.pow_succ ..).symm
    have big : ¬ (1000000 : Int) < p ^ (k + 1) := by omega
    rw [rangeL, go_cons, gN_ap, ofO_some, kForG_ok]
    simp [l, e4, big]
    exact h5
theorem rootL_one (N : Int) : rootL N 1 = [0] := by
  unfold rootL
  simp [rngI]
theorem roots_power_ok {N p : Int} {c : Nat} (hN : Szc N 60) (hp : 0 < p) (hc : c < 2 ^ 40) (h : p ^ c ≤ 1000000) : d_roots_modulo_power [.int N, .int p, .int c] = .ok (.list ((rootL N (p ^ c)).map .int)) [] := by
  have r1 : iRange [.int (c : Int)] = some (rangeL 0 1 c) := range1N (by omega)
  obtain ⟨q5, e⟩ := power_loop (c := c) hN hp c 0 0 none (by simpa using h)
  rw [Int.pow_zero, rootL_one] at e
  unfold d_roots_modulo_power
  simp [r1] at e ⊢
  rw [e]
  simp

theorem pn_coprime {p q : Nat} (hp : isPn p) (hq : isPn q) (h2 : 2 ≤ p) (g2 : 2 ≤ q) (hne : p ≠ q) : Nat.Coprime p q := by
  have d1 := Nat.gcd_dvd_left p q
  have d2 := Nat.gcd_dvd_right p q
  have l1 := Nat.le_of_dvd (by omega) d1
  have l2 := Nat.le_of_dvd (by omega) d2
  have d0 : 0 < Nat.gcd p q := Nat.gcd_pos_of_pos_left _ (by omega)
  show Nat.gcd p q = 1
  generalize Nat.gcd p q = d at *
  by_cases c : d = 1
  · exact c
  · have e1 : d = p := by
      by_cases e : d = p
      · exact e
      · exact absurd d1 (hp d (by omega) (by omega))
    have e2 : d = q := by
      by_cases e : d = q
      · exact e
      · exact absurd d2 (hq d (by omega) (by omega))
    omega
theorem cop_prodL {p k : Nat} (hp : isPn p) (h2 : 2 ≤ p) : ∀ {l : List (Nat × Nat)}, (∀ q ∈ l, isPn q.1 ∧ 2 ≤ q.1 ∧ q.1 ≠ p) → Nat.Coprime (prodL l) (p ^ k)
  | [], _ => by show Nat.gcd 1 _ = 1; simp
  | q :: l, h => by
    obtain ⟨a, b, c⟩ := h q (by simp)
    exact Nat.Coprime.mul_left (Nat.Coprime.pow _ _ (pn_coprime a hp b h2 c)) (cop_prodL hp h2 fun z hz => h z (by simp [hz]))
def crtF (M q u x r : Int) : Int := (x + M * u * (r - x)) % (M * q)
theorem crtF_ok {M q u v x r : Int} (hM : 0 < M) (hq : 0 < q) (e : M * u + q * v = 1) : 0 ≤ crtF M q u x r ∧ crtF M q u x r < M * q ∧ M ∣ crtF M q u x r - x ∧ q ∣ crtF M q u x r - r := by
  have MM := Int.mul_pos hM hq
  obtain ⟨s, hs⟩ : ∃ s, crtF M q u x r = x + M * u * (r - x) - M * q * s := ⟨_, Int.emod_def _ _⟩
  refine ⟨Int.emod_nonneg _ (by omega), Int.emod_lt_of_pos _ MM, ⟨u * (r - x) - q * s, by rw [hs]; grind⟩, ⟨-(v * (r - x)) - M * s, ?_⟩⟩
  have : M * u = 1 - q * v := by omega
  rw [hs, this]; grind
theorem crt_same {M q u v a b : Int} (e : M * u + q * v = 1) (a0 : 0 ≤ a) (a1 : a < M * q) (b0 : 0 ≤ b) (b1 : b < M * q) (h1 : M ∣ a - b) (h2 : q ∣ a - b) : a = b := by
  have := crt_join (M := M) (m := q) (g := 1) (x := u) (y := v) (by omega) (Int.one_dvd _) (Int.one_dvd _) e h1 h2
  rw [Int.ediv_one] at this
  have z := Int.eq_zero_of_dvd_of_natAbs_lt_natAbs this (by omega)
  omega
theorem nw_two {M q u v x r : Int} (hM : 0 < M) (hq : 0 < q) (hb : M * q ≤ 1000000) (e : M * u + q * v = 1) (hg : Int.gcd M q = 1) (x0 : 0 ≤ x) (x1 : x < M) (r0 : 0 ≤ r) (r1 : r < q) :
    d_number_with [.list [.tuple [.int x, .int M], .tuple [.int r, .int q]]] = .ok (.tuple [.int (crtF M q u x r), .int (M * q)]) [] := by
  obtain ⟨f0, f1, f2, f3⟩ := crtF_ok (x := x) (r := r) hM hq e
  have m1 := Int.mul_le_mul_of_nonneg_left (show 1 ≤ q by omega) (Int.le_of_lt hM)
  have m2 := Int.mul_le_mul_of_nonneg_right (show 1 ≤ M by omega) (Int.le_of_lt hq)
  have ok : WOk [(x, M), (r, q)] := by
    refine ⟨fun z hz => ?_, fun z hz => ?_⟩ <;> simp only [List.mem_cons, List.not_mem_nil, or_false] at hz <;> rcases hz with rfl | rfl
    · exact hM
    · exact hq
    · exact sz_of (by simp only; omega) (by simp only; omega)
    · exact sz_of (by simp only; omega) (by simp only; omega)
  have hl : lcmF 1 [(x, M), (r, q)] = M * q := by
    simp only [lcmF]
    have g1 : Int.gcd 1 M = 1 := by simp
    rw [g1]
    simp only [Int.natCast_one, Int.ediv_one, Int.one_mul]
    rw [hg]
    simp
  have sol : SolW [(x, M), (r, q)] (crtF M q u x r) := by
    intro z hz
    simp only [List.mem_cons, List.not_mem_nil, or_false] at hz
    rcases hz with rfl | rfl
    · exact f2
    · exact f3
  rcases number_with_ok ok (by show M * (q * 1) ≤ _; rw [Int.mul_one]; omega) with ⟨F, h, N⟩ | ⟨_, h⟩
  · have := (N.s _).1 sol
    have lo := N.lo
    have hi := N.hi
    rw [hl] at this hi h
    have z := Int.eq_zero_of_dvd_of_natAbs_lt_natAbs this (by omega)
    have : crtF M q u x r = F := by omega
    rw [this]
    exact h
  · exact absurd sol (h _)
structure RmI (N M : Int) (xs : List Int) : Prop where
  nd : xs.Nodup
  mem : ∀ x, x ∈ xs ↔ 0 ≤ x ∧ x < M ∧ M ∣ x * x - N
  len : xs.length ≤ M.toNat
def freshL (N M q u : Int) (xs : List Int) (rs : List Int) : List Int := rs.flatMap fun r => xs.map fun x => crtF M q u x r
theorem freshL_len (N M q u : Int) (xs rs : List Int) : (freshL N M q u xs rs).length = rs.length * xs.length := by
  induction rs with
  | nil => simp [freshL]
  | cons r rs ih =>
    have : freshL N M q u xs (r :: rs) = xs.map (fun x => crtF M q u x r) ++ freshL N M q u xs rs := by simp [freshL]
    rw [this, List.length_append, List.length_map, ih, List.length_cons, Nat.add_mul, Nat.one_mul, Nat.add_comm]
theorem RmI.step {N M q u v : Int} {xs : List Int} (h : RmI N M xs) (hM : 0 < M) (hq : 0 < q) (e : M * u + q * v = 1) : RmI N (M * q) (freshL N M q u xs (rootL N q)) := by
  have nd := h.nd
  have mem := h.mem
  have len := h.len
  have sq : ∀ {m a b : Int}, m ∣ a - b → m ∣ b * b - N → m ∣ a * a - N := by
    intro m a b ⟨c, hc⟩ h2
    have : a * a - N = (b * b - N) + m * (c * (a + b)) := by
      have : a * a - b * b = (a - b) * (a + b) := by grind
      rw [hc] at this
      grind
    rw [this]
    exact Int.dvd_add h2 ⟨_, rfl⟩
  have sym : ∀ {m a b : Int}, m ∣ a - b → m ∣ b - a := by
    intro m a b h
    have := Int.dvd_neg.2 h
    rwa [show -(a - b) = b - a by omega] at this
  have small : ∀ {m a b : Int}, 0 ≤ a → a < m → 0 ≤ b → b < m → m ∣ a - b → a = b := by
    intro m a b a0 a1 b0 b1 hd
    have z := Int.eq_zero_of_dvd_of_natAbs_lt_natAbs hd (by omega)
    omega
  refine ⟨?_, fun y => ?_, ?_⟩
  · unfold freshL List.Nodup
    rw [List.pairwise_flatMap]
    constructor
    · intro r _
      rw [List.pairwise_map]
      refine List.Pairwise.imp_of_mem (fun {a b} ha hb hab z => hab ?_) nd
      obtain ⟨a0, a1, _⟩ := (mem a).1 ha
      obtain ⟨b0, b1, _⟩ := (mem b).1 hb
      have f1 := (crtF_ok (x := a) (r := r) hM hq e).2.2.1
      have f2 := (crtF_ok (x := b) (r := r) hM hq e).2.2.1
      rw [z] at f1
      have := Int.dvd_sub f2 f1
      rw [show crtF M q u b r - b - (crtF M q u b r - a) = a - b by omega] at this
      exact small a0 a1 b0 b1 this
    · refine List.Pairwise.imp_of_mem (fun {a b} ha hb hab x hx y hy z => ?_) (rootL_asc N q)
      obtain ⟨x1, _, rfl⟩ := List.mem_map.1 hx
      obtain ⟨y1, _, rfl⟩ := List.mem_map.1 hy
      obtain ⟨a0, a1, _⟩ := (mem_rootL hq).1 ha
      obtain ⟨b0, b1, _⟩ := (mem_rootL hq).1 hb
      have f1 := (crtF_ok (x := x1) (r := a) hM hq e).2.2.2
      have f2 := (crtF_ok (x := y1) (r := b) hM hq e).2.2.2
      rw [z] at f1
      have := Int.dvd_sub f2 f1
      rw [show crtF M q u y1 b - b - (crtF M q u y1 b - a) = a - b by omega] at this
      have := small a0 a1 b0 b1 this
      omega
  · unfold freshL
    rw [List.mem_flatMap]
    constructor
    · rintro ⟨r, hr, hy⟩
      obtain ⟨x, hx, rfl⟩ := List.mem_map.1 hy
      obtain ⟨_, _, x2⟩ := (mem x).1 hx
      obtain ⟨_, _, r2⟩ := (mem_rootL hq).1 hr
      obtain ⟨f0, f1, f2, f3⟩ := crtF_ok (x := x) (r := r) hM hq e
      refine ⟨f0, f1, ?_⟩
      have := crt_join (M := M) (m := q) (g := 1) (x := u) (y := v) (by omega) (Int.one_dvd _) (Int.one_dvd _) e (sq f2 x2) (sq f3 r2)
      rwa [Int.ediv_one] at this
    · rintro ⟨y0, y1, y2⟩
      have m0 := Int.emod_nonneg y (show M ≠ 0 by omega)
      have m1 := Int.emod_lt_of_pos y hM
      have q0 := Int.emod_nonneg y (show q ≠ 0 by omega)
      have q1 := Int.emod_lt_of_pos y hq
      have eM : M ∣ y - y % M := ⟨y / M, by have := Int.mul_ediv_add_emod y M; omega⟩
      have eq : q ∣ y - y % q := ⟨y / q, by have := Int.mul_ediv_add_emod y q; omega⟩
      refine ⟨y % q, (mem_rootL hq).2 ⟨q0, q1, sq (sym eq) (Int.dvd_trans ⟨M, Int.mul_comm _ _⟩ y2)⟩, List.mem_map.2 ⟨y % M, (mem _).2 ⟨m0, m1, sq (sym eM) (Int.dvd_trans ⟨q, rfl⟩ y2)⟩, ?_⟩⟩
      obtain ⟨f0, f1, f2, f3⟩ := crtF_ok (x := y % M) (r := y % q) hM hq e
      refine crt_same e f0 f1 y0 y1 ?_ ?_
      · have := Int.dvd_sub f2 eM
        rwa [show crtF M q u (y % M) (y % q) - y % M - (y - y % M) = crtF M q u (y % M) (y % q) - y by omega] at this
      · have := Int.dvd_sub f3 eq
        rwa [show crtF M q u (y % M) (y % q) - y % q - (y - y % q) = crtF M q u (y % M) (y % q) - y by omega] at this
  · rw [freshL_len]
    have := Nat.mul_le_mul (rootL_len N q) len
    have e2 : ((q.toNat * M.toNat : Nat) : Int) = M * q := by rw [Int.natCast_mul, Int.toNat_of_nonneg (by omega), Int.toNat_of_nonneg (by omega), Int.mul_comm]
    omega

abbrev enM (M x : Int) : D := .tuple [.int x, .int M]
theorem pw_loop0 {N n f c : D} {P : Int} (hP : 0 < P) {o7 o8 o9 : Option D} : ∀ (k : Nat) (lo : Int) (j : Nat) (o6 : Option D), P ^ (j + k) ≤ 1000000 → P ≤ 1000000 → ∃ q6 : Option D, sFor.go (gN 6) (sAug 5 vMulI (eVar 3)) (rangeL lo 1 k) [some N, some n, some f, some (.int P), some c, some (.int (P ^ j)), o6, o7, o8, o9] [] = .ok (.next [some N, some n, some f, some (.int P), some c, some (.int (P ^ (j + k))), q6, o7, o8, o9]) [] := by
  intro k
  induction k with
  | zero => intro lo j o6 _ _; exact ⟨o6, rfl⟩
  | succ k ih =>
    intro lo j o6 h hp2
    have mono : ∀ j : Nat, 0 < P ^ j := fun j => Int.pow_pos hP
    have e1 : P ^ (j + (k + 1)) = P ^ j * P ^ (k + 1) := by rw [← Int.pow_add]
    have e2 : P ^ j ≤ 1000000 := by
      have := Int.mul_le_mul_of_nonneg_left (show 1 ≤ P ^ (k + 1) by have := mono (k + 1); omega) (Int.le_of_lt (mono j))
      omega
    obtain ⟨q6, e⟩ := ih (lo + 1) (j + 1) (some (.int lo)) (by rw [show j + 1 + k = j + (k + 1) by omega]; exact h) hp2
    rw [show j + 1 + k = j + (k + 1) by omega] at e
    refine ⟨q6, ?_⟩
    have := sz20 (x := P) (by omega)
    have := sz20 (x := P ^ j) (by have := mono j; omega)
    have e4 : P ^ j * P = P ^ (j + 1) := (Int.pow_succ ..).symm
    rw [rangeL, go_cons, gN_ap, ofO_some, kForG_ok]
    simp [e4]
    exact e
theorem nw_lc {M q u v : Int} {xs : List Int} (hM : 0 < M) (hq : 0 < q) (hb : M * q ≤ 1000000) (e : M * u + q * v = 1) (hg : Int.gcd M q = 1) (hx : ∀ x ∈ xs, 0 ≤ x ∧ x < M) {r : Int} (r0 : 0 ≤ r) (r1 : r < q) {N n f p c : D} {o6 o7 o9 : Option D} :
    lcGo (gN 9) bYes (eCall d_number_with (aCons (eLst (aCons (eVar 9) (aCons (eTup (aCons (eVar 8) (aCons (eVar 5) aNil))) aNil))) aNil)) [some N, some n, some f, some p, some c, some (.int q), o6, o7, some (.int r), o9] (xs.map (enM M)) [] = .ok ((xs.map fun x => crtF M q u x r).map (enM (M * q))) [] := by
  rw [List.map_map]
  refine lc_map (w := []) (enM M) _ xs (fun x hxx => ⟨_, rfl, ?_⟩)
  have := nw_two (x := x) (r := r) hM hq hb e hg (hx x hxx).1 (hx x hxx).2 r0 r1
  simp [this]
theorem fr_loop {Z M q u v : Int} {xs : List Int} (hM : 0 < M) (hq : 0 < q) (hb : M * q ≤ 1000000) (e : M * u + q * v = 1) (hg : Int.gcd M q = 1) (hx : ∀ x ∈ xs, 0 ≤ x ∧ x < M) {N n p c : D} {o6 : Option D} (hl : xs.length ≤ 2000000) :
    ∀ (rs fs : List Int) (o8 : Option D), (∀ r ∈ rs, 0 ≤ r ∧ r < q) → fs.length + rs.length * xs.length ≤ 2000000 →
    ∃ q8 : Option D, sFor.go (gN 8) (sExt 7 (eOfF (lcD (iSeq (eVar 2)) (gN 9) bYes (eCall d_number_with (aCons (eLst (aCons (eVar 9) (aCons (eTup (aCons (eVar 8) (aCons (eVar 5) aNil))) aNil))) aNil)) [9]))) (rs.map .int) [some N, some n, some (.list (xs.map (enM M))), some p, some c, some (.int q), o6, some (.list (fs.map (enM (M * q)))), o8, none] [] = .ok (.next [some N, some n, some (.list (xs.map (enM M))), some p, some c, some (.int q), o6, some (.list ((fs ++ freshL Z M q u xs rs).map (enM (M * q)))), q8, none]) [] := by
  intro rs
  induction rs with
  | nil => intro fs o8 _ _; exact ⟨o8, by simp [freshL]⟩
  | cons r rs ih =>
    intro fs o8 h1 h2
    have e1 : (r :: rs).length * xs.length = rs.length * xs.length + xs.length := by rw [List.length_cons, Nat.add_mul, Nat.one_mul]
    have lc := fun (N n f p c : D) (o6 o7 o9 : Option D) => nw_lc hM hq hb e hg hx (h1 r (by simp)).1 (h1 r (by simp)).2 (N := N) (n := n) (f := f) (p := p) (c := c) (o6 := o6) (o7 := o7) (o9 := o9)
    obtain ⟨q8, e4⟩ := ih (fs ++ xs.map fun x => crtF M q u x r) (some (.int r)) (fun x hx => h1 x (by simp [hx])) (by rw [List.length_append, List.length_map]; omega)
    refine ⟨q8, ?_⟩
    have ln : (xs.map (enM M)).length ≤ sizeLine := by rw [List.length_map]; show _ ≤ 16777216; omega
    have ln2 : fs.length + xs.length ≤ sizeLine := by show _ ≤ 16777216; omega
    have ln3 : fs.length + xs.length < sizeLine := by show _ < 16777216; omega
    rw [List.map_cons, go_cons, gN_ap, ofO_some, kForG_ok]
    simp [kLc_ok ln, lc, ln2, ln3]
    simp [freshL] at e4 ⊢
    exact e4

theorem prodL_app (l m : List (Nat × Nat)) : prodL (l ++ m) = prodL l * prodL m := by
  induction l with
  | nil => simp [prodL]
  | cons a l ih => simp only [List.cons_append, prodL, ih]; rw [Nat.mul_assoc]
theorem prodL_pos {l : List (Nat × Nat)} (h : ∀ q ∈ l, 2 ≤ q.1) : 0 < prodL l := by
  induction l with
  | nil => exact Nat.one_pos
  | cons q l ih =>
    exact Nat.mul_pos (Nat.pow_pos (by have := h q (by simp); omega)) (ih fun z hz => h z (by simp [hz]))
def rmP (N : Int) (n : Nat) (ds : List D) (ρ : Ev) : Prop := ∃ (pre rest : List (Nat × Nat)) (xs : List Int) (j3 j4 j5 j6 j7 j8 : Option D), ds = rest.map encQ ∧ pre ++ rest = factL n ∧
  ρ = [some (.int N), some (.int n), some (.list (xs.map (enM (prodL pre : Nat)))), j3, j4, j5, j6, j7, j8, none] ∧ RmI N (prodL pre : Nat) xs
theorem rm_step {N : Int} {n : Nat} (hN : Szc N 60) (h0 : 1 ≤ n) (h1 : n ≤ 1000000) {d : D} {ds : List D} {ρ : Ev} (hp : rmP N n (d :: ds) ρ) : ∃ ρ1, gT (gsCons (gN 3) (gsCons (gN 4) gsNil)) d ρ = some ρ1 ∧ FStep (rmP N n ds) (fun _ => False) [] ((sSeq (sAsg (eC (.int 1)) (gN 5))
 (sSeq (sFor (iArgs iRange (aCons (eVar 4) aNil)) (gN 6) (sAug 5 vMulI (eVar 3)))
 (sSeq (sOwn 7 aNil)
 (sSeq (sFor (iSeq (eCall d_roots_modulo_power (aCons (eVar 0) (aCons (eVar 3) (aCons (eVar 4) aNil))))) (gN 8) (sExt 7 (eOfF (lcD (iSeq (eVar 2)) (gN 9) bYes (eCall d_number_with (aCons (eLst (aCons (eVar 9) (aCons (eTup (aCons (eVar 8) (aCons (eVar 5) aNil))) aNil))) aNil)) [9]))))
 (sAsg (eVar 7) (gN 2)))))) ρ1 []) := by
  obtain ⟨pre, rest, xs, j3, j4, j5, j6, j7, j8, ed, er, rfl, I⟩ := hp
  cases rest with
  | nil => cases ed
  | cons a rest =>
    obtain ⟨p, k⟩ := a
    cases ed
    refine ⟨_, rfl, ?_⟩
    obtain ⟨fe, fo⟩ := factL_ok h0
    have mem : (p, k) ∈ factL n := by rw [← er]; simp
    have p2 := fo.ge _ mem
    have pp := fo.pr _ mem
    simp only at p2 pp
    have asc := fo.asc
    rw [← er, List.pairwise_append] at asc
    have cop : Nat.Coprime (prodL pre) (p ^ k) := cop_prodL pp p2 fun q hq => by
      have hm : q ∈ factL n := by rw [← er]; simp [hq]
      have := asc.2.2 q hq (p, k) (by simp)
      simp only at this
      exact ⟨fo.pr q hm, fo.ge q hm, by omega⟩
    rw [← er, prodL_app] at fe
    have M0 : 0 < prodL pre := prodL_pos fun q hq => fo.ge q (by rw [← er]; simp [hq])
    have R0 : 0 < prodL rest := prodL_pos fun q hq => fo.ge q (by rw [← er]; simp [hq])
    have q0 : 0 < p ^ k := Nat.pow_pos (by omega)
    have fe2 : prodL pre * p ^ k * prodL rest = n := by rw [← fe]; show _ = prodL pre * (p ^ k * prodL rest); rw [Nat.mul_assoc]
    have le1 : prodL pre * p ^ k ≤ n := by rw [← fe2]; exact Nat.le_mul_of_pos_right _ R0
    have le2 : p ^ k ≤ n := Nat.le_trans (Nat.le_mul_of_pos_left _ M0) le1
    have le3 : prodL pre ≤ n := Nat.le_trans (Nat.le_mul_of_pos_right _ q0) le1
    have k1 := fo.k _ mem
    simp only at k1
    have lep : p ≤ p ^ k := by
      have := Nat.pow_le_pow_right (show 0 < p by omega) k1
      rwa [Nat.pow_one] at this
    have kk : k < 1000000 := by
      have a1 := @Nat.lt_two_pow_self k
      have a2 := Nat.pow_le_pow_left p2 k
      omega
    have ipw : ((p ^ k : Nat) : Int) = (p : Int) ^ k := Int.natCast_pow p k
    obtain ⟨Mi, hMi⟩ : ∃ z : Int, z = (prodL pre : Nat) := ⟨_, rfl⟩
    obtain ⟨qi, hqi⟩ : ∃ z : Int, z = (p ^ k : Nat) := ⟨_, rfl⟩
    obtain ⟨pi, hpi⟩ : ∃ z : Int, z = (p : Nat) := ⟨_, rfl⟩
    rw [← hpi] at ipw
    have hqi2 : qi = pi ^ k := by rw [hqi, ipw]
    obtain ⟨u, v, _, hb, _, _⟩ := combined_ok Mi qi (by omega) (by omega)
    have hg : Int.gcd Mi qi = 1 := by rw [hMi, hqi]; exact cop
    rw [hg] at hb
    have mm : (((prodL (pre ++ [(p, k)])) : Nat) : Int) = Mi * qi := by
      rw [prodL_app, hMi, hqi]
      show (((prodL pre * (p ^ k * 1)) : Nat) : Int) = _
      rw [Nat.mul_one, Int.natCast_mul]
    have mle : Mi * qi ≤ 1000000 := by rw [hMi, hqi, ← Int.natCast_mul]; omega
    rw [← hMi] at I
    have I2 := I.step (by omega) (by omega) hb
    obtain ⟨q6, e6⟩ := pw_loop0 (N := .int N) (n := .int n) (f := .list (xs.map (enM Mi))) (c := .int k) (P := pi) (by omega) (o7 := j7) (o8 := j8) (o9 := none) k 0 0 j6 (by rw [Nat.zero_add, ← hqi2]; omega) (by omega)
    rw [Nat.zero_add, Int.pow_zero, ← hqi2] at e6
    have rp := roots_power_ok (N := N) (p := pi) (c := k) hN (by omega) (by omega) (by rw [← hqi2]; omega)
    rw [← hqi2] at rp
    have r1 : iRange [.int (k : Int)] = some (rangeL 0 1 k) := range1N (by omega)
    have xl := I.len
    have l2 : (rootL N qi).length * xs.length ≤ 1000000 := by
      have := Nat.mul_le_mul (rootL_len N qi) I.len
      have e2 : ((qi.toNat * Mi.toNat : Nat) : Int) = Mi * qi := by rw [Int.natCast_mul, Int.toNat_of_nonneg (by omega), Int.toNat_of_nonneg (by omega), Int.mul_comm]
      omega
    obtain ⟨q8, e8⟩ := fr_loop (Z := N) (M := Mi) (q := qi) (u := u) (v := v) (xs := xs) (by omega) (by omega) mle hb hg (fun x hx => by have := (I.mem x).1 hx; exact ⟨this.1, this.2.1⟩) (N := .int N) (n := .int n) (p := .int pi) (c := .int k) (o6 := q6) (by omega) (rootL N qi) [] j8 (fun r hr => by have := (mem_rootL (show 0 < qi by omega)).1 hr; exact ⟨this.1, this.2.1⟩) (by simp; omega)
    simp only [List.map_nil, List.nil_append] at e8
    rw [← hMi, ← hpi]
    simp [r1]
    rw [e6]
    simp [rp]
    rw [e8]
    simp
    exact .next ⟨pre ++ [(p, k)], rest, freshL N Mi qi u xs (rootL N qi), _, _, _, _, _, _, rfl, by rw [← er]; simp, by rw [mm], by rw [mm]; exact I2⟩
theorem roots_modulo_ok {N : Int} {n : Nat} (hN : Szc N 60) (h0 : 1 ≤ n) (h1 : n ≤ 1000000) : d_roots_modulo [.int N, .int n] = .ok (.list ((rootL N n).map .int)) [] := by
  have fac := factorization_ok n (by omega)
  have big : ¬ (1000000 : Int) < n := by omega
  unfold d_roots_modulo
  simp [big, fac]
  generalize hW : sFor.go _ _ _ _ _ = W
  have : WEnd (rmP N n []) [] W := by
    rw [← hW]
    clear hW
    refine for_P (rmP N n) (fun d ds ρ hp => rm_step hN h0 h1 hp) _ _ ⟨[], factL n, [0], none, none, none, none, none, none, rfl, rfl, rfl, ⟨by simp, fun x => ?_, by simp [prodL]⟩⟩
    simp only [List.mem_singleton, prodL, Int.natCast_one]
    exact ⟨fun z => by subst z; exact ⟨by omega, by omega, Int.one_dvd _⟩, fun z => by omega⟩
  obtain ⟨_, rfl, pre, rest, xs, j3, j4, j5, j6, j7, j8, ed, er, rfl, I⟩ := this
  clear hW
  have er0 : rest = [] := by cases rest with
    | nil => rfl
    | cons => cases ed
  subst er0
  have ep : pre = factL n := by simpa using er
  rw [ep, (factL_ok h0).1] at I ⊢
  have so := sort_root (by omega) I.nd I.mem
  have xl := I.len
  have ln : (xs.map (enM (n : Int))).length ≤ sizeLine := by rw [List.length_map]; show _ ≤ 16777216; omega
  have lc := lc_map (w := []) (g := gT (gsCons (gN 8) (gsCons (gN 6) gsNil))) (d := eVar 8) (ρ0 := [some (.int N), some (.int n), some (.list (xs.map (enM (n : Int)))), j3, j4, j5, none, j7, none, none]) (enM (n : Int)) PyData.int xs (fun x _ => ⟨_, rfl, by simp⟩)
  have fs := fSorted_ints xs
  rw [so] at fs
  simp [kLc_ok ln, lc, fs]
end M

set_option Elab.async false
set_option linter.all false
set_option maxRecDepth 100000
set_option maxHeartbeats 4000000
namespace M
open PySem PySem.Spec PyProof.Rows L2
theorem L_is_square_ok {n r : Int} (h0 : 0 ≤ n) (h1 : n < 2 ^ 200) (hr : 0 ≤ r) (hr1 : r * r ≤ n) (hr2 : n < (r + 1) * (r + 1)) : d_L_is_square [.int n] = .ok (.bool (decide (r * r = n))) [] := by
  unfold d_L_is_square
  obtain ⟨⟨l, h, m⟩, ⟨c1, c2, c3, c4, c5⟩, cc, cw⟩ := while_by (w := []) (t := bBin cGt (eBin vSub (eVar 2) (eVar 1)) (eC (.int 1))) (db := sSeq (sAsg (eBin vFdiv (eBin vAdd (eVar 1) (eVar 2)) (eC (.int 2))) (gN 3))
      (sIf (bBin cLe (eBin vMul (eVar 3) (eVar 3)) (eVar 0)) (sAsg (eVar 3) (gN 1)) (sAsg (eVar 3) (gN 2))))
    (fun a : Int × Int × Option D => [some (.int n), some (.int a.1), some (.int a.2.1), a.2.2]) (fun a => 0 ≤ a.1 ∧ a.1 < a.2.1 ∧ a.2.1 ≤ 2 * n + 1 ∧ a.1 * a.1 ≤ n ∧ n < a.2.1 * a.2.1)
    (fun a => decide (1 < a.2.1 - a.1)) (fun a => let m := (a.1 + a.2.1) / 2; if m * m ≤ n then (m, a.2.1, some (.int m)) else (a.1, m, some (.int m))) (fun a => (a.2.1 - a.1).toNat)
    (fun a p => by simp)
    (fun a p c => by
      obtain ⟨l, h, m⟩ := a
      have c := of_decide_eq_true c
      simp only at p c ⊢
      have e : vMul (.int ((l + h) / 2)) (.int ((l + h) / 2)) = some (.int ((l + h) / 2 * ((l + h) / 2))) := mulSm (by omega) (by omega)
      by_cases q : (l + h) / 2 * ((l + h) / 2) ≤ n
      · simp only [q, if_true]
        refine ⟨by simp [divSm (b := 2) (by omega) (by omega), e, q], ⟨by omega, by omega, by omega, trivial, by omega⟩, by omega⟩
      · simp only [q, if_false]
        refine ⟨by simp [divSm (b := 2) (by omega) (by omega), e, q], ⟨by omega, by omega, by omega, by omega, by omega⟩, by omega⟩)
    (0, n + 1, none) ⟨by simp, by simp; omega, by simp; omega, by simpa using h0, by simp; have := Int.mul_le_mul_of_nonneg_left (show 1 ≤ n + 1 by omega) (show 0 ≤ n + 1 by omega); omega⟩
  have cc := of_decide_eq_false cc
  simp only at c1 c2 c3 c4 c5 cc cw
  have e : h = l + 1 := by omega
  subst e
  have lr : l = r := by
    have g1 : ¬ l < r := fun z => by
      have := Int.mul_le_mul (show l + 1 ≤ r by omega) (show l + 1 ≤ r by omega) (by omega) hr
      omega
    have g2 : ¬ r < l := fun z => by
      have := Int.mul_le_mul (show r + 1 ≤ l by omega) (show r + 1 ≤ l by omega) (by omega) c1
      omega
    omega
  subst lr
  have z : ¬ n < 0 := by omega
  have ln : l ≤ n := by
    by_cases z : l = 0
    · omega
    · have := Int.mul_le_mul_of_nonneg_left (show 1 ≤ l by omega) c1
      omega
  simp [z, cw, mulSm (a := l) (b := l) (by omega) (by omega)]
end M

set_option Elab.async false
set_option linter.all false
set_option maxRecDepth 100000
set_option maxHeartbeats 4000000
namespace M
open PySem PySem.Spec PyProof.Rows L2
theorem isq_ex (n : Nat) : ∃ r : Nat, r * r ≤ n ∧ n < (r + 1) * (r + 1) := by
  induction n with
  | zero => exact ⟨0, by omega, by omega⟩
  | succ n ih =>
    obtain ⟨r, h1, h2⟩ := ih
    by_cases c : n + 1 < (r + 1) * (r + 1)
    · exact ⟨r, by omega, c⟩
    · refine ⟨r + 1, by omega, ?_⟩
      have : (r + 1 + 1) * (r + 1 + 1) = (r + 1) * (r + 1) + 2 * (r + 1) + 1 := by grind
      omega
theorem isq_ok {n : Int} (h0 : 0 ≤ n) (h1 : n < 2 ^ 100) : ∃ r : Int, 0 ≤ r ∧ r * r ≤ n ∧ d_L_is_square [.int n] = .ok (.bool (decide (r * r = n))) [] := by
  obtain ⟨r, h2, h3⟩ := isq_ex n.toNat
  have e : (n.toNat : Int) = n := Int.toNat_of_nonneg h0
  have h2 : (r : Int) * r ≤ n := by rw [← e]; exact_mod_cast h2
  have h3 : n < ((r : Int) + 1) * (r + 1) := by rw [← e]; exact_mod_cast h3
  exact ⟨r, by omega, h2, L_is_square_ok h0 (by omega) (by omega) h2 h3⟩
def abP (m : Nat) (ρ : Ev) : Prop := ∃ (j : Option D) (n : Int), ρ = [none, j, some (.int n)] ∧ 5 ≤ n ∧ n ≤ 256 ∧ (n % 4 = 0 ∨ n % 4 = 1) ∧ m ≤ 1 ∧ (m = 0 → ∃ r : Int, 2 ≤ r ∧ r * r = n - 4)
theorem next_sq {n r q : Int} (hr : 2 ≤ r) (e1 : r * r = n - 4) (hq : 0 ≤ q) (e2 : q * q = n) : False := by
  rcases (show q ≤ r ∨ r + 1 ≤ q by omega) with h | h
  · have := Int.mul_le_mul h h hq (by omega); omega
  · have := Int.mul_le_mul h h (by omega) hq
    have : (r + 1) * (r + 1) = r * r + 2 * r + 1 := by grind
    omega
theorem ab_loop {j : Option D} {n : Int} (h : abP 1 [none, j, some (.int n)]) {w : Wd} : ∃ (n' : Int) (j' : Option D), sWhile (bTru (eCall d_L_is_square (aCons (eVar 2) aNil))) (sAsg (eBin vAdd (eVar 2) (eC (.int 4))) (gN 2)) [none, j, some (.int n)] w = .ok (.next [none, j', some (.int n')]) w ∧ 5 ≤ n' ∧ n' ≤ 260 ∧ (n' % 4 = 0 ∨ n' % 4 = 1) := by
  have : WEnd (fun ρ => ∃ (n' : Int) (j' : Option D), ρ = [none, j', some (.int n')] ∧ 5 ≤ n' ∧ n' ≤ 260 ∧ (n' % 4 = 0 ∨ n' % 4 = 1)) w (sWhile (bTru (eCall d_L_is_square (aCons (eVar 2) aNil))) (sAsg (eBin vAdd (eVar 2) (eC (.int 4))) (gN 2)) [none, j, some (.int n)] w) := by
    refine while_P (fun m ρ => ∃ (j : Option D) (n : Int), ρ = [none, j, some (.int n)] ∧ 5 ≤ n ∧ n ≤ 260 - 4 * m ∧ (n % 4 = 0 ∨ n % 4 = 1) ∧ m ≤ 1 ∧ (m = 0 → ∃ r : Int, 2 ≤ r ∧ r * r = n - 4)) _ ?_ 1 _ ?_
    · rintro m ρ ⟨j, n, rfl, n0, n1, n4, m1, hm⟩
      obtain ⟨r, r0, r1, hs⟩ := isq_ok (n := n) (by omega) (by omega)
      by_cases c : r * r = n
      · have m0 : m ≠ 0 := by
          rintro rfl
          obtain ⟨q, q2, qe⟩ := hm rfl
          exact next_sq q2 qe r0 c
        have r2 : 2 ≤ r := by
          rcases (show r = 0 ∨ r = 1 ∨ 2 ≤ r by omega) with z | z | z
          · rw [z] at c; omega
          · rw [z] at c; omega
          · exact z
        have := sz_of (x := n) (n := 20) (by omega) (by omega)
        refine .inr ⟨by simp [hs, c], ?_⟩
        simp
        exact .next (m := 0) (by omega) ⟨j, n + 4, rfl, by omega, by omega, by omega, by omega, fun _ => ⟨r, r2, by omega⟩⟩
      · exact .inl ⟨by simp [hs, c], n, j, rfl, n0, by omega, n4⟩
    · obtain ⟨j', n', e, h1, h2, h3, h4, _⟩ := h
      simp only [List.cons.injEq, and_true, true_and, Option.some.injEq, PyData.int.injEq] at e
      obtain ⟨rfl, rfl⟩ := e
      exact ⟨j, n, rfl, h1, by omega, h3, by omega, fun z => by omega⟩
  obtain ⟨_, h, n', j', rfl, rest⟩ := this
  exact ⟨n', j', h, rest⟩
theorem L_disc_ok {ω : Wd} (h : StOk ω) : ∃ (D : Int) (R : Rg) (ω' : Wd), d_L_disc [] ω = .ok (.int D) ω' ∧ Dc D R ∧ -500 ≤ D ∧ D ≤ 500 ∧ StOk ω' := by
  obtain ⟨r1, w1, h1, a1, b1, s1⟩ := L_draw_ok h (m := 2) (by omega) (by omega)
  by_cases z : r1 = 0
  · obtain ⟨r2, w2, h2, a2, b2, s2⟩ := L_draw_ok s1 (m := 2) (by omega) (by omega)
    obtain ⟨r3, w3, h3, a3, b3, s3⟩ := L_draw_ok s2 (m := 120) (by omega) (by omega)
    have := sz_of (x := r3) (n := 20) (by omega) (by omega)
    obtain ⟨σ, hσ, ix⟩ : ∃ σ : Int, (σ = 0 ∨ σ = 1) ∧ vIx (.list [.int (-3), .int (-4)]) (.int r2) = some (.int (σ - 4)) := by
      rcases (show r2 = 0 ∨ r2 = 1 by omega) with rfl | rfl
      · exact ⟨1, .inr rfl, rfl⟩
      · exact ⟨0, .inl rfl, rfl⟩
    have hb : d_L_below [.int 120] w1 = .ok (.int (σ - 4 - 4 * r3)) w3 := by
      unfold d_L_below
      simp [h2, h3, ix]
    refine ⟨σ - 4 - 4 * r3, ⟨σ, -1 - r3⟩, w3, ?_, ⟨hσ, by simp only; omega⟩, by omega, by omega, s3⟩
    unfold d_L_disc
    simp [h1, z, hb]
  · obtain ⟨r2, w2, h2, a2, b2, s2⟩ := L_draw_ok s1 (m := 60) (by omega) (by omega)
    obtain ⟨r3, w3, h3, a3, b3, s3⟩ := L_draw_ok s2 (m := 2) (by omega) (by omega)
    have := sz_of (x := r2) (n := 20) (by omega) (by omega)
    have := sz_of (x := r3) (n := 20) (by omega) (by omega)
    have hn4 : (5 + 4 * r2 + 3 * r3) % 4 = 0 ∨ (5 + 4 * r2 + 3 * r3) % 4 = 1 := by
      rcases (show r3 = 0 ∨ r3 = 1 by omega) with e | e <;> rw [e] <;> omega
    obtain ⟨n, j, e, n0, n1, n4⟩ := ab_loop (j := some (.int 60)) (n := 5 + 4 * r2 + 3 * r3) ⟨_, _, rfl, by omega, by omega, hn4, Nat.le_refl _, fun z => by omega⟩ (w := w3)
    have hb : d_L_above [.int 60] w1 = .ok (.int n) w3 := by
      unfold d_L_above
      simp [h2, h3, e]
    refine ⟨n, ⟨n % 4, n / 4⟩, w3, ?_, ⟨n4, by simp only; omega⟩, by omega, by omega, s3⟩
    unfold d_L_disc
    simp [h1, z, hb]
end M

set_option Elab.async false
set_option linter.all false
set_option maxRecDepth 100000
set_option maxHeartbeats 4000000
namespace M
open PySem PySem.Spec PyProof.Rows L2
def bL (D a : Int) : List Int := (rngI 0 (2 * a).toNat).filter fun b => decide ((b * b - D) % (4 * a) = 0)
theorem mem_bL {D a b : Int} (ha : 0 < a) : b ∈ bL D a ↔ 0 ≤ b ∧ b < 2 * a ∧ (b * b - D) % (4 * a) = 0 := by
  unfold bL
  rw [List.mem_filter, mem_rngI, decide_eq_true_eq, Int.toNat_of_nonneg (by omega)]
  constructor
  · rintro ⟨⟨h1, h2⟩, h3⟩; exact ⟨h1, by omega, h3⟩
  · rintro ⟨h1, h2, h3⟩; exact ⟨⟨h1, by omega⟩, h3⟩
theorem bL_one {D : Int} {R : Rg} (hD : Dc D R) : bL D 1 ≠ [] := by
  have hs := hD.s
  have : R.s ∈ bL D 1 := (mem_bL (by omega)).2 ⟨by omega, by omega, by
    rw [hD.ss, hD.e]; omega⟩
  intro z
  rw [z] at this
  exact nomatch this
theorem bL_lc {i : Nat} {D a : Int} (zD : Szc D 20) (h0 : 0 < a) (h1 : a ≤ 100) {ρ0 : Ev} {w : Wd} {cond : Ev → MM Bool} {el : Ev → MM PyData} {N : Nat} (hN : (2 * a).toNat = N) (hc : ∀ x : Int, 0 ≤ x → x < 2 * a → cond (put ρ0 i (.int x)) w = .ok (decide ((x * x - D) % (4 * a) = 0)) w) {F : Int → PyData} (he : ∀ x : Int, el (put ρ0 i (.int x)) w = .ok (F x) w) : lcGo (gN i) cond el ρ0 (rangeL 0 1 N) w = .ok ((bL D a).map F) w := by
  subst hN
  rw [rangeL_eq]
  refine lc_eval (w := w) PyData.int (fun x => decide ((x * x - D) % (4 * a) = 0)) F (rngI 0 (2 * a).toNat) (fun x hx => ⟨_, rfl, ?_, fun _ => he x⟩)
  have := (mem_rngI _ _ _).1 hx
  exact hc x (by omega) (by omega)
theorem cond_ok {D a x : Int} (zD : Szc D 20) (h0 : 0 < a) (h1 : a ≤ 100) (x0 : 0 ≤ x) (x1 : x < 2 * a) : vMod (.int (x * x - D)) (.int (4 * a)) = some (.int ((x * x - D) % (4 * a))) := modP (by omega)
def liP (D most : Int) (m : Nat) (ρ : Ev) : Prop := ∃ (a : Int) (j4 : Option PyData), ρ = [none, some (.int D), some (.int most), some (.int a), j4, none] ∧ 1 ≤ a ∧ a ≤ 40 ∧ m = a.toNat
theorem L_ideal_ok {D : Int} {R : Rg} (hD : Dc D R) (zD : Szc D 20) {ω : Wd} (h : StOk ω) {most : Int} (m0 : 0 < most) (m1 : most ≤ 40) : ∃ (f : Fm) (ω' : Wd), d_L_ideal [.int D, .int most] ω = .ok f.enc ω' ∧ GoodF D f ∧ f.a ≤ 3 ∧ f.b ≤ 40 ∧ StOk ω' := by
  obtain ⟨r1, w1, h1, a1, b1, s1⟩ := L_draw_ok h (m := most) m0 (by omega)
  have rows : ∀ (a : Int) (j4 j5 : Option PyData) (w : Wd), 0 < a → a ≤ 40 → (eOfF (lcD (iArgs iRange (aCons (eBin vMul (eC (.int 2)) (eVar 3)) aNil)) (gN 4) (bBin vEq (eBin vMod (eArgs fInt (aCons (eBin vSub (eBin vMul (eVar 4) (eVar 4)) (eVar 1)) aNil)) (eBin vMul (eC (.int 4)) (eVar 3))) (eC (.int 0))) (eVar 4) [4])) [none, some (.int D), some (.int most), some (.int a), j4, j5] w = .ok (.list ((bL D a).map .int)) w := by
    intro a j4 j5 w a0 a40
    obtain ⟨N, hN⟩ : ∃ N, (2 * a).toNat = N := ⟨_, rfl⟩
    have rg : iRange [.int (2 * a)] = some (rangeL 0 1 N) := by rw [← hN]; exact range1 (by omega)
    have ln : (rangeL 0 1 N).length ≤ sizeLine := by rw [rangeL_len]; show _ ≤ 16777216; omega
    have za := sz20 (x := a) (by omega)
    have lc := bL_lc (i := 4) (D := D) (a := a) zD a0 (by omega) (ρ0 := [none, some (.int D), some (.int most), some (.int a), none, j5]) (w := w) (cond := bBin vEq (eBin vMod (eArgs fInt (aCons (eBin vSub (eBin vMul (eVar 4) (eVar 4)) (eVar 1)) aNil)) (eBin vMul (eC (.int 4)) (eVar 3))) (eC (.int 0))) (el := eVar 4) hN (fun x x0 x1 => by
      have := sz20 (x := x) (by omega)
      simp [cond_ok zD a0 (by omega) x0 x1]) (F := PyData.int) (fun x => by simp)
    simp [rg, kLc_ok ln]
    rw [lc]
    simp
  have lp : WEnd (fun ρ => ∃ (a : Int) (j4 : Option PyData), ρ = [none, some (.int D), some (.int most), some (.int a), j4, none] ∧ 1 ≤ a ∧ a ≤ 40 ∧ bL D a ≠ []) w1 (sWhile (bBin vEq (eArgs fLen (aCons (eOfF (lcD (iArgs iRange (aCons (eBin vMul (eC (.int 2)) (eVar 3)) aNil)) (gN 4) (bBin vEq (eBin vMod (eArgs fInt (aCons (eBin vSub (eBin vMul (eVar 4) (eVar 4)) (eVar 1)) aNil)) (eBin vMul (eC (.int 4)) (eVar 3))) (eC (.int 0))) (eVar 4) [4])) aNil)) (eC (.int 0))) (sAsg (eBin vSub (eVar 3) (eC (.int 1))) (gN 3)) [none, some (.int D), some (.int most), some (.int (1 + r1)), none, none] w1) := by
    refine while_P (liP D most) _ ?_ _ _ ⟨1 + r1, none, rfl, by omega, by omega, rfl⟩
    rintro m ρ ⟨a, j4, rfl, a0, a40, rfl⟩
    have rr := rows a j4 none w1 (by omega) a40
    generalize (eOfF (lcD (iArgs iRange (aCons (eBin vMul (eC (.int 2)) (eVar 3)) aNil)) (gN 4) (bBin vEq (eBin vMod (eArgs fInt (aCons (eBin vSub (eBin vMul (eVar 4) (eVar 4)) (eVar 1)) aNil)) (eBin vMul (eC (.int 4)) (eVar 3))) (eC (.int 0))) (eVar 4) [4])) = E at *
    have za := sz20 (x := a) (by omega)
    by_cases c : bL D a = []
    · have a1 : a ≠ 1 := by rintro rfl; exact bL_one hD c
      refine .inr ⟨by simp [rr, c], ?_⟩
      simp
      exact .next (m := (a - 1).toNat) (by omega) ⟨a - 1, j4, rfl, by omega, by omega, rfl⟩
    · exact .inl ⟨by simp [rr, c], a, j4, rfl, a0, a40, c⟩
  obtain ⟨_, hw, a, j4, rfl, a0, a40, hne⟩ := lp
  have rr := rows a j4 none w1 (by omega) a40
  obtain ⟨r2, w2, h2, a2, b2, s2⟩ := L_draw_ok s1 (m := 5) (by omega) (by omega)
  have bl0 : 0 < (bL D a).length := List.length_pos_iff.2 hne
  have bl1 : (bL D a).length ≤ 80 := by
    have := List.length_filter_le (fun b => decide ((b * b - D) % (4 * a) = 0)) (rngI 0 (2 * a).toNat)
    rw [rngI_len] at this
    have : (bL D a).length ≤ (2 * a).toNat := this
    omega
  obtain ⟨r3, w3, h3, a3, b3, s3⟩ := L_draw_ok s2 (m := (bL D a).length) (by omega) (by omega)
  obtain ⟨k, k0, k3, kx⟩ : ∃ k : Int, 1 ≤ k ∧ k ≤ 3 ∧ vIx (.list [.int 1, .int 1, .int 1, .int 2, .int 3]) (.int r2) = some (.int k) := by
    rcases (show r2 = 0 ∨ r2 = 1 ∨ r2 = 2 ∨ r2 = 3 ∨ r2 = 4 by omega) with rfl | rfl | rfl | rfl | rfl
    · exact ⟨1, by omega, by omega, rfl⟩
    · exact ⟨1, by omega, by omega, rfl⟩
    · exact ⟨1, by omega, by omega, rfl⟩
    · exact ⟨2, by omega, by omega, rfl⟩
    · exact ⟨3, by omega, by omega, rfl⟩
  obtain ⟨b, bm, bx⟩ : ∃ b, b ∈ bL D a ∧ vIx (.list ((bL D a).map .int)) (.int r3) = some (.int b) := by
    have hk : r3.toNat < (bL D a).length := by omega
    refine ⟨(bL D a)[r3.toNat], List.getElem_mem hk, ?_⟩
    have := vIx_list (xs := (bL D a).map PyData.int) (j := r3.toNat) (v := .int ((bL D a)[r3.toNat])) (by simp [hk])
    rwa [Int.toNat_of_nonneg a3] at this
  obtain ⟨c1, c2, c3⟩ := (mem_bL (by omega)).1 bm
  refine ⟨⟨k, a, b⟩, w3, ?_, ⟨by simp only; omega, by simp only; omega, c1, c2, Int.dvd_of_emod_eq_zero c3⟩, k3, a40, s3⟩
  unfold d_L_ideal
  generalize (eOfF (lcD (iArgs iRange (aCons (eBin vMul (eC (.int 2)) (eVar 3)) aNil)) (gN 4) (bBin vEq (eBin vMod (eArgs fInt (aCons (eBin vSub (eBin vMul (eVar 4) (eVar 4)) (eVar 1)) aNil)) (eBin vMul (eC (.int 4)) (eVar 3))) (eC (.int 0))) (eVar 4) [4])) = E at *
  simp [h1, hw, rr, h2, h3, kx, bx]
  rfl
end M

set_option Elab.async false
set_option linter.all false
set_option maxRecDepth 100000
set_option maxHeartbeats 4000000
namespace M
open PySem PySem.Spec PyProof.Rows L2
theorem mem_lin {D : Int} {R : Rg} (hD : Dc D R) {f : Fm} (h : GoodF D f) (m n : Int) : ∃ u : El, R.x u = 2 * f.a * f.b * m + f.a * f.c * n ∧ u.2 = f.a * n ∧ (tI R f).has u.1 u.2 := by
  have l := (tI R f).lat.lin (tI R f).gen1 (tI R f).gen2 m n
  refine ⟨(m * ((tI R f).k * (tI R f).a) + n * ((tI R f).k * (tI R f).β), m * 0 + n * (tI R f).k), ?_, by simp only [tI]; grind, l⟩
  have e1 := e1_x R f
  have e2 := e2_x hD h
  simp only [Rg.x, Id3.e1, Id3.e2] at e1 e2 ⊢
  have : 2 * (m * ((tI R f).k * (tI R f).a) + n * ((tI R f).k * (tI R f).β)) + R.s * (m * 0 + n * (tI R f).k) = m * (2 * ((tI R f).k * (tI R f).a) + R.s * 0) + n * (2 * ((tI R f).k * (tI R f).β) + R.s * (tI R f).k) := by grind
  rw [this, e1, e2]; grind
theorem L_member_ok {D : Int} {R : Rg} (hD : Dc D R) {f : Fm} (hf : GB D 30 f) {ω : Wd} (h : StOk ω) : ∃ (u : El) (ω' : Wd), d_L_member [.int D, f.enc] ω = .ok (encE R u) ω' ∧ (tI R f).has u.1 u.2 ∧ SzE R 70 u ∧ StOk ω' := by
  obtain ⟨r1, w1, h1, a1, b1, s1⟩ := L_draw_ok h (m := 13) (by omega) (by omega)
  obtain ⟨r2, w2, h2, a2, b2, s2⟩ := L_draw_ok s1 (m := 13) (by omega) (by omega)
  obtain ⟨u, e1, e2, e3⟩ := mem_lin hD hf.g (r1 - 6) (r2 - 6)
  have z1 := hf.sk; have z2 := hf.sa; have z3 := hf.sc
  have zm : Szc (r1 - 6) 4 := sz_of (by omega) (by omega)
  have zn : Szc (r2 - 6) 4 := sz_of (by omega) (by omega)
  have y1 := (szMul2 (szMul2 (szMul2 (show Szc 2 2 from ⟨by decide⟩) z1) z2) zm).h
  have y2 := (szMul2 (szMul2 z1 z3) zn).h
  have y3 := (szMul2 z1 zn).h
  refine ⟨u, w2, ?_, e3, ⟨⟨by rw [e1]; omega⟩, ⟨by rw [e2]; omega⟩⟩, s2⟩
  unfold d_L_member encE
  rw [e1, e2]
  simp [h1, h2]
theorem mul_sz {D : Int} {R : Rg} (hD : Dc D R) (zD : Szc D 10) {u v : El} (hu : SzE R 70 u) (hv : SzE R 70 v) : SzE R 160 (R.mul u v) := by
  have tx := times_x hD u v
  have ty := times_y R u v
  have b1 := (szMul2 hu.x hv.x).h
  have b2 := (szMul2 (szMul2 zD hu.y) hv.y).h
  have b3 := (szMul2 hu.x hv.y).h
  have b4 := (szMul2 hu.y hv.x).h
  exact ⟨⟨by omega⟩, ⟨by omega⟩⟩
open Classical in
theorem has_t {D : Int} {R : Rg} (hD : Dc D R) {f : Fm} (zD : Szc D 20) (h : GB D 30 f) {u : El} (z : SzE R 200 u) (hh : (tI R f).has u.1 u.2) : d_L_ideal_has [.int D, f.enc, encE R u] = .ok (.bool true) [] := by
  have := L_has_u hD zD h z
  rwa [decide_eq_true hh] at this
theorem fb_gb {D : Int} {f : Fm} (h : GB D 30 f) : FB 40 f := ⟨szcMono h.sk (by omega), szcMono h.sa (by omega), szcMono h.sc (by omega)⟩
theorem L_is_good {D : Int} {f : Fm} (zD : Szc D 20) (h : GB D 30 f) : d_L_is_ideal [.int D, f.enc] = .ok (.bool true) [] := by
  have := L_is_ideal_ok zD (fb_gb h)
  rwa [(goodB_iff D f).2 h.g] at this
def cjE (R : Rg) (u : El) : El := (u.1 + R.s * u.2, -u.2)
theorem cjE_x (R : Rg) (u : El) : R.x (cjE R u) = R.x u := by simp only [Rg.x, cjE]; grind
theorem cj_has {R : Rg} {I : Id3} {u : El} (h : I.has u.1 u.2) : (I.cj R).has (cjE R u).1 (cjE R u).2 := by
  refine ⟨Int.dvd_neg.2 h.1, ?_⟩
  have e : (cjE R u).1 - (I.cj R).β * (cjE R u).2 = u.1 - I.β * u.2 := by simp only [cjE, Id3.cj]; grind
  rw [e]; exact h.2
structure HO (D : Int) (R : Rg) (f g B S Y : Fm) : Prop where
  tf : GT D f
  tg : GT D g
  tB : GT D B
  tS : GT D S
  tY : GB D 30 Y
  hB : ∀ p q, (tI R B).has p q ↔ PZ R (tI R f) (tI R g) p q
  hS : ∀ p q, (tI R S).has p q ↔ SumP (tI R f) (tI R g) p q
  hY : ∀ p q, (tI R Y).has p q ↔ (tI R f).has p q ∧ (tI R g).has p q
def hoP (D : Int) (f g B S Y : Fm) (ds : List PyData) (ρ : Ev) (w : Wd) : Prop := StOk w ∧ ∃ j7 j8 j9 j10 j11 : Option PyData, ρ = [none, some (.int D), some f.enc, some g.enc, some B.enc, some S.enc, some Y.enc, j7, j8, j9, j10, j11, none, none]
noncomputable abbrev hoB : Ev → MM Fl := (sSeq (sAsg (eCallS d_L_member (aCons (eVar 1) (aCons (eVar 2) aNil))) (gN 9))
 (sSeq (sAsg (eCallS d_L_member (aCons (eVar 1) (aCons (eVar 3) aNil))) (gN 10))
 (sSeq (sIf (bOr (bNot (bTru (eCall d_L_ideal_has (aCons (eVar 1) (aCons (eVar 4) (aCons (eCall d_L_times (aCons (eVar 1) (aCons (eVar 9) (aCons (eVar 10) aNil)))) aNil)))))) (bNot (bTru (eCall d_L_ideal_has (aCons (eVar 1) (aCons (eVar 5) (aCons (eTup (aCons (eBin vAdd (eBin vIx (eVar 9) (eC (.int 0))) (eBin vIx (eVar 10) (eC (.int 0)))) (aCons (eBin vAdd (eBin vIx (eVar 9) (eC (.int 1))) (eBin vIx (eVar 10) (eC (.int 1)))) aNil))) aNil))))))) (sRet (eC (.bool false))) sNext)
 (sSeq (sIf (bOr (bNot (bTru (eCall d_L_ideal_has (aCons (eVar 1) (aCons (eCall d_ideal_conjugate (aCons (eVar 2) aNil)) (aCons (eTup (aCons (eBin vIx (eVar 9) (eC (.int 0))) (aCons (eBin vSub (eC (.int 0)) (eBin vIx (eVar 9) (eC (.int 1)))) aNil))) aNil)))))) (bBin vNe (eCall d_L_ideal_has (aCons (eVar 1) (aCons (eVar 3) (aCons (eVar 9) aNil)))) (eCall d_L_ideal_has (aCons (eVar 1) (aCons (eVar 6) (aCons (eVar 9) aNil)))))) (sRet (eC (.bool false))) sNext)
 (sSeq (sAsg (eCallS d_L_member (aCons (eVar 1) (aCons (eVar 4) aNil))) (gN 11))
 (sIf (bOr (bNot (bTru (eCall d_L_ideal_has (aCons (eVar 1) (aCons (eVar 6) (aCons (eVar 11) aNil)))))) (bNot (bTru (eCall d_L_ideal_has (aCons (eVar 1) (aCons (eVar 2) (aCons (eCallS d_L_member (aCons (eVar 1) (aCons (eVar 6) aNil))) aNil))))))) (sRet (eC (.bool false))) sNext))))))
open Classical in
theorem ho_step {D : Int} {R : Rg} (hD : Dc D R) (zD : Szc D 10) {f g B S Y : Fm} (H : HO D R f g B S Y) {d : PyData} {ds : List PyData} {ρ : Ev} {w : Wd} (hp : hoP D f g B S Y (d :: ds) ρ w) : ∃ ρ1, gN 8 d ρ = some ρ1 ∧ SStep (hoP D f g B S Y ds) (hoB ρ1 w) := by
  obtain ⟨s0, j7, j8, j9, j10, j11, rfl⟩ := hp
  refine ⟨_, rfl, ?_⟩
  have z20 : Szc D 20 := szcMono zD (by omega)
  obtain ⟨u, w1, h1, m1, z1, s1⟩ := L_member_ok hD H.tf.g30 s0
  obtain ⟨v, w2, h2, m2, z2, s2⟩ := L_member_ok hD H.tg.g30 s1
  obtain ⟨p, w3, h3, m3, z3, s3⟩ := L_member_ok hD H.tB.g30 s2
  obtain ⟨q, w4, h4, m4, z4, s4⟩ := L_member_ok hD H.tY s3
  have t1 := L_times_ok hD z20 z1 z2 (by omega)
  have k1 := has_t hD z20 H.tB.g30 (u := R.mul u v) (by have := mul_sz hD zD z1 z2; exact ⟨szcMono this.x (by omega), szcMono this.y (by omega)⟩) ((H.hB _ _).2 (PZ.mem m1 m2))
  have ux := z1.x.h; have uy := z1.y.h; have vx := z2.x.h; have vy := z2.y.h
  have exy : R.x (u.1 + v.1, u.2 + v.2) = R.x u + R.x v := by simp only [Rg.x]; grind
  have k2 := has_t hD z20 H.tS.g30 (u := (u.1 + v.1, u.2 + v.2)) ⟨by rw [exy]; exact ⟨by omega⟩, ⟨by simp only; omega⟩⟩ ((H.hS _ _).2 (SumP.lat.add (SumP.l m1) (SumP.r m2)))
  have k2 : d_L_ideal_has [.int D, S.enc, .tuple [.int (R.x u + R.x v), .int (u.2 + v.2)]] = .ok (.bool true) [] := by rw [← exy]; exact k2
  obtain ⟨cg, ch⟩ := conj_good hD H.tf
  have cj := conj_ok hD H.tf.g30
  have k3 := has_t hD z20 cg.g30 (u := cjE R u) ⟨by rw [cjE_x]; exact szcMono z1.x (by omega), ⟨by simp only [cjE]; omega⟩⟩ ((ch _ _).2 (cj_has m1))
  have k3 : d_L_ideal_has [.int D, (redF R ((tI R f).cj R)).enc, .tuple [.int (R.x u), .int (-u.2)]] = .ok (.bool true) [] := by
    rw [← cjE_x]; exact k3
  have up : SzE R 200 u := ⟨szcMono z1.x (by omega), szcMono z1.y (by omega)⟩
  have k4 := L_has_u hD z20 H.tg.g30 up
  have k5 := L_has_u hD z20 H.tY up
  obtain ⟨β, hβ, hβ2⟩ : ∃ β : Bool, d_L_ideal_has [.int D, g.enc, encE R u] = .ok (.bool β) [] ∧ d_L_ideal_has [.int D, Y.enc, encE R u] = .ok (.bool β) [] := by
    by_cases c : (tI R g).has u.1 u.2
    · refine ⟨true, ?_, ?_⟩
      · rw [k4, decide_eq_true c]
      · rw [k5, decide_eq_true ((H.hY _ _).2 ⟨m1, c⟩)]
    · refine ⟨false, ?_, ?_⟩
      · rw [k4, decide_eq_false c]
      · rw [k5, decide_eq_false (fun z => c ((H.hY _ _).1 z).2)]
  have fo := H.tf.g.ok hD
  have go := H.tg.g.ok hD
  have pz := (H.hB _ _).1 m3
  have k6 := has_t hD z20 H.tY (u := p) ⟨szcMono z3.x (by omega), szcMono z3.y (by omega)⟩ ((H.hY _ _).2 ⟨PZ.within fo pz, PZ.within go (PZ.comm pz)⟩)
  have k7 := has_t hD z20 H.tf.g30 (u := q) ⟨szcMono z4.x (by omega), szcMono z4.y (by omega)⟩ ((H.hY _ _).1 m4).1
  have i0 : ∀ u : El, vIx (encE R u) (.int 0) = some (.int (R.x u)) := fun u => vIx_t0 _ _
  have i1 : ∀ u : El, vIx (encE R u) (.int 1) = some (.int u.2) := fun u => vIx_t1 _ _ _
  simp [h1, h2, t1, k1, i0, i1, k2, cj, k3, hβ, hβ2, h3, k6, h4, k7]
  exact ⟨_, _, rfl, s4, j7, some d, some (encE R u), some (encE R v), some (encE R p), rfl⟩
end M

set_option Elab.async false
set_option linter.all false
set_option maxRecDepth 100000
set_option maxHeartbeats 4000000
namespace M
open PySem PySem.Spec PyProof.Rows L2
structure GQ (D : Int) (f : Fm) : Prop where
  g : GoodF D f
  k : f.a ≤ 3
  a : f.b ≤ 40
theorem GQ.b {D : Int} {f : Fm} (h : GQ D f) : f.a * f.b ≤ 120 := by
  have := h.g.k; have := h.g.a; have := h.k; have := h.a
  exact Int.mul_le_mul (show f.a ≤ 3 by omega) (show f.b ≤ 40 by omega) (by omega) (by omega)
theorem GQ.gt {D : Int} {f : Fm} (h : GQ D f) : GT D f := ⟨h.g, by have := h.b; omega⟩
theorem GQ.gn {D : Int} {f : Fm} (h : GQ D f) : GN D f := ⟨h.gt, by
  have := h.b; have := h.k; have := h.g.k; have := Int.mul_pos h.g.k h.g.a
  have := Int.mul_le_mul (show f.a ≤ 3 by omega) h.b (by omega) (by omega)
  rw [Int.mul_assoc]; omega⟩
open Classical in
theorem holds_ok {D : Int} {R : Rg} (hD : Dc D R) (zD : Szc D 10) {f g : Fm} (hf : GQ D f) (hg : GQ D g) {ω : Wd} (h0 : StOk ω) : ∃ ω', d_L_holds [.int D, f.enc, g.enc] ω = .ok (.bool true) ω' ∧ StOk ω' := by
  have z20 : Szc D 20 := szcMono zD (by omega)
  have fo := hf.g.ok hD
  have go := hg.g.ok hD
  obtain ⟨B, b1, b2, b3, b4⟩ := product_ok hD zD hf.gt hg.gt
  have fp := Int.mul_pos hf.g.k hf.g.a
  have gp := Int.mul_pos hg.g.k hg.g.a
  have fb := hf.b
  have gb := hg.b
  have fgb : f.a * f.b * (g.a * g.b) ≤ 120 * 120 := Int.mul_le_mul fb gb (by omega) (by omega)
  have tB : GT D B := GT.of_dvd b2 b4 (Int.mul_pos fp gp) (by omega)
  obtain ⟨S, s1, tS, s3⟩ := sum_ok hD zD hf.gt hg.gt
  obtain ⟨Y, y1, y2, y3, y4⟩ := common_ok hD zD hf.gn hg.gn s1 tS s3
  have fn0 : 0 < f.a * f.a * f.b := Id3.nm_pos fo
  have gn0 : 0 < g.a * g.a * g.b := Id3.nm_pos go
  have Sn0 : 0 < S.a * S.a * S.b := Id3.nm_pos (tS.g.ok hD)
  have Yn0 : 0 < Y.a * Y.a * Y.b := Id3.nm_pos (y2.ok hD)
  have fn := hf.gn.n
  have gn := hg.gn.n
  have fgn : f.a * f.a * f.b * (g.a * g.a * g.b) ≤ 1024 * 1024 := Int.mul_le_mul (by omega) (by omega) (by omega) (by omega)
  have Yn1 : Y.a * Y.a * Y.b ≤ 1024 * 1024 := by
    have := Int.mul_le_mul_of_nonneg_left (show 1 ≤ S.a * S.a * S.b by omega) (Int.le_of_lt Yn0)
    omega
  have Sn1 : S.a * S.a * S.b ≤ 1024 * 1024 := by
    have := Int.mul_le_mul_of_nonneg_right (show 1 ≤ Y.a * Y.a * Y.b by omega) (Int.le_of_lt Sn0)
    omega
  have tY : GB D 30 Y := GB.of_dvd y2 (⟨Y.a, by grind⟩ : Y.a * Y.b ∣ Y.a * Y.a * Y.b) Yn0 (by omega)
  have H : HO D R f g B S Y := ⟨hf.gt, hg.gt, tB, tS, tY, b3, s3, y3⟩
  obtain ⟨tC, hC⟩ := conj_good hD hf.gt
  have cj := conj_ok hD hf.gt.g30
  have i1 := L_is_good z20 tB.g30
  have i2 := L_is_good z20 tS.g30
  have i3 := L_is_good z20 tY
  have i4 := L_is_good z20 tC.g30
  have n1 := norm_ok (n := 0) tY
  have n2 := norm_ok (n := 0) tS.g30
  have n3 := norm_ok (n := 0) hf.gt.g30
  have n4 := norm_ok (n := 0) hg.gt.g30
  have n5 := norm_ok (n := 0) tB.g30
  have w1 := within_ok hD z20 tB.g30 hf.gt.g30
  rw [decide_eq_true (show Sub (tI R B) (tI R f) from fun p q hp => PZ.within fo ((b3 p q).1 hp))] at w1
  have w2 := within_ok hD z20 hf.gt.g30 tS.g30
  rw [decide_eq_true (show Sub (tI R f) (tI R S) from fun p q hp => (s3 p q).2 (SumP.l hp))] at w2
  have w3 := within_ok hD z20 hf.gt.g30 hg.gt.g30
  have e3 : decide (Sub (tI R f) (tI R g)) = decide (Y = f) := decide_eq_decide.2 ⟨fun s => y2.uniq hD hf.g (fun p q hp => ((y3 p q).1 hp).1) (fun p q hp => (y3 p q).2 ⟨hp, s p q hp⟩), fun e p q hp => ((y3 p q).1 (by rw [e]; exact hp)).2⟩
  rw [e3] at w3
  have pc := prod_comm hD zD hf.gt hg.gt b1 b2 b3
  have po := (prod_one hD zD hf.gt).1
  have wh := whole_ok hD
  obtain ⟨X, x1, x2, x3, _⟩ := product_ok hD zD hf.gt tC
  have x4 : ∀ p q, (tI R X).has p q ↔ PZ R (tI R f) ((tI R f).cj R) p q := fun p q => (x3 p q).trans (PZ.congr (fun _ _ => Iff.rfl) hC p q)
  obtain ⟨c, gg, v1, g0, G⟩ := inv_ok hD z20 hf.gt.g30
  have sq := square_iff hD zD hf.gt G g0 x2 x4
  have nb := number_ok hD fn0 (⟨by omega⟩ : Szc (f.a * f.a * f.b) 100)
  have eqX : decide (X = ⟨f.a * f.a * f.b, 1, R.s⟩) = decide (gg = 1) := decide_eq_decide.2 sq
  obtain ⟨P2, p1, _, _, _⟩ := product_ok hD zD hf.gt hf.gt
  obtain ⟨pw2, pw0⟩ := power_ok hD zD hf.gt p1
  have zf : Szc (f.a * f.a * f.b) 30 := ⟨by omega⟩
  have zg : Szc (g.a * g.a * g.b) 30 := ⟨by omega⟩
  have zS : Szc (S.a * S.a * S.b) 30 := ⟨by omega⟩
  have zY : Szc (Y.a * Y.a * Y.b) 30 := ⟨by omega⟩
  have r6 : iRange [.int 6] = some (rangeL 0 1 6) := range1 (by omega)
  have l4 : (4 : Nat) ≤ sizeLine := by decide
  have yS : ∀ j7 : Option PyData, ∃ w', SStep (hoP D f g B S Y []) (sFor.go (gN 8) hoB (rangeL 0 1 6) [none, some (.int D), some f.enc, some g.enc, some B.enc, some S.enc, some Y.enc, j7, none, none, none, none, none, none] ω) ∧ w' = ω := fun j7 =>
    ⟨ω, for_S (hoP D f g B S Y) (fun d ds ρ w hp => ho_step hD zD H hp) _ _ _ ⟨h0, j7, none, none, none, none, rfl⟩, rfl⟩
  obtain ⟨_, ⟨_, w', e6, s6, j7, j8, j9, j10, j11, rfl⟩, _⟩ := yS (some (redF R ((tI R f).cj R)).enc)
  refine ⟨w', ?_, s6⟩
  unfold d_L_holds
  simp [b1, s1, y1, cj, go_cons, i1, i2, i3, i4, n1, n2, n3, n4, y4, r6]
  rw [e6]
  simp [w1, w2, w3, pc, po, wh, cj, x1, n3, nb, eqX, v1]
  by_cases q : gg = 1
  · subst q
    have nm := nm_inv fo go (b2.ok hD) b3 G
    have nm : B.a * B.a * B.b = f.a * f.a * f.b * (g.a * g.a * g.b) := nm
    have qt := quotient_ok hD zD hf.gn hg.gt tB b3 G
    simp [L_truth_t, n5, n3, n4, nm, qt, pw2, pw0, p1, wh]
  · simp [q, L_truth_t, pw2, pw0, p1, wh]
end M

set_option Elab.async false
set_option linter.all false
set_option maxRecDepth 100000
set_option maxHeartbeats 4000000
namespace M
open PySem PySem.Spec PyProof.Rows L2
theorem nrm_xy {D : Int} {R : Rg} (hD : Dc D R) (u : El) : R.x u * R.x u - D * u.2 * u.2 = R.nrm u * 4 := by
  have ss := hD.ss
  have e := hD.e
  have f1 : R.x u * R.x u = 4 * (u.1 * u.1) + 4 * (R.s * u.1 * u.2) + R.s * R.s * (u.2 * u.2) := by simp only [Rg.x]; grind
  have f2 : D * u.2 * u.2 = 4 * (R.t * u.2 * u.2) + R.s * (u.2 * u.2) := by rw [e]; grind
  rw [f1, f2, ss]
  unfold Rg.nrm
  omega
theorem quart (a : Int) : vFdiv (.int (a * 4)) (.int 4) = some (.int a) := by
  rw [divSm (by omega) (by omega), Int.mul_ediv_cancel _ (by omega)]
theorem norm_of_ok {D : Int} {R : Rg} (hD : Dc D R) (zD : Szc D 20) {u : El} (z : SzE R 70 u) : d_norm_of [.int D, encE R u] = .ok (.int (R.nrm u)) [] ∧ d_L_norm [.int D, encE R u] = .ok (.int (R.nrm u)) [] := by
  have := z.x; have := z.y
  have e := nrm_xy hD u
  have q := quart (R.nrm u)
  constructor
  · unfold d_norm_of encE
    simp [e, q]
  · unfold d_L_norm encE
    simp [e, q]
theorem nrm_mem (R : Rg) (x : El) : OS R [x] (R.nrm x) 0 := by
  refine (OS.one _ _).2 ⟨(x.1 + R.s * x.2, -x.2), ?_⟩
  simp only [Rg.mul, Rg.nrm, Prod.mk.injEq]
  constructor <;> grind
theorem nrm_small {D : Int} {R : Rg} (hD : Dc D R) (zD : Szc D 10) {u : El} (h : SzE R 5 u) (hy : u.2.natAbs ≤ 6) (hx : (R.x u).natAbs ≤ 20) (hd : D.natAbs ≤ 500) : (R.nrm u).natAbs < 2 ^ 14 := by
  have e := nrm_xy hD u
  have a1 : (R.x u * R.x u).natAbs ≤ 20 * 20 := by rw [Int.natAbs_mul]; exact Nat.mul_le_mul hx hx
  have a2 : (D * u.2 * u.2).natAbs ≤ 500 * 6 * 6 := by rw [Int.natAbs_mul, Int.natAbs_mul]; exact Nat.mul_le_mul (Nat.mul_le_mul hd hy) hy
  omega
theorem principal_ok {D : Int} {R : Rg} (hD : Dc D R) (zD : Szc D 10) {u : El} (h : SzE R 5 u) (hs : (R.nrm u).natAbs < 2 ^ 14) (hn : R.nrm u ≠ 0) : ∃ X : Fm, d_principal_ideal [.int D, encE R u] = .ok X.enc [] ∧ GT D X ∧ (∀ p q, (tI R X).has p q ↔ OS R [u] p q) ∧ X.a * X.a * X.b = (R.nrm u).natAbs := by
  have z20 : Szc D 20 := szcMono zD (by omega)
  obtain ⟨X, h1, h2, h3, h4⟩ := ofm_ok hD z20 (ms := [u]) (n := R.nrm u) (fun m hm => by rw [List.mem_singleton.1 hm]; exact ⟨szcMono h.x (by omega), szcMono h.y (by omega)⟩) (by simp) hn ⟨by omega⟩ (nrm_mem R u)
  have nm := nm_principal (h2.ok hD) h3
  have tX : GT D X := GT.of_dvd h2 (Int.dvd_natAbs.2 h4) (by omega) (by omega)
  obtain ⟨n1, _⟩ := norm_of_ok hD z20 (u := u) ⟨szcMono h.x (by omega), szcMono h.y (by omega)⟩
  refine ⟨X, ?_, tX, h3, nm⟩
  unfold d_principal_ideal
  simp [n1, hn] at h1 ⊢
  simp [h1]
theorem with_three {D : Int} {R : Rg} (hD : Dc D R) (zD : Szc D 10) {u : El} (h : SzE R 5 u) {X : Fm} (tX : GT D X) (hX : ∀ p q, (tI R X).has p q ↔ OS R [u] p q) : ∃ T : Fm, d_ideal_of_members [.int D, .list [encE R u, .tuple [.int 6, .int 0]]] = .ok T.enc [] ∧ d_ideal_sum [.int D, X.enc, (Fm.mk 3 1 R.s).enc] = .ok T.enc [] := by
  have z20 : Szc D 20 := szcMono zD (by omega)
  have e6 : PyData.tuple [.int 6, .int 0] = encE R (3, 0) := by simp [encE, Rg.x]
  obtain ⟨T, h1, h2, h3, _⟩ := ofm_ok hD z20 (ms := [u, (3, 0)]) (n := 3) (fun m hm => by
    simp only [List.mem_cons, List.not_mem_nil, or_false] at hm
    rcases hm with rfl | rfl
    · exact ⟨szcMono h.x (by omega), szcMono h.y (by omega)⟩
    · exact ⟨by simp only [Rg.x]; exact ⟨by simp⟩, ⟨by decide⟩⟩) (by simp) (by omega) ⟨by decide⟩ (OS.mem (m := (3, 0)) (by simp))
  obtain ⟨n1, n2⟩ := num_good hD (n := 3) (by omega)
  have tN : GT D ⟨3, 1, R.s⟩ := ⟨n1, by simp⟩
  obtain ⟨S, s1, tS, s3⟩ := sum_ok hD zD tX tN
  have no := n1.ok hD
  have all : ∀ p q, SumP (tI R X) (tI R ⟨3, 1, R.s⟩) p q ↔ OS R [u, (3, 0)] p q := by
    intro p q
    constructor
    · rintro ⟨a, b, k1, k2⟩
      have t1 : OS R [u, (3, 0)] a b := (hX a b).1 k1 _ OS.lat OS.om fun m hm => by rw [List.mem_singleton.1 hm]; exact OS.mem (by simp)
      obtain ⟨⟨x, hx⟩, ⟨y, hy⟩⟩ := (Id3.num_has 3 _ _).1 ((n2 _ _).1 k2)
      have t2 := om_mul (OS.lat (R := R) (ms := [u, (3, 0)])) OS.om (OS.mem (m := (3, 0)) (by simp)) (x, y)
      have e1 : (R.mul (3, 0) (x, y)).1 = p - a := by rw [hx]; simp [Rg.mul]
      have e2 : (R.mul (3, 0) (x, y)).2 = q - b := by rw [hy]; simp [Rg.mul]
      rw [e1, e2] at t2
      have := OS.lat.add t1 t2
      have f1 : a + (p - a) = p := by omega
      have f2 : b + (q - b) = q := by omega
      rwa [f1, f2] at this
    · intro ho
      refine ho _ SumP.lat (SumP.om (tX.g.ok hD) no) fun m hm => ?_
      simp only [List.mem_cons, List.not_mem_nil, or_false] at hm
      rcases hm with rfl | rfl
      · exact SumP.l ((hX _ _).2 (OS.mem (by simp)))
      · exact SumP.r ((n2 _ _).2 ((Id3.num_has 3 _ _).2 ⟨⟨1, rfl⟩, ⟨0, rfl⟩⟩))
  have e : S = T := tS.g.uniq hD h2 (fun p q k => (h3 p q).2 ((all p q).1 ((s3 p q).1 k))) (fun p q k => (s3 p q).2 ((all p q).2 ((h3 p q).1 k)))
  subst e
  refine ⟨S, ?_, s1⟩
  rw [e6]
  exact h1
theorem remainder_ok {D x y : Int} {R : Rg} (hD : Dc D R) (zD : Szc D 20) {f : Fm} (hf : GB D 30 f) (zx : Szc x 30) (zy : Szc y 30) (he : (x - y * D) % 2 = 0) : ∃ rx ry : Int, d_remainder_of [.int D, f.enc, .tuple [.int x, .int y]] = .ok (.tuple [.int rx, .int ry]) [] ∧ 0 ≤ ry ∧ ry < f.a ∧ 0 ≤ rx ∧ rx < 2 * f.a * f.b ∧ hasXY D f (x - rx) (y - ry) := by
  have z1 := hf.sk; have z2 := hf.sa; have z3 := hf.sc
  have k0 := hf.g.k
  have a0 := hf.g.a
  have ka : 0 < 2 * f.a * f.b := Int.mul_pos (by omega) a0
  have q1 : vFdiv (.int y) (.int f.a) = some (.int (y / f.a)) := divSm k0 (by have := hf.k; omega)
  have zt : Szc (y / f.a) 30 := ⟨Nat.lt_of_le_of_lt (Int.natAbs_ediv_le_natAbs y f.a) zy.h⟩
  have md : vMod (.int (x - y / f.a * f.a * f.c)) (.int (2 * f.a * f.b)) = some (.int ((x - y / f.a * f.a * f.c) % (2 * f.a * f.b))) := modP ka
  have ey : y - y / f.a * f.a = y % f.a := by have := Int.mul_ediv_add_emod y f.a; have := Int.mul_comm f.a (y / f.a); omega
  have m0 := Int.emod_nonneg y (show f.a ≠ 0 by omega)
  have m1 := Int.emod_lt_of_pos y k0
  have n0 := Int.emod_nonneg (x - y / f.a * f.a * f.c) (show 2 * f.a * f.b ≠ 0 by omega)
  have n1 := Int.emod_lt_of_pos (x - y / f.a * f.a * f.c) ka
  refine ⟨(x - y / f.a * f.a * f.c) % (2 * f.a * f.b), y - y / f.a * f.a, ?_, by omega, by omega, n0, n1, ?_⟩
  · unfold d_remainder_of
    simp [q1, md]
  · obtain ⟨t, ht⟩ : ∃ t, t = y / f.a := ⟨_, rfl⟩
    rw [← ht] at *
    obtain ⟨c, hc⟩ : ∃ c, (x - t * f.a * f.c) % (2 * f.a * f.b) = x - t * f.a * f.c - 2 * f.a * f.b * c := ⟨_, Int.emod_def _ _⟩
    have p := hf.g.par hD
    have e1 : y - (y - t * f.a) = t * f.a := by omega
    have e2 : x - (x - t * f.a * f.c - 2 * f.a * f.b * c) = t * f.a * f.c + 2 * f.a * f.b * c := by omega
    rw [hc, e1, e2]
    refine ⟨?_, ?_, ?_⟩
    · have : t * f.a * f.c + 2 * f.a * f.b * c - t * f.a * D = 2 * (t * f.a * ((f.c - R.s) / 2 - 2 * R.t) + f.a * f.b * c) := by
        rw [hD.e]
        generalize (f.c - R.s) / 2 = β at *
        rw [p]; grind
      rw [this]; omega
    · rw [Int.mul_comm]; exact Int.mul_emod_right _ _
    · have : t * f.a * f.c + 2 * f.a * f.b * c - t * f.a * f.c = 2 * f.a * f.b * c := by omega
      rw [this]; exact Int.mul_emod_right _ _
theorem conj_members_ok {D : Int} {R : Rg} (hD : Dc D R) {f : Fm} (hf : GB D 30 f) : d_conjugate_members [f.enc] = .ok (.tuple [.tuple [.int (2 * f.a * f.b), .int 0], .tuple [.int (f.a * f.c), .int (-f.a)]]) [] := by
  have m := members_ok hD hf
  rw [e1_enc, e2_enc hD hf.g] at m
  have := hf.sk
  unfold d_conjugate_members d_conjugate
  simp [m]
theorem share_ok {D : Int} {f g : Fm} (hf : GB D 30 f) (hg : GB D 30 g) : d_share_no_prime [f.enc, g.enc] = .ok (.bool (decide (Int.gcd (f.a * f.a * f.b) (g.a * g.a * g.b) = 1))) [] := by
  have n1 := norm_ok (n := 0) hf
  have n2 := norm_ok (n := 0) hg
  unfold d_share_no_prime
  simp [n1, n2, common_divisor_ok]
  omega
end M

set_option Elab.async false
set_option linter.all false
set_option maxRecDepth 100000
set_option maxHeartbeats 4000000
namespace M
open PySem PySem.Spec PyProof.Rows L2
theorem eqv_row (a b : List Int) : PyData.eqv (encR a) (encR b) = decide (a = b) := by
  unfold encR
  simp only [PyData.eqv]
  exact eqvAll_map eqv_int a b
theorem fl_row (r : List Int) : Fl2 1 (encR r) := fl_tuple (fl_map fun i => fl_int 0 i)
theorem vNe_rows (xs ys : List (List Int)) : vNe (.list (xs.map encR)) (.list (ys.map encR)) = some (!decide (xs = ys)) := by
  rw [vNe_of (fl_list (fl_map fl_row)) (fl_list (fl_map fl_row)) (by omega)]
  exact congrArg (fun z => some (!z)) (eqvAll_map eqv_row xs ys)
end M

set_option Elab.async false
set_option linter.all false
set_option maxRecDepth 100000
set_option maxHeartbeats 4000000
namespace M
open PySem PySem.Spec PyProof.Rows L2
def accR (D n k : Int) : List (List Int) := if n % (k * k) = 0 then (bL D (n / (k * k))).map (fun b => [k, n / (k * k), b]) else []
def accL (D n : Int) (c : Nat) : List (List Int) := (rngI 1 c).flatMap (accR D n)
theorem rngI_snoc : ∀ (n : Nat) (lo : Int), rngI lo (n + 1) = rngI lo n ++ [lo + n]
  | 0, lo => by simp [rngI]
  | n + 1, lo => by
    rw [rngI, rngI_snoc n (lo + 1), rngI, List.cons_append]
    congr 3
    omega
theorem accL_succ (D n : Int) (c : Nat) : accL D n (c + 1) = accL D n c ++ accR D n (1 + c) := by
  unfold accL
  rw [rngI_snoc, List.flatMap_append]
  simp
theorem bL_len {D a : Int} : (bL D a).length ≤ (2 * a).toNat := by
  have := List.length_filter_le (fun b => decide ((b * b - D) % (4 * a) = 0)) (rngI 0 (2 * a).toNat)
  rwa [rngI_len] at this
theorem accR_len {D n k : Int} (hn : 1 ≤ n ∧ n ≤ 40) (hk : 1 ≤ k) : (accR D n k).length ≤ 80 := by
  unfold accR
  split
  · rw [List.length_map]
    have h1 := bL_len (D := D) (a := n / (k * k))
    have h2 := Int.ediv_le_self (k * k) (show 0 ≤ n by omega)
    omega
  · simp
theorem accL_len {D n : Int} (hn : 1 ≤ n ∧ n ≤ 40) : ∀ c : Nat, (accL D n c).length ≤ 80 * c
  | 0 => by simp [accL, rngI]
  | c + 1 => by
    rw [accL_succ, List.length_append]
    have := accL_len (D := D) hn c
    have := accR_len (D := D) hn (show 1 ≤ 1 + (c : Int) by omega)
    omega
theorem accL_more {D n : Int} (hn : 1 ≤ n) {c : Nat} (hc : n < (1 + (c : Int)) * (1 + c)) : ∀ j : Nat, accL D n (c + j) = accL D n c
  | 0 => rfl
  | j + 1 => by
    rw [← Nat.add_assoc, accL_succ, accL_more hn hc j]
    have h : n < (1 + ((c + j : Nat) : Int)) * (1 + (c + j : Nat)) := by
      have := Int.mul_le_mul (show 1 + (c : Int) ≤ 1 + (c + j : Nat) by omega) (show 1 + (c : Int) ≤ 1 + (c + j : Nat) by omega) (by omega) (by omega)
      omega
    have : accR D n (1 + (c + j : Nat)) = [] := by
      unfold accR
      rw [if_neg]
      rw [Int.emod_eq_of_lt (by omega) h]
      omega
    rw [this, List.append_nil]
theorem accR_ne {D n k : Int} {r : List Int} (h : r ∈ accR D n k) : r ≠ [] := by
  unfold accR at h
  split at h
  · obtain ⟨b, _, rfl⟩ := List.mem_map.1 h
    simp
  · exact nomatch h
theorem accL_ne {D n : Int} {c : Nat} {r : List Int} (h : r ∈ accL D n c) : r ≠ [] := by
  obtain ⟨k, _, hk⟩ := List.mem_flatMap.1 h
  exact accR_ne hk
theorem middles {D a : Int} (ha : 0 < a) : sortU ((rootL D (4 * a)).map fun r => r % (2 * a)) = bL D a := by
  refine asc_ext (sortU_lt _) ((rngI_asc _ _).filter _) fun z => ?_
  rw [mem_sortU, List.mem_map]
  show _ ↔ z ∈ bL D a
  rw [mem_bL ha]
  constructor
  · rintro ⟨r, hr, rfl⟩
    obtain ⟨r0, r1, c, hc⟩ := (mem_rootL (by omega)).1 hr
    obtain ⟨t, ht⟩ : ∃ t, r % (2 * a) = r - 2 * a * t := ⟨_, Int.emod_def _ _⟩
    refine ⟨Int.emod_nonneg _ (by omega), Int.emod_lt_of_pos _ (by omega), Int.emod_eq_zero_of_dvd ⟨c - r * t + a * t * t, ?_⟩⟩
    rw [ht]
    have : (r - 2 * a * t) * (r - 2 * a * t) - D = (r * r - D) - 4 * a * (r * t - a * t * t) := by grind
    rw [this, hc]; grind
  · rintro ⟨h0, h1, h2⟩
    exact ⟨z, (mem_rootL (by omega)).2 ⟨h0, by omega, Int.dvd_of_emod_eq_zero h2⟩, Int.emod_eq_of_lt h0 h1⟩
def inP (D n : Int) (m : Nat) (ρ : Ev) : Prop := ∃ (c : Nat) (j4 j5 : Option PyData), ρ = [some (.int D), some (.int n), some (.list ((accL D n c).map encR)), some (.int (1 + c)), j4, j5, none, none] ∧ c ≤ 40 ∧ m = 41 - c
theorem ideals_ok {D n : Int} (zD : Szc D 20) (hn : 1 ≤ n ∧ n ≤ 40) : d_ideals_of_norm [.int D, .int n] = .ok (.list ((sortR (accL D n n.toNat)).map encR)) [] := by
  have zn := sz20 (x := n) (by omega)
  have lp : WEnd (fun ρ => ∃ (j3 j4 j5 : Option PyData), ρ = [some (.int D), some (.int n), some (.list ((accL D n n.toNat).map encR)), j3, j4, j5, none, none]) [] (sWhile (bBin cLe (eBin vMul (eVar 3) (eVar 3)) (eVar 1)) (sSeq (sIf (bBin vEq (eBin vMod (eVar 1) (eBin vMul (eVar 3) (eVar 3))) (eC (.int 0))) (sSeq (sAsg (eBin vFdiv (eVar 1) (eBin vMul (eVar 3) (eVar 3))) (gN 4))
 (sSeq (sAsg (eArgs fSortSet (aCons (eOfF (lcD (iSeq (eCall d_roots_modulo (aCons (eVar 0) (aCons (eBin vMul (eC (.int 4)) (eVar 4)) aNil)))) (gN 6) bYes (eBin vMod (eVar 6) (eBin vMul (eC (.int 2)) (eVar 4))) [6])) aNil)) (gN 5))
 (sExt 2 (eOfF (lcD (iSeq (eVar 5)) (gN 7) bYes (eTup (aCons (eVar 3) (aCons (eVar 4) (aCons (eVar 7) aNil)))) [7]))))) sNext)
 (sAug 3 vAddI (eC (.int 1)))) [some (.int D), some (.int n), some (.list []), some (.int 1), none, none, none, none] []) := by
    refine while_P (inP D n) _ ?_ _ _ ⟨0, none, none, rfl, by omega, rfl⟩
    rintro m ρ ⟨c, j4, j5, rfl, c40, rfl⟩
    obtain ⟨k, hk⟩ : ∃ k : Int, k = 1 + c := ⟨_, rfl⟩
    have zk := sz20 (x := k) (by omega)
    have kk := Int.mul_pos (show 0 < k by omega) (show 0 < k by omega)
    have kkb : k * k ≤ 41 * 41 := Int.mul_le_mul (by omega) (by omega) (by omega) (by omega)
    have md : vMod (.int n) (.int (k * k)) = some (.int (n % (k * k))) := modP kk
    have dv : vFdiv (.int n) (.int (k * k)) = some (.int (n / (k * k))) := divSm kk (by omega)
    have al := accL_len (D := D) hn c
    have ar := accR_len (D := D) hn (show 1 ≤ k by omega)
    have as := accL_succ D n c
    rw [← hk] at as ⊢
    by_cases t : k * k ≤ n
    · have c39 : c ≤ 39 := by
        have := Int.mul_le_mul_of_nonneg_left (show 1 ≤ k by omega) (show 0 ≤ k by omega)
        omega
      refine .inr ⟨by simp [t], ?_⟩
      by_cases z : n % (k * k) = 0
      · obtain ⟨a, ha⟩ : ∃ a, a = n / (k * k) := ⟨_, rfl⟩
        have a0 : 0 < a := by rw [ha]; exact Int.ediv_pos_of_pos_of_dvd (by omega) (Int.le_of_lt kk) (Int.dvd_of_emod_eq_zero z)
        have a1 : a ≤ n := by rw [ha]; exact Int.ediv_le_self _ (by omega)
        have za := sz20 (x := a) (by omega)
        rw [← ha] at dv
        have er : accR D n k = (bL D a).map fun b => [k, a, b] := by unfold accR; rw [if_pos z, ← ha]
        have rm := roots_modulo_ok (N := D) (n := (4 * a).toNat) (szcMono zD (by omega)) (by omega) (by omega)
        rw [Int.toNat_of_nonneg (by omega)] at rm
        have rl := rootL_len D (4 * a)
        have l1 : ((rootL D (4 * a)).map PyData.int).length ≤ sizeLine := by rw [List.length_map]; show _ ≤ 16777216; omega
        have lc1 := lc_map (w := []) (g := gN 6) (d := eBin vMod (eVar 6) (eBin vMul (eC (.int 2)) (eVar 4))) (ρ0 := [some (.int D), some (.int n), some (.list ((accL D n c).map encR)), some (.int k), some (.int a), j5, none, none]) PyData.int (fun r => PyData.int (r % (2 * a))) (rootL D (4 * a)) (fun r _ => ⟨_, rfl, by simp [modP (show 0 < 2 * a by omega)]⟩)
        have ml := middles (D := D) a0
        obtain ⟨L, hL⟩ : ∃ L, (rootL D (4 * a)).map (fun r => r % (2 * a)) = L := ⟨_, rfl⟩
        have e1 : (rootL D (4 * a)).map (fun r => PyData.int (r % (2 * a))) = L.map PyData.int := by rw [← hL, List.map_map]; rfl
        have ll : L.length ≤ 200 := by rw [← hL, List.length_map]; omega
        rw [hL] at ml
        rw [e1] at lc1
        have ss : fSortSet [.list (L.map .int)] = some (.list ((bL D a).map .int)) := by
          simp only [fSortSet]
          rw [intsOf_map]
          simp only [Option.bind_some]
          rw [if_pos, ml]
          unfold setOk
          have : 1100 < scanBound := by decide +kernel
          omega
        have bl := bL_len (D := D) (a := a)
        have l2 : ((bL D a).map PyData.int).length ≤ sizeLine := by rw [List.length_map]; show _ ≤ 16777216; omega
        have lc2 := lc_map (w := []) (g := gN 7) (d := eTup (aCons (eVar 3) (aCons (eVar 4) (aCons (eVar 7) aNil)))) (ρ0 := [some (.int D), some (.int n), some (.list ((accL D n c).map encR)), some (.int k), some (.int a), some (.list ((bL D a).map .int)), none, none]) PyData.int (fun b => encR [k, a, b]) (bL D a) (fun r _ => ⟨_, rfl, by simp [encR]⟩)
        have l3 : (accL D n c).length + (bL D a).length < sizeLine := by show _ < 16777216; omega
        have l4 : (accL D n c).length + (bL D a).length ≤ sizeLine := by show _ ≤ 16777216; omega
        have e2 : (accL D n (c + 1)).map encR = (accL D n c).map encR ++ (bL D a).map fun b => encR [k, a, b] := by
          rw [as, er, List.map_append, List.map_map]; rfl
        simp [md, z, dv, rm, kLc_ok l1]
        rw [lc1]
        simp [ss, kLc_ok l2]
        rw [lc2]
        simp [l3, l4]
        exact .next (m := 41 - (c + 1)) (by omega) ⟨c + 1, some (.int a), some (.list ((bL D a).map .int)), by rw [e2]; simp; omega, by omega, rfl⟩
      · have er : accR D n k = [] := by unfold accR; rw [if_neg z]
        rw [er, List.append_nil] at as
        simp [md, z]
        exact .next (m := 41 - (c + 1)) (by omega) ⟨c + 1, j4, j5, by rw [as]; simp; omega, by omega, rfl⟩
    · refine .inl ⟨by simp [t], ?_⟩
      have e : accL D n c = accL D n n.toNat := by
        rcases (show c ≤ n.toNat ∨ n.toNat < c by omega) with h | h
        · have := accL_more (D := D) (c := c) hn.1 (by rw [← hk]; omega) (n.toNat - c)
          rw [show c + (n.toNat - c) = n.toNat by omega] at this
          exact this.symm
        · have hlt : n < (1 + (n.toNat : Int)) * (1 + n.toNat) := by
            rw [Int.toNat_of_nonneg (by omega)]
            have := Int.mul_le_mul_of_nonneg_left (show 1 ≤ 1 + n by omega) (show 0 ≤ 1 + n by omega)
            omega
          have := accL_more (D := D) (c := n.toNat) hn.1 hlt (c - n.toNat)
          rw [show n.toNat + (c - n.toNat) = c by omega] at this
          exact this
      exact ⟨_, j4, j5, by rw [e]⟩
  obtain ⟨_, hw, j3, j4, j5, rfl⟩ := lp
  have big : ¬ (100000 : Int) < n := by omega
  have al := accL_len (D := D) hn n.toNat
  have so := fSortD_rows (rs := accL D n n.toNat) (fun r hr => accL_ne hr) (by show _ ≤ 16777216; omega)
  unfold d_ideals_of_norm
  simp [big, hw, so]
end M

set_option Elab.async false
set_option linter.all false
set_option maxRecDepth 100000
set_option maxHeartbeats 4000000
namespace M
open PySem PySem.Spec PyProof.Rows L2
noncomputable def lw1 : Ev → MM Fl := (sAsg (eCallS d_L_disc aNil) (gN 2))
noncomputable def lw2 : Ev → MM Fl := (sAsg (eCallS d_L_ideal (aCons (eVar 2) (aCons (eC (.int 40)) aNil))) (gN 3))
noncomputable def lw3 : Ev → MM Fl := (sAsg (eCallS d_L_ideal (aCons (eVar 2) (aCons (eC (.int 30)) aNil))) (gN 4))
noncomputable def lw4 : Ev → MM Fl := (sIf (bNot (bTru (eCallS d_L_holds (aCons (eVar 2) (aCons (eVar 3) (aCons (eVar 4) aNil)))))) (sRet (eC (.bool false))) sNext)
noncomputable def lw5 : Ev → MM Fl := (sAsg (eCall d_members_of (aCons (eVar 3) aNil)) (gT (gsCons (gN 5) (gsCons (gN 6) gsNil))))
noncomputable def lw6 : Ev → MM Fl := (sIf (bOr (bBin vNe (eVar 5) (eTup (aCons (eBin vMul (eBin vMul (eC (.int 2)) (eBin vIx (eVar 3) (eC (.int 0)))) (eBin vIx (eVar 3) (eC (.int 1)))) (aCons (eC (.int 0)) aNil)))) (bOr (bBin vNe (eVar 6) (eTup (aCons (eBin vMul (eBin vIx (eVar 3) (eC (.int 0))) (eBin vIx (eVar 3) (eC (.int 2)))) (aCons (eBin vIx (eVar 3) (eC (.int 0))) aNil)))) (bBin vNe (eCall d_ideal_of_members (aCons (eVar 2) (aCons (eLst (aCons (eVar 5) (aCons (eVar 6) aNil))) aNil))) (eVar 3)))) (sRet (eC (.bool false))) sNext)
noncomputable def lw7 : Ev → MM Fl := (sIf (bBin vNe (eCall d_conjugate_members (aCons (eVar 3) aNil)) (eTup (aCons (eTup (aCons (eBin vIx (eVar 5) (eC (.int 0))) (aCons (eC (.int 0)) aNil))) (aCons (eTup (aCons (eBin vIx (eVar 6) (eC (.int 0))) (aCons (eBin vSub (eC (.int 0)) (eBin vIx (eVar 6) (eC (.int 1)))) aNil))) aNil)))) (sRet (eC (.bool false))) sNext)
noncomputable def lw8 : Ev → MM Fl := (sAsg (eCallS d_L_member (aCons (eVar 2) (aCons (eTup (aCons (eC (.int 1)) (aCons (eC (.int 1)) (aCons (eBin vMod (eArgs fInt (aCons (eVar 2) aNil)) (eC (.int 2))) aNil)))) aNil))) (gN 7))
noncomputable def lw9 : Ev → MM Fl := (sIf (bAnd (bBin vNe (eVar 7) (eTup (aCons (eC (.int 0)) (aCons (eC (.int 0)) aNil)))) (bBin vNe (eCall d_L_norm (aCons (eVar 2) (aCons (eVar 7) aNil))) (eC (.int 0)))) (sSeq (sAsg (eCall d_principal_ideal (aCons (eVar 2) (aCons (eVar 7) aNil))) (gN 8)) (sSeq (sIf (bOr (bBin vNe (eCall d_ideal_norm (aCons (eVar 8) aNil)) (eArgs fAbs (aCons (eCall d_L_norm (aCons (eVar 2) (aCons (eVar 7) aNil))) aNil))) (bNot (bTru (eCall d_L_ideal_has (aCons (eVar 2) (aCons (eVar 8) (aCons (eCall d_L_times (aCons (eVar 2) (aCons (eVar 7) (aCons (eTup (aCons (eBin vMod (eArgs fInt (aCons (eVar 2) aNil)) (eC (.int 2))) (aCons (eC (.int 1)) aNil))) aNil)))) aNil))))))) (sRet (eC (.bool false))) sNext) (sIf (bBin vNe (eCall d_ideal_of_members (aCons (eVar 2) (aCons (eLst (aCons (eVar 7) (aCons (eTup (aCons (eC (.int 6)) (aCons (eC (.int 0)) aNil))) aNil))) aNil))) (eCall d_ideal_sum (aCons (eVar 2) (aCons (eVar 8) (aCons (eCall d_ideal_of_number (aCons (eVar 2) (aCons (eC (.int 3)) aNil))) aNil))))) (sRet (eC (.bool false))) sNext))) sNext)
noncomputable def lw10 : Ev → MM Fl := (sFor (iArgs iRange (aCons (eC (.int 5)) aNil)) (gN 9) (sSeq (sAsg (eTup (aCons (eBin vSub (eCallS d_L_draw (aCons (eC (.int 60)) aNil)) (eC (.int 30))) (aCons (eBin vSub (eCallS d_L_draw (aCons (eC (.int 20)) aNil)) (eC (.int 10))) aNil))) (gN 10)) (sSeq (sIf (bNot (bTru (eCall d_L_truth (aCons (eCall d_has_member (aCons (eVar 2) (aCons (eVar 3) (aCons (eVar 10) aNil)))) (aCons (eCall d_L_ideal_has (aCons (eVar 2) (aCons (eVar 3) (aCons (eVar 10) aNil)))) aNil))))) (sRet (eC (.bool false))) sNext) (sIf (bBin vEq (eBin vMod (eArgs fInt (aCons (eBin vSub (eBin vIx (eVar 10) (eC (.int 0))) (eBin vMul (eBin vIx (eVar 10) (eC (.int 1))) (eVar 2))) aNil)) (eC (.int 2))) (eC (.int 0))) (sSeq (sAsg (eCall d_remainder_of (aCons (eVar 2) (aCons (eVar 3) (aCons (eVar 10) aNil)))) (gN 11)) (sSeq (sIf (bNot (bTru (eCall d_L_ideal_has (aCons (eVar 2) (aCons (eVar 3) (aCons (eTup (aCons (eBin vSub (eBin vIx (eVar 10) (eC (.int 0))) (eBin vIx (eVar 11) (eC (.int 0)))) (aCons (eBin vSub (eBin vIx (eVar 10) (eC (.int 1))) (eBin vIx (eVar 11) (eC (.int 1)))) aNil))) aNil)))))) (sRet (eC (.bool false))) sNext) (sIf (bOr (bBin cLt (eBin vIx (eVar 11) (eC (.int 1))) (eC (.int 0))) (bOr (bBin cGe (eBin vIx (eVar 11) (eC (.int 1))) (eBin vIx (eVar 3) (eC (.int 0)))) (bOr (bBin cLt (eBin vIx (eVar 11) (eC (.int 0))) (eC (.int 0))) (bBin cGe (eBin vIx (eVar 11) (eC (.int 0))) (eBin vMul (eBin vMul (eC (.int 2)) (eBin vIx (eVar 3) (eC (.int 0)))) (eBin vIx (eVar 3) (eC (.int 1)))))))) (sRet (eC (.bool false))) sNext))) sNext))))
noncomputable def lw11 : Ev → MM Fl := (sAsg (eBin vAdd (eC (.int 1)) (eCallS d_L_draw (aCons (eC (.int 40)) aNil))) (gN 12))
noncomputable def lw12 : Ev → MM Fl := (sAsg (eLst aNil) (gN 13))
noncomputable def lw13 : Ev → MM Fl := (sFor (iArgs iRange (aCons (eC (.int 1)) (aCons (eBin vAdd (eVar 12) (eC (.int 1))) aNil))) (gN 9) (sIf (bBin vEq (eBin vMod (eArgs fInt (aCons (eVar 12) aNil)) (eBin vMul (eVar 9) (eVar 9))) (eC (.int 0))) (sSeq (sAsg (eBin vFdiv (eVar 12) (eBin vMul (eVar 9) (eVar 9))) (gN 14)) (sAsg (eBin vAdd (eVar 13) (eOfF (lcD (iArgs iRange (aCons (eBin vMul (eC (.int 2)) (eVar 14)) aNil)) (gN 15) (bBin vEq (eBin vMod (eArgs fInt (aCons (eBin vSub (eBin vMul (eVar 15) (eVar 15)) (eVar 2)) aNil)) (eBin vMul (eC (.int 4)) (eVar 14))) (eC (.int 0))) (eTup (aCons (eVar 9) (aCons (eVar 14) (aCons (eVar 15) aNil)))) [15]))) (gN 13))) sNext))
noncomputable def lw14 : Ev → MM Fl := (sIf (bOr (bBin vNe (eCall d_ideals_of_norm (aCons (eVar 2) (aCons (eVar 12) aNil))) (eArgs fSortD (aCons (eVar 13) aNil))) (bNot (bTru (eCall d_L_truth (aCons (eCall d_share_no_prime (aCons (eVar 3) (aCons (eVar 4) aNil))) (aCons (eOfB (bBin vEq (eCall d_L_common (aCons (eCall d_ideal_norm (aCons (eVar 3) aNil)) (aCons (eCall d_ideal_norm (aCons (eVar 4) aNil)) aNil))) (eC (.int 1)))) aNil)))))) (sRet (eC (.bool false))) sNext)
noncomputable def lw15 : Ev → MM Fl := (sAsg (eLst (aCons (eC .none) (aCons (eBin vAdd (eVar 3) (eTup (aCons (eC (.int 1)) aNil))) (aCons (eTup (aCons (eBin vIx (eVar 3) (eC (.int 0))) (aCons (eBin vIx (eVar 3) (eC (.int 1))) (aCons (eBin vAdd (eBin vIx (eVar 3) (eC (.int 2))) (eBin vMul (eC (.int 2)) (eBin vIx (eVar 3) (eC (.int 1))))) aNil)))) (aCons (eTup (aCons (eC (.int 0)) (aCons (eC (.int 1)) (aCons (eC (.int 0)) aNil)))) (aCons (eTup (aCons (eBin vIx (eVar 3) (eC (.int 0))) (aCons (eBin vIx (eVar 3) (eC (.int 1))) (aCons (eBin vAdd (eBin vIx (eVar 3) (eC (.int 2))) (eC (.int 1))) aNil)))) (aCons (eArgs fList (aCons (eVar 3) aNil)) (aCons (eTup (aCons (eC (.bool true)) (aCons (eC (.int 1)) (aCons (eC (.int 1)) aNil)))) (aCons (eTup (aCons (eC (.int 1)) (aCons (eC (.int 0)) (aCons (eC (.int 0)) aNil)))) (aCons (eTup (aCons (eC (.int 1)) (aCons (eUn vNeg (eC (.int 1))) (aCons (eC (.int 1)) aNil)))) aNil)))))))))) (gN 16))
noncomputable def lw16 : Ev → MM Fl := (sAsg (eBin vIx (eVar 16) (eCallS d_L_draw (aCons (eArgs fLen (aCons (eVar 16) aNil)) aNil))) (gN 17))
noncomputable def lw17 : Ev → MM Fl := sRet (eCall d_L_truth (aCons (eCall d_is_ideal (aCons (eVar 2) (aCons (eVar 17) aNil))) (aCons (eCall d_L_is_ideal (aCons (eVar 2) (aCons (eVar 17) aNil))) aNil)))
theorem lw_eq : db_law = (sSeq lw1 (sSeq lw2 (sSeq lw3 (sSeq lw4 (sSeq lw5 (sSeq lw6 (sSeq lw7 (sSeq lw8 (sSeq lw9 (sSeq lw10 (sSeq lw11 (sSeq lw12 (sSeq lw13 (sSeq lw14 (sSeq lw15 (sSeq lw16 lw17)))))))))))))))) := rfl

def Rt (E : Res Fl) : Prop := ∃ w, E = .ok (.ret (.bool true)) w
theorem Rt.mk (w : Wd) : Rt (.ok (.ret (.bool true)) w) := ⟨w, rfl⟩
def tenP (D : Int) (f g : Fm) (j5 j6 j7 j8 : Option PyData) (ds : List PyData) (ρ : Ev) (w : Wd) : Prop := StOk w ∧ ∃ j9 j10 j11 : Option PyData, ρ = [none, none, some (.int D), some f.enc, some g.enc, j5, j6, j7, j8, j9, j10, j11, none, none, none, none, none, none]
theorem ten_step {D : Int} {R : Rg} (hD : Dc D R) (zD : Szc D 20) {f g : Fm} (hf : GB D 30 f) {j5 j6 j7 j8 : Option PyData} {d : PyData} {ds : List PyData} {ρ : Ev} {w : Wd} (h : tenP D f g j5 j6 j7 j8 (d :: ds) ρ w) : ∃ ρ1, gN 9 d ρ = some ρ1 ∧ SStep (tenP D f g j5 j6 j7 j8 ds) ((sSeq (sAsg (eTup (aCons (eBin vSub (eCallS d_L_draw (aCons (eC (.int 60)) aNil)) (eC (.int 30))) (aCons (eBin vSub (eCallS d_L_draw (aCons (eC (.int 20)) aNil)) (eC (.int 10))) aNil))) (gN 10)) (sSeq (sIf (bNot (bTru (eCall d_L_truth (aCons (eCall d_has_member (aCons (eVar 2) (aCons (eVar 3) (aCons (eVar 10) aNil)))) (aCons (eCall d_L_ideal_has (aCons (eVar 2) (aCons (eVar 3) (aCons (eVar 10) aNil)))) aNil))))) (sRet (eC (.bool false))) sNext) (sIf (bBin vEq (eBin vMod (eArgs fInt (aCons (eBin vSub (eBin vIx (eVar 10) (eC (.int 0))) (eBin vMul (eBin vIx (eVar 10) (eC (.int 1))) (eVar 2))) aNil)) (eC (.int 2))) (eC (.int 0))) (sSeq (sAsg (eCall d_remainder_of (aCons (eVar 2) (aCons (eVar 3) (aCons (eVar 10) aNil)))) (gN 11)) (sSeq (sIf (bNot (bTru (eCall d_L_ideal_has (aCons (eVar 2) (aCons (eVar 3) (aCons (eTup (aCons (eBin vSub (eBin vIx (eVar 10) (eC (.int 0))) (eBin vIx (eVar 11) (eC (.int 0)))) (aCons (eBin vSub (eBin vIx (eVar 10) (eC (.int 1))) (eBin vIx (eVar 11) (eC (.int 1)))) aNil))) aNil)))))) (sRet (eC (.bool false))) sNext) (sIf (bOr (bBin cLt (eBin vIx (eVar 11) (eC (.int 1))) (eC (.int 0))) (bOr (bBin cGe (eBin vIx (eVar 11) (eC (.int 1))) (eBin vIx (eVar 3) (eC (.int 0)))) (bOr (bBin cLt (eBin vIx (eVar 11) (eC (.int 0))) (eC (.int 0))) (bBin cGe (eBin vIx (eVar 11) (eC (.int 0))) (eBin vMul (eBin vMul (eC (.int 2)) (eBin vIx (eVar 3) (eC (.int 0)))) (eBin vIx (eVar 3) (eC (.int 1)))))))) (sRet (eC (.bool false))) sNext))) sNext))) ρ1 w) := by
  obtain ⟨s0, j9, j10, j11, rfl⟩ := h
  refine ⟨_, rfl, ?_⟩
  obtain ⟨r1, w1, h1, a1, b1, s1⟩ := L_draw_ok s0 (m := 60) (by omega) (by omega)
  obtain ⟨r2, w2, h2, a2, b2, s2⟩ := L_draw_ok s1 (m := 20) (by omega) (by omega)
  obtain ⟨x, hx⟩ : ∃ x, r1 - 30 = x := ⟨_, rfl⟩
  obtain ⟨y, hy⟩ : ∃ x, r2 - 10 = x := ⟨_, rfl⟩
  have zx := sz_of (x := x) (n := 30) (by omega) (by omega)
  have zy := sz_of (x := y) (n := 30) (by omega) (by omega)
  have m1 := has_member_ok zD hf (szcMono zx (show 30 ≤ 200 by omega)) (szcMono zy (show 30 ≤ 200 by omega))
  have m2 := L_has_ok zD hf (szcMono zx (show 30 ≤ 200 by omega)) (szcMono zy (show 30 ≤ 200 by omega))
  have z1 := hf.sk; have z2 := hf.sa
  have md : vMod (.int (x - y * D)) (.int 2) = some (.int ((x - y * D) % 2)) := modP (by omega)
  by_cases c : (x - y * D) % 2 = 0
  · obtain ⟨rx, ry, q1, q2, q3, q4, q5, q6⟩ := remainder_ok hD zD hf zx zy c
    have ka := hf.k; have kb := hf.a; have k0 := hf.g.k
    have bb := (szMul2 (szMul2 (show Szc 2 2 from ⟨by decide⟩) z1) z2).h
    have m3 := L_has_ok zD hf (x := x - rx) (y := y - ry) ⟨by have := zx.h; omega⟩ ⟨by have := zy.h; omega⟩
    rw [decide_eq_true q6] at m3
    have n1 : ¬ ry < 0 := by omega
    have n2 : ¬ f.a ≤ ry := by omega
    have n3 : ¬ rx < 0 := by omega
    have n4 : ¬ 2 * f.a * f.b ≤ rx := by omega
    simp [h1, h2, hx, hy, m1, m2, L_truth_t, md, c, q1, m3, n1, n2, n3, n4]
    exact ⟨_, _, rfl, s2, some d, some (.tuple [.int x, .int y]), some (.tuple [.int rx, .int ry]), rfl⟩
  · simp [h1, h2, hx, hy, m1, m2, L_truth_t, md, c]
    exact ⟨_, _, rfl, s2, some d, some (.tuple [.int x, .int y]), j11, rfl⟩
def duP (D n : Int) (f g : Fm) (j5 j6 j7 j8 j10 j11 : Option PyData) (ds : List PyData) (ρ : Ev) : Prop := ∃ (c r : Nat) (j9 j14 : Option PyData), ds = rangeL (1 + c) 1 r ∧ c + r = n.toNat ∧ ρ = [none, none, some (.int D), some f.enc, some g.enc, j5, j6, j7, j8, j9, j10, j11, some (.int n), some (.list ((accL D n c).map encR)), j14, none, none, none]
theorem du_step {D n : Int} (zD : Szc D 20) (hn : 1 ≤ n ∧ n ≤ 40) {f g : Fm} {j5 j6 j7 j8 j10 j11 : Option PyData} {d : PyData} {ds : List PyData} {ρ : Ev} {w : Wd} (h : duP D n f g j5 j6 j7 j8 j10 j11 (d :: ds) ρ) : ∃ ρ1, gN 9 d ρ = some ρ1 ∧ FStep (duP D n f g j5 j6 j7 j8 j10 j11 ds) (fun _ => False) w ((sIf (bBin vEq (eBin vMod (eArgs fInt (aCons (eVar 12) aNil)) (eBin vMul (eVar 9) (eVar 9))) (eC (.int 0))) (sSeq (sAsg (eBin vFdiv (eVar 12) (eBin vMul (eVar 9) (eVar 9))) (gN 14)) (sAsg (eBin vAdd (eVar 13) (eOfF (lcD (iArgs iRange (aCons (eBin vMul (eC (.int 2)) (eVar 14)) aNil)) (gN 15) (bBin vEq (eBin vMod (eArgs fInt (aCons (eBin vSub (eBin vMul (eVar 15) (eVar 15)) (eVar 2)) aNil)) (eBin vMul (eC (.int 4)) (eVar 14))) (eC (.int 0))) (eTup (aCons (eVar 9) (aCons (eVar 14) (aCons (eVar 15) aNil)))) [15]))) (gN 13))) sNext) ρ1 w) := by
  obtain ⟨c, r, j9, j14, ed, cr, rfl⟩ := h
  cases r with
  | zero => cases ed
  | succ r =>
    rw [rangeL] at ed
    cases ed
    refine ⟨_, rfl, ?_⟩
    obtain ⟨k, hk⟩ : ∃ k : Int, k = 1 + c := ⟨_, rfl⟩
    have zk := sz20 (x := k) (by omega)
    have zn := sz20 (x := n) (by omega)
    have kk := Int.mul_pos (show 0 < k by omega) (show 0 < k by omega)
    have kkb : k * k ≤ 41 * 41 := Int.mul_le_mul (by omega) (by omega) (by omega) (by omega)
    have md : vMod (.int n) (.int (k * k)) = some (.int (n % (k * k))) := modP kk
    have dv : vFdiv (.int n) (.int (k * k)) = some (.int (n / (k * k))) := divSm kk (by omega)
    have al := accL_len (D := D) hn c
    have as := accL_succ D n c
    have nx : (1 : Int) + ((c + 1 : Nat) : Int) = k + 1 := by omega
    rw [← hk] at as ⊢
    by_cases z : n % (k * k) = 0
    · obtain ⟨a, ha⟩ : ∃ a, a = n / (k * k) := ⟨_, rfl⟩
      have a0 : 0 < a := by rw [ha]; exact Int.ediv_pos_of_pos_of_dvd (by omega) (Int.le_of_lt kk) (Int.dvd_of_emod_eq_zero z)
      have a1 : a ≤ n := by rw [ha]; exact Int.ediv_le_self _ (by omega)
      have za := sz20 (x := a) (by omega)
      rw [← ha] at dv
      have er : accR D n k = (bL D a).map fun b => [k, a, b] := by unfold accR; rw [if_pos z, ← ha]
      obtain ⟨N, hN⟩ : ∃ N, (2 * a).toNat = N := ⟨_, rfl⟩
      have rg : iRange [.int (2 * a)] = some (rangeL 0 1 N) := by rw [← hN]; exact range1 (by omega)
      have ln : (rangeL 0 1 N).length ≤ sizeLine := by rw [rangeL_len]; show _ ≤ 16777216; omega
      have lc := bL_lc (i := 15) (D := D) (a := a) zD a0 (by omega) (ρ0 := [none, none, some (.int D), some f.enc, some g.enc, j5, j6, j7, j8, some (.int k), j10, j11, some (.int n), some (.list ((accL D n c).map encR)), some (.int a), none, none, none]) (w := w) (cond := bBin vEq (eBin vMod (eArgs fInt (aCons (eBin vSub (eBin vMul (eVar 15) (eVar 15)) (eVar 2)) aNil)) (eBin vMul (eC (.int 4)) (eVar 14))) (eC (.int 0))) (el := eTup (aCons (eVar 9) (aCons (eVar 14) (aCons (eVar 15) aNil)))) hN (fun x x0 x1 => by
        have := sz20 (x := x) (by omega)
        simp [cond_ok zD a0 (by omega) x0 x1]) (F := fun b => encR [k, a, b]) (fun x => by simp [encR])
      have bl := bL_len (D := D) (a := a)
      have e2 : (accL D n (c + 1)).map encR = (accL D n c).map encR ++ (bL D a).map fun b => encR [k, a, b] := by
        rw [as, er, List.map_append, List.map_map]; rfl
      have va : vAdd (.list ((accL D n c).map encR)) (.list ((bL D a).map fun b => encR [k, a, b])) = some (.list ((accL D n (c + 1)).map encR)) := by
        rw [e2]
        unfold vAdd
        exact if_pos (by simp only [List.length_map]; show _ ≤ 16777216; omega)
      simp [md, z, dv, rg, kLc_ok ln]
      rw [lc]
      simp [va]
      exact .next ⟨c + 1, r, some (.int k), some (.int a), by rw [nx], by omega, rfl⟩
    · have er : accR D n k = [] := by unfold accR; rw [if_neg z]
      rw [er, List.append_nil] at as
      simp [md, z]
      exact .next ⟨c + 1, r, some (.int k), j14, by rw [nx], by omega, by rw [as]⟩
theorem self_ok {D : Int} {R : Rg} (hD : Dc D R) (zD : Szc D 10) {f : Fm} (hf : GT D f) : d_ideal_of_members [.int D, .list [encE R (tI R f).e1, encE R (tI R f).e2]] = .ok f.enc [] := by
  obtain ⟨s1, s2⟩ := hf.gens hD
  have n0 := Int.mul_pos hf.g.k hf.g.a
  have nb := hf.b
  obtain ⟨T, h1, h2, h3, _⟩ := ofm_ok hD (szcMono zD (by omega)) (ms := [(tI R f).e1, (tI R f).e2]) (n := f.a * f.b) (fun m hm => by
    simp only [List.mem_cons, List.not_mem_nil, or_false] at hm
    rcases hm with rfl | rfl
    · exact s1.e (by omega)
    · exact s2.e (by omega)) (by simp) (by omega) ⟨by omega⟩ (OS.mem (m := (tI R f).e1) (by simp))
  have fo := hf.g.ok hD
  have : T = f := h2.uniq hD hf.g (fun p q k => (h3 p q).1 k _ (Id3.lat _) (Id3.om fo) fun m hm => by
    simp only [List.mem_cons, List.not_mem_nil, or_false] at hm
    rcases hm with rfl | rfl
    · exact Id3.has_e1 _
    · exact Id3.has_e2 _) (fun p q k => (h3 p q).2 (Id3.least OS.lat (OS.mem (m := (tI R f).e1) (by simp)) (OS.mem (m := (tI R f).e2) (by simp)) k))
  rw [this] at h1
  exact h1
theorem member_one {D : Int} {R : Rg} (hD : Dc D R) {ω : Wd} (h : StOk ω) : ∃ (u : El) (ω' : Wd), d_L_member [.int D, (Fm.mk 1 1 R.s).enc] ω = .ok (encE R u) ω' ∧ u.2.natAbs ≤ 6 ∧ (R.x u).natAbs ≤ 20 ∧ StOk ω' := by
  obtain ⟨r1, w1, h1, a1, b1, s1⟩ := L_draw_ok h (m := 13) (by omega) (by omega)
  obtain ⟨r2, w2, h2, a2, b2, s2⟩ := L_draw_ok s1 (m := 13) (by omega) (by omega)
  have e : R.s * (r2 - 6) = 0 ∨ R.s * (r2 - 6) = r2 - 6 := by rcases hD.s with z | z <;> rw [z] <;> simp
  have zs : Szc R.s 2 := by rcases hD.s with z | z <;> rw [z] <;> exact ⟨by decide⟩
  have zm : Szc (r1 - 6) 4 := sz_of (by omega) (by omega)
  have zn : Szc (r2 - 6) 4 := sz_of (by omega) (by omega)
  refine ⟨(r1 - 6, r2 - 6), w2, ?_, by simp only; omega, by simp only [Rg.x]; omega, s2⟩
  unfold d_L_member encE Rg.x
  simp [h1, h2]
def wrongs (f : Fm) : List PyData := [.none, .tuple [.int f.a, .int f.b, .int f.c, .int 1], (Fm.mk f.a f.b (f.c + 2 * f.b)).enc, (Fm.mk 0 1 0).enc, (Fm.mk f.a f.b (f.c + 1)).enc, .list [.int f.a, .int f.b, .int f.c], .tuple [.bool true, .int 1, .int 1], (Fm.mk 1 0 0).enc, (Fm.mk 1 (-1) 1).enc]
theorem wrong_ok {D : Int} {f : Fm} (zD : Szc D 20) (hf : GB D 30 f) {z : PyData} (hz : z ∈ wrongs f) : ∃ β : Bool, d_is_ideal [.int D, z] = .ok (.bool β) [] ∧ d_L_is_ideal [.int D, z] = .ok (.bool β) [] := by
  have z1 := hf.sk; have z2 := hf.sa; have z3 := hf.sc
  have both : ∀ g : Fm, FB 40 g → ∃ β : Bool, d_is_ideal [.int D, g.enc] = .ok (.bool β) [] ∧ d_L_is_ideal [.int D, g.enc] = .ok (.bool β) [] := fun g hg => ⟨_, is_ideal_ok zD hg, L_is_ideal_ok zD hg⟩
  have y1 : Szc f.a 40 := szcMono z1 (by omega)
  have y2 : Szc f.b 40 := szcMono z2 (by omega)
  have k2 := z2.h; have k3 := z3.h
  simp only [wrongs, List.mem_cons, List.not_mem_nil, or_false] at hz
  rcases hz with rfl | rfl | rfl | rfl | rfl | rfl | rfl | rfl | rfl
  · exact ⟨false, by unfold d_is_ideal d_is_row; simp [isiT], by unfold d_L_is_ideal; simp [isiT]⟩
  · exact ⟨false, by unfold d_is_ideal d_is_row; simp [isiT], by unfold d_L_is_ideal; simp [isiT]⟩
  · exact both _ ⟨y1, y2, ⟨by simp only; omega⟩⟩
  · exact both _ ⟨⟨by decide⟩, ⟨by decide⟩, ⟨by decide⟩⟩
  · exact both _ ⟨y1, y2, ⟨by simp only; omega⟩⟩
  · exact ⟨false, by unfold d_is_ideal d_is_row; simp [isiT], by unfold d_L_is_ideal; simp [isiT]⟩
  · exact ⟨false, by unfold d_is_ideal d_is_row d_is_integer; simp [isiT, lcGo_cons, lcGo_nil, fAll, boolsOf], by unfold d_L_is_ideal; simp [isiT, go_cons]⟩
  · exact both _ ⟨⟨by decide⟩, ⟨by decide⟩, ⟨by decide⟩⟩
  · exact both _ ⟨⟨by decide⟩, ⟨by decide⟩, ⟨by decide⟩⟩
theorem nest_ne (a b c d : Int) : vNe (.tuple [.tuple [.int a, .int b], .tuple [.int c, .int d]]) (.tuple [.tuple [.int a, .int b], .tuple [.int c, .int d]]) = some false := by
  have f1 : ∀ a b : Int, Fl2 1 (.tuple [.int a, .int b]) := fun a b => fl_tuple (fl_cons (fl_int 0 _) (fl_cons (fl_int 0 _) fl_nil))
  have f2 : Fl2 2 (.tuple [.tuple [.int a, .int b], .tuple [.int c, .int d]]) := fl_tuple (fl_cons (f1 a b) (fl_cons (f1 c d) fl_nil))
  rw [vNe_of f2 f2 (by omega)]
  simp [PyData.eqv, PyData.eqvAll]
theorem law_math (ns : List Int) (_ : ns.length ≤ 63) : ∃ ω', db_law [none, none, none, none, none, none, none, none, none, none, none, none, none, none, none, none, none, none] (ω0 ns) = .ok (.ret (.bool true)) ω' := by
  show Rt _
  obtain ⟨D, R, w1, h1, hD, d0, d1, s1⟩ := L_disc_ok (stOk0 ns)
  have zD : Szc D 10 := sz_of (by omega) (by omega)
  have z20 : Szc D 20 := szcMono zD (by omega)
  obtain ⟨f, w2, h2, f1, f2, f3, s2⟩ := L_ideal_ok hD z20 s1 (most := 40) (by omega) (by omega)
  obtain ⟨g, w3, h3, g1, g2, g3, s3⟩ := L_ideal_ok hD z20 s2 (most := 30) (by omega) (by omega)
  have qf : GQ D f := ⟨f1, f2, f3⟩
  have qg : GQ D g := ⟨g1, g2, g3⟩
  obtain ⟨w4, h4, s4⟩ := holds_ok hD zD qf qg s3
  rw [lw_eq]
  simp only [sSeq_ap]
  simp [lw1, h1]
  simp [lw2, h2]
  simp [lw3, h3]
  simp [lw4, h4]
  have mo := members_ok hD qf.gt.g30
  have so := self_ok hD zD qf.gt
  have e1 := e1_enc R f
  have e2 := e2_enc hD f1
  rw [e1, e2] at mo so
  have zk := qf.gt.gb.sk
  have za := qf.gt.gb.sa
  have zc := qf.gt.gb.sc
  simp [lw5, mo]
  simp [lw6, so]
  have cm := conj_members_ok hD qf.gt.g30
  simp [lw7, cm, nest_ne]
  obtain ⟨u, w5, h5, u1, u2, s5⟩ := member_one hD s4
  have md2 : vMod (.int D) (.int 2) = some (.int R.s) := by rw [modP (by omega), hD.mod]
  simp [lw8, md2, enc3, h5]
  have sz5 : SzE R 5 u := ⟨⟨by omega⟩, ⟨by omega⟩⟩
  have sz70 : SzE R 70 u := ⟨szcMono sz5.x (by omega), szcMono sz5.y (by omega)⟩
  obtain ⟨_, nL⟩ := norm_of_ok hD z20 sz70
  have nsm := nrm_small hD zD sz5 u1 u2 (by omega)
  obtain ⟨j8, h9⟩ : ∃ j8 : Option PyData, lw9 [none, none, some (.int D), some f.enc, some g.enc, some (.tuple [.int (2 * f.a * f.b), .int 0]), some (.tuple [.int (f.a * f.c), .int f.a]), some (encE R u), none, none, none, none, none, none, none, none, none, none] w5 =
      .ok (.next [none, none, some (.int D), some f.enc, some g.enc, some (.tuple [.int (2 * f.a * f.b), .int 0]), some (.tuple [.int (f.a * f.c), .int f.a]), some (encE R u), j8, none, none, none, none, none, none, none, none, none]) w5 := by
    have vn : ∃ β, vNe (encE R u) (.tuple [.int 0, .int 0]) = some β ∧ (R.nrm u ≠ 0 → β = true) := by
      refine ⟨!PyData.eqv (encE R u) (.tuple [.int 0, .int 0]), ?_, fun h => ?_⟩
      · have f1 : ∀ a b : Int, Fl2 1 (.tuple [.int a, .int b]) := fun a b => fl_tuple (fl_cons (fl_int 0 _) (fl_cons (fl_int 0 _) fl_nil))
        exact vNe_of (f1 _ _) (f1 _ _) (by omega)
      · rw [Bool.not_eq_true']
        rw [← Bool.not_eq_true]
        intro hz
        have hz : PyData.eqv (encR [R.x u, u.2]) (encR [0, 0]) = true := hz
        rw [eqv_row] at hz
        have hz := of_decide_eq_true hz
        simp only [List.cons.injEq, and_true] at hz
        obtain ⟨z1, z2⟩ := hz
        have := nrm_xy hD u
        rw [z1, z2] at this
        simp at this
        omega
    obtain ⟨β, vβ, hβ⟩ := vn
    by_cases z : R.nrm u = 0
    · refine ⟨none, ?_⟩
      cases β <;> simp [lw9, vβ, nL, z]
    · have bt := hβ z
      subst bt
      obtain ⟨X, x1, tX, x3, x4⟩ := principal_ok hD zD sz5 nsm z
      have nX := norm_ok (n := 0) tX.g30
      have ab : (if R.nrm u < 0 then -R.nrm u else R.nrm u) = (R.nrm u).natAbs := by omega
      rw [x4] at nX
      have t1 := L_times_ok (v := (0, 1)) hD z20 sz70 (k := 5) ⟨by rcases hD.s with e | e <;> simp [Rg.x, e] <;> exact ⟨by decide⟩, ⟨by decide⟩⟩ (by omega)
      rw [w_mul, ← w_enc] at t1
      have hw := has_t hD z20 tX.g30 (u := R.w u) (by have := w_sz hD z20 (m := u) ⟨szcMono sz5.x (by omega), szcMono sz5.y (by omega)⟩; exact ⟨szcMono this.x (by omega), szcMono this.y (by omega)⟩) ((x3 _ _).2 (OS.om _ _ (OS.mem (by simp))))
      obtain ⟨T, t3, t4⟩ := with_three hD zD sz5 tX x3
      have n3 := number_ok hD (n := 3) (by omega) ⟨by decide⟩
      refine ⟨some X.enc, ?_⟩
      simp [lw9, vβ, nL, z, x1, nX, ab, md2, t1, hw, t3, n3, t4]
  rw [h9]
  have r5 : iRange [.int 5] = some (rangeL 0 1 5) := range1 (by omega)
  unfold lw10
  simp [r5]
  generalize hW : sFor.go _ _ _ _ _ = W
  have : SStep (tenP D f g (some (.tuple [.int (2 * f.a * f.b), .int 0])) (some (.tuple [.int (f.a * f.c), .int f.a])) (some (encE R u)) j8 []) W := by
    rw [← hW]
    exact for_S (tenP D f g (some (.tuple [.int (2 * f.a * f.b), .int 0])) (some (.tuple [.int (f.a * f.c), .int f.a])) (some (encE R u)) j8) (fun d ds ρ w hp => ten_step hD z20 qf.gt.g30 hp) _ _ _ ⟨s5, none, none, none, rfl⟩
  clear hW
  obtain ⟨_, w6, rfl, s6, j9, j10, j11, rfl⟩ := this
  obtain ⟨r7, w7, h7, a7, b7, s7⟩ := L_draw_ok s6 (m := 40) (by omega) (by omega)
  obtain ⟨n, hn⟩ : ∃ n, 1 + r7 = n := ⟨_, rfl⟩
  have nb : 1 ≤ n ∧ n ≤ 40 := by omega
  simp [lw11, h7, hn]
  simp [lw12]
  obtain ⟨N, hN⟩ : ∃ N, n.toNat = N := ⟨_, rfl⟩
  have rn : iRange [.int 1, .int (n + 1)] = some (rangeL 1 1 N) := by
    rw [range2 (by omega) (by omega), ← hN]
    congr 2; omega
  unfold lw13
  simp [rn]
  generalize hW : sFor.go _ _ _ _ _ = W
  have : WEnd (duP D n f g (some (.tuple [.int (2 * f.a * f.b), .int 0])) (some (.tuple [.int (f.a * f.c), .int f.a])) (some (encE R u)) j8 j10 j11 []) w7 W := by
    rw [← hW]
    exact for_P (duP D n f g (some (.tuple [.int (2 * f.a * f.b), .int 0])) (some (.tuple [.int (f.a * f.c), .int f.a])) (some (encE R u)) j8 j10 j11) (fun d ds ρ hp => du_step z20 nb hp) _ _ ⟨0, N, j9, none, rfl, by omega, rfl⟩
  clear hW
  obtain ⟨_, rfl, c, r, j9', j14, ed, cr, rfl⟩ := this
  have r0 : r = 0 := by cases r with
    | zero => rfl
    | succ r => rw [rangeL] at ed; cases ed
  subst r0
  have cN : c = n.toNat := by omega
  subst cN
  have io := ideals_ok z20 nb
  have al := accL_len (D := D) nb n.toNat
  have sd := fSortD_rows (rs := accL D n n.toNat) (fun r hr => accL_ne hr) (by show _ ≤ 16777216; omega)
  have sh := share_ok qf.gt.g30 qg.gt.g30
  have n1 := norm_ok (n := 0) qf.gt.g30
  have n2 := norm_ok (n := 0) qg.gt.g30
  have ce : ∀ m : Nat, decide ((m : Int) = 1) = decide (m = 1) := fun m => decide_eq_decide.2 (by omega)
  simp [lw14, io, sd, vNe_rows, sh, n1, n2, L_common_ok, ce, L_truth_t]
  have va : vAdd f.enc (.tuple [.int 1]) = some (.tuple [.int f.a, .int f.b, .int f.c, .int 1]) := by
    unfold vAdd Fm.enc
    exact if_pos (by show 4 ≤ sizeLine; decide)
  have fl : fList [f.enc] = some (.list [.int f.a, .int f.b, .int f.c]) := rfl
  simp [lw15, va, fl]
  obtain ⟨r8, w8, h8, a8, b8, s8⟩ := L_draw_ok s7 (m := 9) (by omega) (by omega)
  obtain ⟨z, hz, ez⟩ : ∃ z, z ∈ wrongs f ∧ vIx (.list (wrongs f)) (.int r8) = some z := by
    have hk : r8.toNat < (wrongs f).length := by show r8.toNat < 9; omega
    refine ⟨(wrongs f)[r8.toNat], List.getElem_mem hk, ?_⟩
    have := vIx_list (xs := wrongs f) (j := r8.toNat) (v := (wrongs f)[r8.toNat]) (by simp [hk])
    rwa [Int.toNat_of_nonneg a8] at this
  obtain ⟨β, q1, q2⟩ := wrong_ok z20 qf.gt.g30 hz
  simp only [wrongs, Fm.enc] at ez
  simp [lw16, h8, ez]
  simp [lw17, q1, q2, L_truth_t]
  exact .mk _
end M

set_option Elab.async false
set_option linter.all false
set_option maxRecDepth 100000
set_option maxHeartbeats 4000000
namespace M
open PySem PySem.Spec PyProof.Rows L2
theorem cx_out {P : Program} {w : World} {H : Hp} {s : Shared} {e : Value} {s' : Shared} (h : L2.CX P w [] H s (fun _ _ _ => False) e s') : False := by
  obtain ⟨_, _, _, _, _, _, _, _, _, _, _, _, z⟩ := h
  exact z
theorem law_ok {P : Program} {w : World} {K : PySem.W.Frag} {mg : PySem.Str → Option Value} {base : Heap} (T : Txt K mg) {f : Addr} {fd : FuncData} (F : Fun K "law" "law" s_law f fd) : FnOk P w K mg base (L2.CX P w) 9 f fd ["script"] (spLaw K) :=
  law_F F sc_law rfl (by decide) (fun cdv A outer s H E hr => der_law0 T f cdv A outer s H E hr) (fun H0 F0 b cdv A outer s H E hr => der_law T f H0 F0 b cdv A outer s H E hr) law_math
theorem law_all {P : Program} {w : World} {K : PySem.W.Frag} {h : Heap} {mg : PySem.Str → Option Value} {fa : Addr} (KX : K.In h) (G : h.Ns mainGlobals mg) (hfa : mg "law" = some (.ref fa)) (T : Txt K mg) :
    ∃ fd : FuncData, (∀ (s : Shared) (v : Value), BindsTo s fd ⟨[v], []⟩ [("script", v)]) ∧ ∀ base : Heap, K.In base → base.Ns mainGlobals mg → FnOk P w K mg base (L2.CX P w) 9 fa fd ["script"] (spLaw K) := by
  obtain ⟨f, fd, F, b, g⟩ := T.f_law
  rw [hfa] at g
  cases g
  refine ⟨fd, fun s v => ?_, fun base _ _ => law_ok T F⟩
  obtain ⟨oc, od, kV, doc, pm, an, cdv, ct, osl, rfl, lk, hcd⟩ := F.ex
  exact .of_eq rfl
end M
open PySem PySem.W PyProof.Rows
set_option maxRecDepth 100000 in
set_option maxHeartbeats 0 in
theorem PySem.Challenge.cw_rootsooth_k13_whole_ideals_as_sets_of_me_holds : PySem.Challenge.rw_rootsooth_k13_whole_ideals_as_sets_of_me.Holds := by
  w_on; o_law; k_head; (case hw => w_witness2)
  k_fill
  refine L2.walk_of (l := PySem.Challenge.rw_rootsooth_k13_whole_ideals_as_sets_of_me) (n := 63) (k := 9) (x := "script") (CX := fun w => L2.CX PySem.Challenge.rw_rootsooth_k13_whole_ideals_as_sets_of_me.prog w) (sp := fun w => M.spLaw _) rfl (by decide) rfl ⟨rfl, by decide, by decide⟩ (fun w h Y => PySem.W.kIn_of Y) ?F (fun _ _ a ns hl _ hS => ⟨a, ns, rfl, hS, hl, fun _ => rfl⟩) (fun _ _ _ _ _ h => M.cx_out h)
  case F =>
    intro w mg fa h KX G hmg
    refine' M.law_all KX G hmg ⟨(M.def_mk G KX (fun _ _ _ _ _ _ us hl => match us, hl with | [_, _], _ => rfl) ?a6 ?l6 ?c6 ?k6),
      (M.def_mk G KX (fun _ _ _ _ _ _ us hl => match us, hl with | [_], _ => rfl) ?a7 ?l7 ?c7 ?k7),
      (M.def_mk G KX (fun _ _ _ _ _ _ us hl => match us, hl with | [_, _], _ => rfl) ?a8 ?l8 ?c8 ?k8),
      (M.def_mk G KX (fun _ _ _ _ _ _ us hl => match us, hl with | [_], _ => rfl) ?a9 ?l9 ?c9 ?k9),
      (M.def_mk G KX (fun _ _ _ _ _ _ us hl => match us, hl with | [_, _, _, _], _ => rfl) ?a12 ?l12 ?c12 ?k12),
      (M.def_mk G KX (fun _ _ _ _ _ _ us hl => match us, hl with | [_, _, _], _ => rfl) ?a13 ?l13 ?c13 ?k13),
      (M.def_mk G KX (fun _ _ _ _ _ _ us hl => match us, hl with | [_], _ => rfl) ?a14 ?l14 ?c14 ?k14),
      (M.def_mk G KX (fun _ _ _ _ _ _ us hl => match us, hl with | [_, _], _ => rfl) ?a15 ?l15 ?c15 ?k15),
      (M.def_mk G KX (fun _ _ _ _ _ _ us hl => match us, hl with | [_], _ => rfl) ?a17 ?l17 ?c17 ?k17),
      (M.def_mk G KX (fun _ _ _ _ _ _ us hl => match us, hl with | [_, _], _ => rfl) ?a18 ?l18 ?c18 ?k18),
      (M.def_mk G KX (fun _ _ _ _ _ _ us hl => match us, hl with | [_, _], _ => rfl) ?a20 ?l20 ?c20 ?k20),
      (M.def_mk G KX (fun _ _ _ _ _ _ us hl => match us, hl with | [_, _, _], _ => rfl) ?a21 ?l21 ?c21 ?k21),
      (M.def_mk G KX (fun _ _ _ _ _ _ us hl => match us, hl with | [_], _ => rfl) ?a22 ?l22 ?c22 ?k22),
      (M.def_mk G KX (fun _ _ _ _ _ _ us hl => match us, hl with | [_, _], _ => rfl) ?a23 ?l23 ?c23 ?k23),
      (M.def_mk G KX (fun _ _ _ _ _ _ us hl => match us, hl with | [_, _], _ => rfl) ?a26 ?l26 ?c26 ?k26),
      (M.def_mk G KX (fun _ _ _ _ _ _ us hl => match us, hl with | [_], _ => rfl) ?a27 ?l27 ?c27 ?k27),
      (M.def_mk G KX (fun _ _ _ _ _ _ us hl => match us, hl with | [_, _], _ => rfl) ?a28 ?l28 ?c28 ?k28),
      (M.def_mk G KX (fun _ _ _ _ _ _ us hl => match us, hl with | [_], _ => rfl) ?a29 ?l29 ?c29 ?k29),
      (M.def_mk G KX (fun _ _ _ _ _ _ us hl => match us, hl with | [_, _], _ => rfl) ?a30 ?l30 ?c30 ?k30),
      (M.def_mk G KX (fun _ _ _ _ _ _ us hl => match us, hl with | [_, _], _ => rfl) ?a31 ?l31 ?c31 ?k31),
      (M.def_mk G KX (fun _ _ _ _ _ _ us hl => match us, hl with | [_], _ => rfl) ?a32 ?l32 ?c32 ?k32),
      (M.def_mk G KX (fun _ _ _ _ _ _ us hl => match us, hl with | [_, _, _], _ => rfl) ?a33 ?l33 ?c33 ?k33),
      (M.def_mk G KX (fun _ _ _ _ _ _ us hl => match us, hl with | [_, _, _], _ => rfl) ?a34 ?l34 ?c34 ?k34),
      (M.def_mk G KX (fun _ _ _ _ _ _ us hl => match us, hl with | [_, _, _], _ => rfl) ?a35 ?l35 ?c35 ?k35),
      (M.def_mk G KX (fun _ _ _ _ _ _ us hl => match us, hl with | [_, _, _], _ => rfl) ?a36 ?l36 ?c36 ?k36),
      (M.def_mk G KX (fun _ _ _ _ _ _ us hl => match us, hl with | [_], _ => rfl) ?a37 ?l37 ?c37 ?k37),
      (M.def_mk G KX (fun _ _ _ _ _ _ us hl => match us, hl with | [_, _, _], _ => rfl) ?a38 ?l38 ?c38 ?k38),
      (M.def_mk G KX (fun _ _ _ _ _ _ us hl => match us, hl with | [_, _, _], _ => rfl) ?a39 ?l39 ?c39 ?k39),
      (M.def_mk G KX (fun _ _ _ _ _ _ us hl => match us, hl with | [_, _, _, _, _], _ => rfl) ?a40 ?l40 ?c40 ?k40),
      (M.def_mk G KX (fun _ _ _ _ _ _ us hl => match us, hl with | [_, _], _ => rfl) ?a41 ?l41 ?c41 ?k41),
      (M.def_mk G KX (fun _ _ _ _ _ _ us hl => match us, hl with | [_, _], _ => rfl) ?a42 ?l42 ?c42 ?k42),
      (M.def_mk G KX (fun _ _ _ _ _ _ us hl => match us, hl with | [_, _, _], _ => rfl) ?a43 ?l43 ?c43 ?k43),
      (M.def_mk G KX (fun _ _ _ _ _ _ us hl => match us, hl with | [_, _, _], _ => rfl) ?a44 ?l44 ?c44 ?k44),
      (M.def_mk G KX (fun _ _ _ _ _ _ us hl => match us, hl with | [_], _ => rfl) ?a45 ?l45 ?c45 ?k45),
      (M.def_mk G KX (fun _ _ _ _ _ _ us hl => match us, hl with | [_, _], _ => rfl) ?a46 ?l46 ?c46 ?k46),
      (M.def_mk G KX (fun _ _ _ _ _ _ us hl => match us, hl with | [_], _ => rfl) ?a48 ?l48 ?c48 ?k48),
      (M.def_mk G KX (fun _ _ _ _ _ _ us hl => match us, hl with | [_, _], _ => rfl) ?a49 ?l49 ?c49 ?k49),
      (M.def_mk G KX (fun _ _ _ _ _ _ us hl => match us, hl with | [_, _], _ => rfl) ?a50 ?l50 ?c50 ?k50),
      (M.def_mk G KX (fun _ _ _ _ _ _ us hl => match us, hl with | [_, _], _ => rfl) ?a51 ?l51 ?c51 ?k51),
      (M.def_mk G KX (fun _ _ _ _ _ _ us hl => match us, hl with | [_], _ => rfl) ?a52 ?l52 ?c52 ?k52),
      (M.def_mk G KX (fun _ _ _ _ _ _ us hl => match us, hl with | [_, _], _ => rfl) ?a53 ?l53 ?c53 ?k53),
      (M.def_mk G KX (fun _ _ _ _ _ _ us hl => match us, hl with | [_, _], _ => rfl) ?a54 ?l54 ?c54 ?k54),
      (M.def_mk G KX (fun _ _ _ _ _ _ us hl => match us, hl with | [_], _ => rfl) ?a55 ?l55 ?c55 ?k55),
      (M.def_mk G KX (fun _ _ _ _ _ _ us hl => match us, hl with | [_, _, _], _ => rfl) ?a56 ?l56 ?c56 ?k56),
      (M.def_mk G KX (fun _ _ _ _ _ _ us hl => match us, hl with | [_, _, _], _ => rfl) ?a57 ?l57 ?c57 ?k57),
      (M.def_mk G KX (fun _ _ _ _ _ _ us hl => match us, hl with | [_, _], _ => rfl) ?a58 ?l58 ?c58 ?k58),
      (M.def_mk G KX (fun _ _ _ _ _ _ us hl => match us, hl with | [_, _, _], _ => rfl) ?a59 ?l59 ?c59 ?k59),
      (M.def_mk G KX (fun _ _ _ _ _ _ us hl => match us, hl with | [_, _, _], _ => rfl) ?a60 ?l60 ?c60 ?k60),
      (M.def_mk G KX (fun _ _ _ _ _ _ us hl => match us, hl with | [_, _], _ => rfl) ?a61 ?l61 ?c61 ?k61),
      (M.def_mk G KX (fun _ _ _ _ _ _ us hl => match us, hl with | [_, _, _, _], _ => rfl) ?a62 ?l62 ?c62 ?k62),
      (M.def_mk G KX (fun _ _ _ _ _ _ us hl => match us, hl with | [_], _ => rfl) ?a63 ?l63 ?c63 ?k63),
      (PySem.W.mg_none_of KX G ?z_abs),
      (PySem.W.mg_none_of KX G ?z_all),
      (PySem.W.mg_none_of KX G ?z_bool),
      (PySem.W.mg_none_of KX G ?z_int),
      (PySem.W.mg_none_of KX G ?z_isinstance),
      (PySem.W.mg_none_of KX G ?z_len),
      (PySem.W.mg_none_of KX G ?z_list),
      (PySem.W.mg_none_of KX G ?z_range),
      (PySem.W.mg_none_of KX G ?z_sorted),
      (PySem.W.mg_none_of KX G ?z_tuple),
      (M.exc_mk G KX ?xa_NotPossible ?xq_NotPossible ?xk_NotPossible ?xs_NotPossible ?xi_NotPossible ?xt_NotPossible ?xr_NotPossible),
      (M.exc_mk G KX ?xa_TooLarge ?xq_TooLarge ?xk_TooLarge ?xs_TooLarge ?xi_TooLarge ?xt_TooLarge ?xr_TooLarge),
      (M.cint_mk G KX ?co_MOST),
      (M.cint_mk G KX ?co_MOST_MODULUS),
      (M.cint_mk G KX ?co_MOST_NORM)⟩
    (case a6 => k_is)
    (case l6 => k_is)
    (case c6 => k_is)
    (case k6 => k_is)
    (case a7 => k_is)
    (case l7 => k_is)
    (case c7 => k_is)
    (case k7 => k_is)
    (case a8 => k_is)
    (case l8 => k_is)
    (case c8 => k_is)
    (case k8 => k_is)
    (case a9 => k_is)
    (case l9 => k_is)
    (case c9 => k_is)
    (case k9 => k_is)
    (case a12 => k_is)
    (case l12 => k_is)
    (case c12 => k_is)
    (case k12 => k_is)
    (case a13 => k_is)
    (case l13 => k_is)
    (case c13 => k_is)
    (case k13 => k_is)
    (case a14 => k_is)
    (case l14 => k_is)
    (case c14 => k_is)
    (case k14 => k_is)
    (case a15 => k_is)
    (case l15 => k_is)
    (case c15 => k_is)
    (case k15 => k_is)
    (case a17 => k_is)
    (case l17 => k_is)
    (case c17 => k_is)
    (case k17 => k_is)
    (case a18 => k_is)
    (case l18 => k_is)
    (case c18 => k_is)
    (case k18 => k_is)
    (case a20 => k_is)
    (case l20 => k_is)
    (case c20 => k_is)
    (case k20 => k_is)
    (case a21 => k_is)
    (case l21 => k_is)
    (case c21 => k_is)
    (case k21 => k_is)
    (case a22 => k_is)
    (case l22 => k_is)
    (case c22 => k_is)
    (case k22 => k_is)
    (case a23 => k_is)
    (case l23 => k_is)
    (case c23 => k_is)
    (case k23 => k_is)
    (case a26 => k_is)
    (case l26 => k_is)
    (case c26 => k_is)
    (case k26 => k_is)
    (case a27 => k_is)
    (case l27 => k_is)
    (case c27 => k_is)
    (case k27 => k_is)
    (case a28 => k_is)
    (case l28 => k_is)
    (case c28 => k_is)
    (case k28 => k_is)
    (case a29 => k_is)
    (case l29 => k_is)
    (case c29 => k_is)
    (case k29 => k_is)
    (case a30 => k_is)
    (case l30 => k_is)
    (case c30 => k_is)
    (case k30 => k_is)
    (case a31 => k_is)
    (case l31 => k_is)
    (case c31 => k_is)
    (case k31 => k_is)
    (case a32 => k_is)
    (case l32 => k_is)
    (case c32 => k_is)
    (case k32 => k_is)
    (case a33 => k_is)
    (case l33 => k_is)
    (case c33 => k_is)
    (case k33 => k_is)
    (case a34 => k_is)
    (case l34 => k_is)
    (case c34 => k_is)
    (case k34 => k_is)
    (case a35 => k_is)
    (case l35 => k_is)
    (case c35 => k_is)
    (case k35 => k_is)
    (case a36 => k_is)
    (case l36 => k_is)
    (case c36 => k_is)
    (case k36 => k_is)
    (case a37 => k_is)
    (case l37 => k_is)
    (case c37 => k_is)
    (case k37 => k_is)
    (case a38 => k_is)
    (case l38 => k_is)
    (case c38 => k_is)
    (case k38 => k_is)
    (case a39 => k_is)
    (case l39 => k_is)
    (case c39 => k_is)
    (case k39 => k_is)
    (case a40 => k_is)
    (case l40 => k_is)
    (case c40 => k_is)
    (case k40 => k_is)
    (case a41 => k_is)
    (case l41 => k_is)
    (case c41 => k_is)
    (case k41 => k_is)
    (case a42 => k_is)
    (case l42 => k_is)
    (case c42 => k_is)
    (case k42 => k_is)
    (case a43 => k_is)
    (case l43 => k_is)
    (case c43 => k_is)
    (case k43 => k_is)
    (case a44 => k_is)
    (case l44 => k_is)
    (case c44 => k_is)
    (case k44 => k_is)
    (case a45 => k_is)
    (case l45 => k_is)
    (case c45 => k_is)
    (case k45 => k_is)
    (case a46 => k_is)
    (case l46 => k_is)
    (case c46 => k_is)
    (case k46 => k_is)
    (case a48 => k_is)
    (case l48 => k_is)
    (case c48 => k_is)
    (case k48 => k_is)
    (case a49 => k_is)
    (case l49 => k_is)
    (case c49 => k_is)
    (case k49 => k_is)
    (case a50 => k_is)
    (case l50 => k_is)
    (case c50 => k_is)
    (case k50 => k_is)
    (case a51 => k_is)
    (case l51 => k_is)
    (case c51 => k_is)
    (case k51 => k_is)
    (case a52 => k_is)
    (case l52 => k_is)
    (case c52 => k_is)
    (case k52 => k_is)
    (case a53 => k_is)
    (case l53 => k_is)
    (case c53 => k_is)
    (case k53 => k_is)
    (case a54 => k_is)
    (case l54 => k_is)
    (case c54 => k_is)
    (case k54 => k_is)
    (case a55 => k_is)
    (case l55 => k_is)
    (case c55 => k_is)
    (case k55 => k_is)
    (case a56 => k_is)
    (case l56 => k_is)
    (case c56 => k_is)
    (case k56 => k_is)
    (case a57 => k_is)
    (case l57 => k_is)
    (case c57 => k_is)
    (case k57 => k_is)
    (case a58 => k_is)
    (case l58 => k_is)
    (case c58 => k_is)
    (case k58 => k_is)
    (case a59 => k_is)
    (case l59 => k_is)
    (case c59 => k_is)
    (case k59 => k_is)
    (case a60 => k_is)
    (case l60 => k_is)
    (case c60 => k_is)
    (case k60 => k_is)
    (case a61 => k_is)
    (case l61 => k_is)
    (case c61 => k_is)
    (case k61 => k_is)
    (case a62 => k_is)
    (case l62 => k_is)
    (case c62 => k_is)
    (case k62 => k_is)
    (case a63 => k_is)
    (case l63 => k_is)
    (case c63 => k_is)
    (case k63 => k_is)
    (case z_abs => k_is)
    (case z_all => k_is)
    (case z_bool => k_is)
    (case z_int => k_is)
    (case z_isinstance => k_is)
    (case z_len => k_is)
    (case z_list => k_is)
    (case z_range => k_is)
    (case z_sorted => k_is)
    (case z_tuple => k_is)
    (case xa_NotPossible => k_is)
    (case xq_NotPossible => k_exc)
    (case xk_NotPossible => k_is)
    (case xs_NotPossible => k_is)
    (case xi_NotPossible => k_is)
    (case xt_NotPossible => k_is)
    (case xr_NotPossible => k_is)
    (case xa_TooLarge => k_is)
    (case xq_TooLarge => k_exc)
    (case xk_TooLarge => k_is)
    (case xs_TooLarge => k_is)
    (case xi_TooLarge => k_is)
    (case xt_TooLarge => k_is)
    (case xr_TooLarge => k_is)
    (case co_MOST => k_is)
    (case co_MOST_MODULUS => k_is)
    (case co_MOST_NORM => k_is)

